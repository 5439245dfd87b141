import PyProof.Rows.All
import Wide.All
import OpenK.AllK
import Wide.FinOn
import KE.KStateDown
import Lean
import HandS.ForMost
import HandS.Exc
import HandS.Flow
import HandS.DictComp
import HandS.Style
import HandS.Wide
import HandS.WideBits
import HandS.IsInst
import HandS.Codes
import HandS.Walk
import HandS.Words
import HandS.WordsExc
import HandS.Defaults
import HandS.Head0
import HandS.Head1
import HandS.Head2
import HandS.HeadEnd
import HandS.HeadHook1
import HandS.HeadHook2
import HandS.SortInts
import PyProof.Rows.SortShellAny
import PyProof.InstNe
import KE.DataMinMax
import KE.SortData
import KE.IntBitsLaws
import KE.BitLaws
import HandS.Deep
import HandS.SetKeys
import PyProof.Rows.StrMul
import HandS.TupLe
import HandS.Property
import HandS.Conv
import HandS.NoneIn
import HandS.SetFor
import HandS.Strs
import HandS.Sort
import HandS.StrMore
import HandS.ExcInit
import HandS.ExcSuper
import HandS.Nested
import KE.KExcSuper
import HandS.ExcField
import HandS.TryMany
import HandS.ExcIs
import HandS.TryOnly
import HandS.CallSlots
import KE.KDictDisplayH
import PyProof.StrLawsFirst
import KE.GoesZip
import KE.GoesMore
import HandS.Zip
import PyProof.CallType
import PyProof.ZipIter
import PyProof.TupleIter
import PyProof.Rows.CallKwBuiltin
import HandS.Star
import HandS.OwnEq
import PySem.Challenge.RW_wholesound_k13_rests_of_rests
set_option Elab.async false
set_option linter.all false
set_option maxRecDepth 100000
set_option maxHeartbeats 4000000
set_option exponentiation.threshold 100000
namespace Pre
open PySem PySem.Spec PyProof.Rows L2
/-! ### heaps -/
theorem same_upd {H : Hp} {p : Addr} {o : HO} (h : H p = none) : Same H (upd H p o) := fun b x e => by
  rw [upd_ne (ne_of_none e h)]
  exact e
/-- a fresh thing that is then changed is no change of what was -/
theorem same_over {H H' : Hp} {p : Addr} {o : HO} (n : H p = none) (s : Same H H') : Same H (upd H' p o) := fun b x e => by
  rw [upd_ne (ne_of_none e n)]
  exact s b x e
theorem Same.tup {K : PySem.W.Frag} {H H' : Hp} {a : Addr} {xs : List V} (e : Same H H') (h : SqT K H a xs) : SqT K H' a xs := by
  rcases h with (h | ⟨o, h⟩) | h
  · exact .inl (.inl (e _ _ h))
  · exact .inl (.inr ⟨o, e _ _ h⟩)
  · exact .inr h
mutual
theorem dp_same {K : PySem.W.Frag} {H H' : Hp} (s : Same H H') : ∀ (d : PyData) (v : V), Dp K H v d → Dp K H' v d
  | .none, _, h => by cases h; exact .non
  | .bool _, _, h => by cases h; exact .bl _
  | .int _, _, h => by cases h; exact .int _
  | .str _, _, h => by cases h; exact .str _
  | .list ds, _, h => by cases h with | lst a b => exact .lst (s.seq a) (dps_same s ds _ b)
  | .tuple ds, _, h => by cases h with | tup a b => exact .tup (Same.tup s a) (dps_same s ds _ b)
  | .dict _, _, h => nomatch h
theorem dps_same {K : PySem.W.Frag} {H H' : Hp} (s : Same H H') : ∀ (ds : List PyData) (vs : List V), DpAll K H vs ds → DpAll K H' vs ds
  | [], _, h => by cases h; exact .nil
  | d :: ds, _, h => by cases h with | cons a b => exact .cons (dp_same s d _ a) (dps_same s ds _ b)
end
theorem dp_ints {K : PySem.W.Frag} {H : Hp} : ∀ ns : List Int, DpAll K H (ns.map V.int) (ns.map PyData.int)
  | [] => .nil
  | n :: r => .cons (.int n) (dp_ints r)
theorem eqv_ints : ∀ ns ms : List Int, PyData.eqvAll (ns.map PyData.int) (ms.map PyData.int) = decide (ns = ms)
  | [], [] => rfl
  | [], _ :: _ => rfl
  | _ :: _, [] => rfl
  | n :: r, m :: q => by
    show (PyData.eqv (.int n) (.int m) && PyData.eqvAll (r.map PyData.int) (q.map PyData.int)) = decide (n :: r = m :: q)
    rw [eqv_ints r q]
    show ((n == m) && decide (r = q)) = decide (n :: r = m :: q)
    by_cases h : n = m
    · subst h; simp
    · simp [h]
theorem lay_ints : ∀ ns : List Int, PyData.canLayAll0 (ns.map PyData.int) = true
  | [] => rfl
  | n :: r => by
    show (PyData.canLay0 (.int n) && PyData.canLayAll0 (r.map PyData.int)) = true
    rw [lay_ints r]
    rfl
theorem depth_ints : ∀ ns : List Int, PyData.depthAll (ns.map PyData.int) = 0
  | [] => by simp [PyData.depthAll]
  | n :: r => by
    show PyData.depthAll (.int n :: r.map PyData.int) = 0
    rw [PyData.depthAll, depth_ints r]
    simp [PyData.depth]
theorem shaped_ints (ns : List Int) : SeqAt.shaped (.list (ns.map PyData.int)) = true := by
  unfold SeqAt.shaped
  rw [PyData.canLay0, lay_ints, PyData.depth, depth_ints]
  rfl
theorem shaped_tup (ns : List Int) : SeqAt.shaped (.tuple (ns.map PyData.int)) = true := by
  unfold SeqAt.shaped
  rw [PyData.canLay0, lay_ints, PyData.depth, depth_ints]
  rfl
/-! ### comparisons of lists and tuples of whole numbers that are told alike -/
theorem ne_tup {K : PySem.W.Frag} {H : Hp} {a b : Addr} {ns : List Int} {Q : V → Hp → Prop} (ha : SqT K H a (ns.map V.int)) (hb : SqT K H b (ns.map V.int)) (q : Q (.bl false) H) : rNeD K (.ref a) (.ref b) H Q := by
  refine ⟨.tuple (ns.map PyData.int), .tuple (ns.map PyData.int), .tup ha (dp_ints ns), .tup hb (dp_ints ns), shaped_tup ns, shaped_tup ns, ?_⟩
  rw [PyData.eqv, eqv_ints, decide_eq_true rfl]
  exact q
theorem eq_tup {K : PySem.W.Frag} {H : Hp} {a b : Addr} {ns : List Int} {Q : V → Hp → Prop} (ha : SqT K H a (ns.map V.int)) (hb : SqT K H b (ns.map V.int)) (q : Q (.bl true) H) : rEqD K (.ref a) (.ref b) H Q := by
  refine ⟨.tuple (ns.map PyData.int), .tuple (ns.map PyData.int), .tup ha (dp_ints ns), .tup hb (dp_ints ns), shaped_tup ns, shaped_tup ns, ?_⟩
  rw [PyData.eqv, eqv_ints, decide_eq_true rfl]
  exact q
/-- lists of whole numbers, compared -/
theorem eqD_lst {K : PySem.W.Frag} {H : Hp} {a b : Addr} {ns ms : List Int} {Q : V → Hp → Prop} (ha : SqL K H a (ns.map V.int)) (hb : SqL K H b (ms.map V.int)) (q : Q (.bl (decide (ns = ms))) H) : rEqD K (.ref a) (.ref b) H Q := by
  refine ⟨.list (ns.map PyData.int), .list (ms.map PyData.int), .lst ha (dp_ints ns), .lst hb (dp_ints ms), shaped_ints ns, shaped_ints ms, ?_⟩
  rw [PyData.eqv, eqv_ints]
  exact q
theorem neD_lst {K : PySem.W.Frag} {H : Hp} {a b : Addr} {ns ms : List Int} {Q : V → Hp → Prop} (ha : SqL K H a (ns.map V.int)) (hb : SqL K H b (ms.map V.int)) (q : Q (.bl (!decide (ns = ms))) H) : rNeD K (.ref a) (.ref b) H Q := by
  refine ⟨.list (ns.map PyData.int), .list (ms.map PyData.int), .lst ha (dp_ints ns), .lst hb (dp_ints ms), shaped_ints ns, shaped_ints ms, ?_⟩
  rw [PyData.eqv, eqv_ints]
  exact q
theorem ne_lst {K : PySem.W.Frag} {H : Hp} {a b : Addr} {ns : List Int} {Q : V → Hp → Prop} (ha : SqL K H a (ns.map V.int)) (hb : SqL K H b (ns.map V.int)) (q : Q (.bl false) H) : rNeD K (.ref a) (.ref b) H Q :=
  neD_lst ha hb (by rw [decide_eq_true rfl]; exact q)
theorem eq_lst {K : PySem.W.Frag} {H : Hp} {a b : Addr} {ns : List Int} {Q : V → Hp → Prop} (ha : SqL K H a (ns.map V.int)) (hb : SqL K H b (ns.map V.int)) (q : Q (.bl true) H) : rEqD K (.ref a) (.ref b) H Q :=
  eqD_lst ha hb (by rw [decide_eq_true rfl]; exact q)
/-! ### powers -/
def CPowW (i j : Int) : Prop := 0 ≤ j ∧ (Builtin.Int.intBits i : Int) * j ≤ 2 ^ 27
theorem op_powW {X : Cx} : OpR X (binaryOp .Pow) (rI CPowW fun i j => .int (i ^ j.toNat)) := opI fun _ _ _ _ _ _ _ hc q => pow_int hc.1 hc.2 q
/-! ### comprehensions whose parts leave what is tracked as it is: sel tells of each item what comes of it -/
theorem take_fm {α : Type} {l : List (Option α)} {i : Nat} {o : Option α} (h : l[i]? = some o) : (l.take (i + 1)).filterMap id = (l.take i).filterMap id ++ o.toList := by
  rw [List.take_add_one, h, List.filterMap_append]
  cases o <;> rfl
theorem fm_len {α : Type} (l : List (Option α)) (i : Nat) : ((l.take i).filterMap id).length ≤ l.length :=
  Nat.le_trans (List.length_filterMap_le _ _) (by rw [List.length_take]; omega)
theorem lc_selL {K : PySem.W.Frag} {a : Addr} {xs : List V} {j : Nat} {tt : TT} {te : TE} {vs : List Nat} {σ : L2.St} {H1 : Hp} {D : Addr} {Qd : Hp → Prop} (sel : List (Option V)) (nD : H1 D = none) (hS : SqL K H1 a xs) (hlen : sel.length = xs.length) (hz : xs.length < sizeLine)
    (hw : ∀ x, wipe ((wipe σ vs).set j (some x)) vs = wipe σ vs)
    (hs : ∀ (i : Nat) (x : V) (o : Option V) (H' : Hp), xs[i]? = some x → sel[i]? = some o → Same H1 H' → ∀ Qt : Option V → Hp → Prop, (∀ H'', Same H' H'' → Qt o H'') →
      tt ((wipe σ vs).set j (some x)) H' fun b H3 => if b = true then te ((wipe σ vs).set j (some x)) H3 fun y H4 => Qt (some y) H4 else Qt none H3)
    (hd : ∀ H', Same H1 H' → H' D = some (.lst (sel.filterMap id)) → Qd H') :
    ∃ W : Nat → Nat → Hp → Prop, (∃ m, W 0 m (upd H1 D (.lst []))) ∧ ∀ i m H, W i m H →
      ((Itl K a).stop i H ∧ Qd H) ∨ ((Itl K a).go i H ∧ ∃ Nx : Hp → Prop, (∀ H', Nx H' → ∃ m', m' < m ∧ W (i + 1) m' H') ∧ ∀ x H', (Itl K a).yld i H x H' → gName j x (wipe σ vs) H' fun σ2 H2 => wipe σ2 vs = wipe σ vs ∧ tt σ2 H2 fun b H3 =>
        if b = true then te σ2 H3 fun y H4 => ∃ acc, H4 D = some (.lst acc) ∧ acc.length < sizeLine ∧ Nx (upd H4 D (.lst (acc ++ [y]))) else Nx H3) := by
  refine lc_list (K := K) (a := a) (xs := xs) (fun i H => Same H1 H ∧ H D = some (.lst ((sel.take i).filterMap id))) ⟨same_upd nD, upd_same⟩ (fun i H _ p => p.1.seq hS) ?_ ?_
  · rintro i x H hx ⟨s, hD⟩
    refine ⟨hw x, ?_⟩
    have hi : i < sel.length := by rw [hlen]; exact (List.getElem?_eq_some_iff.mp hx).1
    have ho : sel[i]? = some sel[i] := List.getElem?_eq_getElem hi
    have hl : ((sel.take i).filterMap id).length < sizeLine := Nat.lt_of_le_of_lt (fm_len sel i) (by omega)
    refine hs i x sel[i] H hx ho s (fun o H4 => match o with
      | some y => ∃ acc, H4 D = some (.lst acc) ∧ acc.length < sizeLine ∧ (Same H1 (upd H4 D (.lst (acc ++ [y]))) ∧ (upd H4 D (.lst (acc ++ [y]))) D = some (.lst ((sel.take (i + 1)).filterMap id)))
      | none => Same H1 H4 ∧ H4 D = some (.lst ((sel.take (i + 1)).filterMap id))) fun H4 s4 => ?_
    generalize sel[i] = o at ho ⊢
    cases o with
    | some y =>
      refine ⟨_, s4 _ _ hD, hl, same_over nD (s.trans s4), ?_⟩
      rw [upd_same, take_fm ho]
      rfl
    | none =>
      refine ⟨s.trans s4, ?_⟩
      rw [take_fm ho, s4 _ _ hD]
      simp
  · rintro H ⟨s, hD⟩
    refine hd H s ?_
    rw [hD, ← hlen, List.take_length]
theorem lc_selR {lo : Int} {n : Nat} {j : Nat} {tt : TT} {te : TE} {vs : List Nat} {σ : L2.St} {H1 : Hp} {D : Addr} {Qd : Hp → Prop} (sel : List (Option V)) (nD : H1 D = none) (hlen : sel.length = n) (hz : n < sizeLine)
    (hw : ∀ x, wipe ((wipe σ vs).set j (some x)) vs = wipe σ vs)
    (hs : ∀ (i : Nat) (o : Option V) (H' : Hp), i < n → sel[i]? = some o → Same H1 H' → ∀ Qt : Option V → Hp → Prop, (∀ H'', Same H' H'' → Qt o H'') →
      tt ((wipe σ vs).set j (some (.int (lo + (i : Int))))) H' fun b H3 => if b = true then te ((wipe σ vs).set j (some (.int (lo + (i : Int))))) H3 fun y H4 => Qt (some y) H4 else Qt none H3)
    (hd : ∀ H', Same H1 H' → H' D = some (.lst (sel.filterMap id)) → Qd H') :
    ∃ W : Nat → Nat → Hp → Prop, (∃ m, W 0 m (upd H1 D (.lst []))) ∧ ∀ i m H, W i m H →
      ((Itr lo n).stop i H ∧ Qd H) ∨ ((Itr lo n).go i H ∧ ∃ Nx : Hp → Prop, (∀ H', Nx H' → ∃ m', m' < m ∧ W (i + 1) m' H') ∧ ∀ x H', (Itr lo n).yld i H x H' → gName j x (wipe σ vs) H' fun σ2 H2 => wipe σ2 vs = wipe σ vs ∧ tt σ2 H2 fun b H3 =>
        if b = true then te σ2 H3 fun y H4 => ∃ acc, H4 D = some (.lst acc) ∧ acc.length < sizeLine ∧ Nx (upd H4 D (.lst (acc ++ [y]))) else Nx H3) := by
  refine lc_range (lo := lo) (n := n) (fun i H => Same H1 H ∧ H D = some (.lst ((sel.take i).filterMap id))) ⟨same_upd nD, upd_same⟩ ?_ ?_
  · rintro i H hi' ⟨s, hD⟩
    refine ⟨hw _, ?_⟩
    have hi : i < sel.length := by rw [hlen]; exact hi'
    have ho : sel[i]? = some sel[i] := List.getElem?_eq_getElem hi
    have hl : ((sel.take i).filterMap id).length < sizeLine := Nat.lt_of_le_of_lt (fm_len sel i) (by omega)
    refine hs i sel[i] H hi' ho s (fun o H4 => match o with
      | some y => ∃ acc, H4 D = some (.lst acc) ∧ acc.length < sizeLine ∧ (Same H1 (upd H4 D (.lst (acc ++ [y]))) ∧ (upd H4 D (.lst (acc ++ [y]))) D = some (.lst ((sel.take (i + 1)).filterMap id)))
      | none => Same H1 H4 ∧ H4 D = some (.lst ((sel.take (i + 1)).filterMap id))) fun H4 s4 => ?_
    generalize sel[i] = o at ho ⊢
    cases o with
    | some y =>
      refine ⟨_, s4 _ _ hD, hl, same_over nD (s.trans s4), ?_⟩
      rw [upd_same, take_fm ho]
      rfl
    | none =>
      refine ⟨s.trans s4, ?_⟩
      rw [take_fm ho, s4 _ _ hD]
      simp
  · rintro H ⟨s, hD⟩
    refine hd H s ?_
    rw [hD, ← hlen, List.take_length]
theorem fm_some {α : Type} (ys : List α) : (ys.map some).filterMap id = ys := by
  rw [List.filterMap_map]
  show List.filterMap (fun y => some y) ys = ys
  exact List.filterMap_some
/-- no test: ys tells what comes of each item -/
theorem lc_mapL {K : PySem.W.Frag} {a : Addr} {xs : List V} {j : Nat} {te : TE} {vs : List Nat} {σ : L2.St} {H1 : Hp} {D : Addr} {Qd : Hp → Prop} (ys : List V) (nD : H1 D = none) (hS : SqL K H1 a xs) (hlen : ys.length = xs.length) (hz : xs.length < sizeLine)
    (hw : ∀ x, wipe ((wipe σ vs).set j (some x)) vs = wipe σ vs)
    (hs : ∀ (i : Nat) (x y : V) (H' : Hp), xs[i]? = some x → ys[i]? = some y → Same H1 H' → ∀ Qt : V → Hp → Prop, (∀ H'', Same H' H'' → Qt y H'') → te ((wipe σ vs).set j (some x)) H' Qt)
    (hd : ∀ H', Same H1 H' → H' D = some (.lst ys) → Qd H') :
    ∃ W : Nat → Nat → Hp → Prop, (∃ m, W 0 m (upd H1 D (.lst []))) ∧ ∀ i m H, W i m H →
      ((Itl K a).stop i H ∧ Qd H) ∨ ((Itl K a).go i H ∧ ∃ Nx : Hp → Prop, (∀ H', Nx H' → ∃ m', m' < m ∧ W (i + 1) m' H') ∧ ∀ x H', (Itl K a).yld i H x H' → gName j x (wipe σ vs) H' fun σ2 H2 => wipe σ2 vs = wipe σ vs ∧ tYes σ2 H2 fun b H3 =>
        if b = true then te σ2 H3 fun y H4 => ∃ acc, H4 D = some (.lst acc) ∧ acc.length < sizeLine ∧ Nx (upd H4 D (.lst (acc ++ [y]))) else Nx H3) := by
  refine lc_selL (K := K) (a := a) (xs := xs) (tt := tYes) (ys.map some) nD hS (by rw [List.length_map]; exact hlen) hz hw ?_ ?_
  · intro i x o H' hx ho s Qt qt
    rw [List.getElem?_map] at ho
    obtain ⟨y, hy, rfl⟩ := Option.map_eq_some_iff.mp ho
    show if true = true then te ((wipe σ vs).set j (some x)) H' (fun y H4 => Qt (some y) H4) else Qt none H'
    exact iteT (hs i x y H' hx hy s (fun y H4 => Qt (some y) H4) qt)
  · intro H' s hD
    rw [fm_some] at hD
    exact hd H' s hD
theorem lc_mapR {lo : Int} {n : Nat} {j : Nat} {te : TE} {vs : List Nat} {σ : L2.St} {H1 : Hp} {D : Addr} {Qd : Hp → Prop} (ys : List V) (nD : H1 D = none) (hlen : ys.length = n) (hz : n < sizeLine)
    (hw : ∀ x, wipe ((wipe σ vs).set j (some x)) vs = wipe σ vs)
    (hs : ∀ (i : Nat) (y : V) (H' : Hp), i < n → ys[i]? = some y → Same H1 H' → ∀ Qt : V → Hp → Prop, (∀ H'', Same H' H'' → Qt y H'') → te ((wipe σ vs).set j (some (.int (lo + (i : Int))))) H' Qt)
    (hd : ∀ H', Same H1 H' → H' D = some (.lst ys) → Qd H') :
    ∃ W : Nat → Nat → Hp → Prop, (∃ m, W 0 m (upd H1 D (.lst []))) ∧ ∀ i m H, W i m H →
      ((Itr lo n).stop i H ∧ Qd H) ∨ ((Itr lo n).go i H ∧ ∃ Nx : Hp → Prop, (∀ H', Nx H' → ∃ m', m' < m ∧ W (i + 1) m' H') ∧ ∀ x H', (Itr lo n).yld i H x H' → gName j x (wipe σ vs) H' fun σ2 H2 => wipe σ2 vs = wipe σ vs ∧ tYes σ2 H2 fun b H3 =>
        if b = true then te σ2 H3 fun y H4 => ∃ acc, H4 D = some (.lst acc) ∧ acc.length < sizeLine ∧ Nx (upd H4 D (.lst (acc ++ [y]))) else Nx H3) := by
  refine lc_selR (lo := lo) (n := n) (tt := tYes) (ys.map some) nD (by rw [List.length_map]; exact hlen) hz hw ?_ ?_
  · intro i o H' hi ho s Qt qt
    rw [List.getElem?_map] at ho
    obtain ⟨y, hy, rfl⟩ := Option.map_eq_some_iff.mp ho
    show if true = true then te ((wipe σ vs).set j (some (.int (lo + (i : Int))))) H' (fun y H4 => Qt (some y) H4) else Qt none H'
    exact iteT (hs i y H' hi hy s (fun y H4 => Qt (some y) H4) qt)
  · intro H' s hD
    rw [fm_some] at hD
    exact hd H' s hD
/-- an item of a list of whole numbers -/
theorem int_at {ns : List Int} {i : Nat} {x : V} (h : (ns.map V.int)[i]? = some x) : ∃ n, ns[i]? = some n ∧ x = .int n := by
  rw [List.getElem?_map] at h
  obtain ⟨n, hn, e⟩ := Option.map_eq_some_iff.mp h
  exact ⟨n, hn, e.symm⟩
/-! ### rules with the written part named (within a comprehension Lean doesn't find it) -/
section
variable {X : Cx}
theorem k_len (K : PySem.W.Frag) (h : X.K = K) : CallR X (.builtin "len") (fun xs H Q => ∃ p ys, xs = [.ref p] ∧ (SqL K H p ys ∨ SqT K H p ys) ∧ Q (.int ys.length) H) := by subst h; exact call_len_seq
theorem k_sum (K : PySem.W.Frag) (h : X.K = K) (hc : X.calm = true) : CallR X (.builtin "sum") (rSum K) := by subst h; exact cr_sum hc
theorem k_max (K : PySem.W.Frag) (h : X.K = K) (hc : X.calm = true) : CallR X (.builtin "max") (rMax K) := by subst h; exact cr_max hc
theorem k_min (K : PySem.W.Frag) (h : X.K = K) (hc : X.calm = true) : CallR X (.builtin "min") (rMin K) := by subst h; exact cr_min hc
theorem k_isi (K : PySem.W.Frag) (h : X.K = K) : CallR X (.builtin "isinstance") (rIsi K) := by subst h; exact call_isi
theorem k_listOf (K : PySem.W.Frag) (h : X.K = K) : CallR X (.type "list") (fun xs H Q => ∃ p ys, xs = [.ref p] ∧ (SqL K H p ys ∨ SqT K H p ys) ∧ ∀ l, H l = none → Q (.ref l) (upd H l (.lst ys))) := by subst h; exact call_list_of
theorem k_tupleOf (K : PySem.W.Frag) (h : X.K = K) : CallR X (.type "tuple") (fun xs H Q => ∃ p ys, xs = [.ref p] ∧ ((SqL K H p ys ∧ ∀ l, H l = none → Q (.ref l) (upd H l (.tup ys))) ∨ (SqT K H p ys ∧ Q (.ref p) H))) := by subst h; exact call_tuple_of
theorem k_ixL (K : PySem.W.Frag) (h : X.K = K) : IxR X (rIxL K) := by subst h; exact ix_list
theorem k_ixT (K : PySem.W.Frag) (h : X.K = K) : IxR X (rIxT K) := by subst h; exact ix_tup
theorem k_slL (K : PySem.W.Frag) (h : X.K = K) : SlR X (rSlL K) := by subst h; exact sl_list
theorem k_slT (K : PySem.W.Frag) (h : X.K = K) : SlR X (rSlT K) := by subst h; exact sl_tup
theorem k_eqD (K : PySem.W.Frag) (h : X.K = K) (hu : X.A.units + 64 < cLine) : OpR X (compareOp .Eq) (rEqD K) := by subst h; exact op_eqD hu
theorem k_neD (K : PySem.W.Frag) (h : X.K = K) (hu : X.A.units + 64 < cLine) : OpR X (compareOp .NotEq) (rNeD K) := by subst h; exact op_neD hu
theorem k_in (K : PySem.W.Frag) (h : X.K = K) : OpR X (compareOp .In) (rIn K false) := by subst h; exact op_in_seq
theorem k_notIn (K : PySem.W.Frag) (h : X.K = K) : OpR X (compareOp .NotIn) (rIn K true) := by subst h; exact op_notIn_seq
theorem k_piL (K : PySem.W.Frag) (h : X.K = K) {tg l : Expr} {tl : TE} (hl : PE X l tl) : PI X tg l (iList K tl) := by subst h; exact pi_list hl
theorem k_piT (K : PySem.W.Frag) (h : X.K = K) {tg l : Expr} {tl : TE} (hl : PE X l tl) : PI X tg l (iTup K tl) := by subst h; exact pi_tup hl
theorem k_piE (K : PySem.W.Frag) (h : X.K = K) {e : Expr} {ta : TA} {p pos tpos : Pos} {elts : List Expr} {kk : Nat} (hg : Gl X "enumerate") (hm : X.mg "enumerate" = none) (ha : PA X [e] ta) (hs : starEach [e] X.env = [(false, eval e X.env)] := by rfl) : PI X (.Tuple elts kk tpos) (.Call (.Name "enumerate" p) [e] [] pos) (iEnum K ta) := by subst h; exact pi_enum hg hm ha hs
theorem k_pgT (K : PySem.W.Frag) (h : X.K = K) {es : List Expr} {k : Nat} {t : TGs} {n : Nat} {pos : Pos} (hc : X.calm = true) (hp : PGs X es t) (hn : (assignEach es X.env).length = n := by rfl) (hst : (assignEach es X.env).findIdx? (·.1) = none := by rfl) : PG X (.Tuple es k pos) (gTup K n t) := by subst h; exact pg_tup hc hp hn hst
theorem k_pgL (K : PySem.W.Frag) (h : X.K = K) {es : List Expr} {k : Nat} {t : TGs} {n : Nat} {pos : Pos} (hc : X.calm = true) (hp : PGs X es t) (hn : (assignEach es X.env).length = n := by rfl) (hst : (assignEach es X.env).findIdx? (·.1) = none := by rfl) : PG X (.Tuple es k pos) (gUnl K n t) := by subst h; exact pg_unl hc hp hn hst
theorem k_fld (K : PySem.W.Frag) (h : X.K = K) {e : Expr} {f : Str} {pos : Pos} {ta : TE} (he : PE X e ta) (hb : attributeBase e f X.env (eval e X.env) = eval e X.env) : PE X (.Attribute e f pos) (tFld K ta f) := by subst h; exact pe_fld he hb
theorem k_index (K : PySem.W.Frag) (h : X.K = K) : MtR X "list.index" (rIndex K) := by subst h; exact mt_index
end
/-! ### small things -/
theorem fresh {H : Hp} {p : Addr} (o : HO) (np : H p = none) : ∃ H', upd H p o = H' ∧ Same H H' ∧ H' p = some o := ⟨_, rfl, same_upd np, upd_same⟩
theorem cut_take (xs : List V) (k : Nat) : cutV xs none (some (k : Int)) = xs.take k := by
  unfold cutV
  rw [HT.sIx_nat, HT.sIx_none, List.drop_zero, Nat.sub_zero]
  rcases Nat.le_total k xs.length with h | h
  · rw [Nat.min_eq_left h]
  · rw [Nat.min_eq_right h, List.take_of_length_le h, List.take_length]
theorem cut_drop (xs : List V) (k : Nat) : cutV xs (some (k : Int)) none = xs.drop k := by
  unfold cutV
  rw [HT.sIx_nat, HT.sIx_none]
  rcases Nat.le_total k xs.length with h | h
  · rw [Nat.min_eq_left h, List.take_of_length_le (by rw [List.length_drop]; exact Nat.le_refl _)]
  · rw [Nat.min_eq_right h, List.drop_length, List.drop_of_length_le h, List.take_nil]
theorem rep_ints (k : Nat) (ks : List Int) : (List.replicate k (ks.map V.int)).flatten = ((List.replicate k ks).flatten).map V.int := by
  rw [List.map_flatten, List.map_replicate]
theorem rep_len {α : Type} (k : Nat) (ks : List α) : ((List.replicate k ks).flatten).length = k * ks.length := by
  induction k with
  | zero => simp
  | succ k ih => rw [List.replicate_succ, List.flatten_cons, List.length_append, ih, Nat.succ_mul]; omega
theorem rep_mem {α : Type} {k : Nat} {ks : List α} {x : α} (h : x ∈ (List.replicate k ks).flatten) : x ∈ ks := by
  obtain ⟨l, hl, hx⟩ := List.mem_flatten.mp h
  rw [(List.mem_replicate.mp hl).2] at hx
  exact hx
/-! ### comprehensions that make new things: R tells what is known of the i-th; D is no part of it -/
def Off (D : Addr) (H H' : Hp) : Prop := ∀ b o, b ≠ D → H b = some o → H' b = some o
def RelPv (R : Nat → V → Hp → Prop) (H1 : Hp) (D : Addr) (i : Nat) (H : Hp) : Prop := ∃ ys : List V, Same H1 H ∧ H D = some (.lst ys) ∧ ys.length = i ∧ ∀ (k : Nat) (y : V), ys[k]? = some y → R k y H
theorem lc_relR {lo : Int} {n : Nat} {j : Nat} {te : TE} {vs : List Nat} {σ : L2.St} {H1 : Hp} {D : Addr} {Qd : Hp → Prop} (R : Nat → V → Hp → Prop) (nD : H1 D = none) (hz : n < sizeLine)
    (mono : ∀ i y H H', Off D H H' → R i y H → R i y H')
    (hw : ∀ x, wipe ((wipe σ vs).set j (some x)) vs = wipe σ vs)
    (hs : ∀ (i : Nat) (H' : Hp) (xs : List V), i < n → Same H1 H' → H' D = some (.lst xs) → ∀ Qt : V → Hp → Prop, (∀ y H'', Same H' H'' → R i y H'' → Qt y H'') → te ((wipe σ vs).set j (some (.int (lo + (i : Int))))) H' Qt)
    (hd : ∀ H' ys, Same H1 H' → H' D = some (.lst ys) → ys.length = n → (∀ (i : Nat) (y : V), ys[i]? = some y → R i y H') → Qd H') :
    ∃ W : Nat → Nat → Hp → Prop, (∃ m, W 0 m (upd H1 D (.lst []))) ∧ ∀ i m H, W i m H →
      ((Itr lo n).stop i H ∧ Qd H) ∨ ((Itr lo n).go i H ∧ ∃ Nx : Hp → Prop, (∀ H', Nx H' → ∃ m', m' < m ∧ W (i + 1) m' H') ∧ ∀ x H', (Itr lo n).yld i H x H' → gName j x (wipe σ vs) H' fun σ2 H2 => wipe σ2 vs = wipe σ vs ∧ tYes σ2 H2 fun b H3 =>
        if b = true then te σ2 H3 fun y H4 => ∃ acc, H4 D = some (.lst acc) ∧ acc.length < sizeLine ∧ Nx (upd H4 D (.lst (acc ++ [y]))) else Nx H3) := by
  refine lc_range (lo := lo) (n := n) (RelPv R H1 D) ⟨[], same_upd nD, upd_same, rfl, fun k y h => by simp at h⟩ ?_ ?_
  · rintro i H hi ⟨ys, s, hD, hl, hR⟩
    refine ⟨hw _, ?_⟩
    show if true = true then te ((wipe σ vs).set j (some (.int (lo + (i : Int))))) H (fun y H4 => ∃ acc, H4 D = some (.lst acc) ∧ acc.length < sizeLine ∧ RelPv R H1 D (i + 1) (upd H4 D (.lst (acc ++ [y])))) else RelPv R H1 D (i + 1) H
    refine iteT (hs i H ys hi s hD _ fun y H4 s4 r4 => ?_)
    refine ⟨ys, s4 _ _ hD, by omega, ys ++ [y], same_over nD (s.trans s4), upd_same, by rw [List.length_append, hl]; rfl, fun k z hz => ?_⟩
    have off : Off D H4 (upd H4 D (.lst (ys ++ [y]))) := fun b o nb h => by rw [upd_ne nb]; exact h
    by_cases hk : k < ys.length
    · rw [List.getElem?_append_left hk] at hz
      exact mono k z H _ (fun b o nb h => off b o nb (s4 b o h)) (hR k z hz)
    · rw [List.getElem?_append_right (by omega)] at hz
      have hk2 : k - ys.length = 0 := by
        have h2 := (List.getElem?_eq_some_iff.mp hz).1
        rw [List.length_singleton] at h2
        omega
      rw [hk2] at hz
      cases hz
      have ek : k = i := by omega
      rw [ek]
      exact mono i y H4 _ off r4
  · rintro H ⟨ys, s, hD, hl, hR⟩
    exact hd H ys s hD hl hR
/-! ### ways that are told by whole numbers -/
theorem iteDT {p A B : Prop} [Decidable p] (hp : p) (h : A) : if decide p = true then A else B := by rw [decide_eq_true hp]; exact iteT h
theorem iteDF {p A B : Prop} [Decidable p] (hp : ¬ p) (h : B) : if decide p = true then A else B := by rw [decide_eq_false hp]; exact iteF h
theorem iteNT {p A B : Prop} [Decidable p] (hp : ¬ p) (h : A) : if (!decide p) = true then A else B := by rw [decide_eq_false hp]; exact iteT h
theorem iteNF {p A B : Prop} [Decidable p] (hp : p) (h : B) : if (!decide p) = true then A else B := by rw [decide_eq_true hp]; exact iteF h
theorem iteET {a b : Int} {A B : Prop} [Decidable (V.int a = V.int b)] (hp : a = b) (h : A) : if decide (V.int a = V.int b) = true then A else B := iteDT (congrArg V.int hp) h
theorem iteEF {a b : Int} {A B : Prop} [Decidable (V.int a = V.int b)] (hp : ¬ a = b) (h : B) : if decide (V.int a = V.int b) = true then A else B := iteDF (fun z => hp (V.int.inj z)) h
theorem iteENT {a b : Int} {A B : Prop} [Decidable (V.int a = V.int b)] (hp : ¬ a = b) (h : A) : if (!decide (V.int a = V.int b)) = true then A else B := iteNT (fun z => hp (V.int.inj z)) h
theorem iteENF {a b : Int} {A B : Prop} [Decidable (V.int a = V.int b)] (hp : a = b) (h : B) : if (!decide (V.int a = V.int b)) = true then A else B := iteNF (congrArg V.int hp) h
theorem iteNtt {A B : Prop} (h : B) : if (!true) = true then A else B := h
theorem iteNff {A B : Prop} (h : A) : if (!false) = true then A else B := h
/-- 1 or 0 of a comparison -/
theorem int_if {p : Prop} [Decidable p] : (if decide p = true then (1 : Int) else 0) = if p then 1 else 0 := by by_cases h : p <;> simp [h]
end Pre

namespace My
open PySem PySem.Spec PyProof.Rows L2
/-! ### own errors whose __init__ says super().__init__(value); self.value = value -/
namespace Sup
open PySem.W PySem.Calls
section
variable {prog : Program} {w : World} {A : Around} {E : Value → Shared → Prop} {h : Heap} {g : Array GenState} {d : Drawn} {t : Nat} {os : OsState}
variable {nm q : Str} {C N : Addr} {bs bm : List Value} {hdct : Bool} {sn : List Str} {sub : List Value} {ab : Bool} {col : Option Bool} {dd : Option Addr} {k0 k1 k2 k3 k5 : Option Value}
theorem call_bwV {u e t0 : Addr} {rest : List Value} {Q : Value → Shared → Prop}
    (hC : h.get? C = some (excClassObj nm q C N bs bm hdct sn sub ab col dd k0 k1 k2 k3 k5 "ValueError.__new__")) (he : h.get? e = some (HandSPX.excO C t0)) (hu : h.get? u = some (kxs_mw "ValueError.__init__" e)) (hrest : rest.length ≤ sizeLine)
    (hq : ∀ h' t1, (∀ b o, b ≠ e → h.get? b = some o → h'.get? b = some o) → h'.get? e = some (HandSPX.excO C t1) → Q .none ⟨h', g, d, t, os⟩) :
    wpAny (model prog w) A (call (.ref u) rest) Q E ⟨h, g, d, t, os⟩ := by
  refine wpAny_call (codeAny_of_tree ?_)
  show wpAny _ A.in1 (callAny (.ref u) ⟨rest, []⟩) _ _ _
  simp only [callAny]
  refine wpAny_bind (wpAny_load hu ?_)
  simp only [kxs_mw, show (Value.type "method-wrapper" == Value.type "method" || Value.type "method-wrapper" == Value.type "builtin_function_or_method" || Value.type "method-wrapper" == Value.type "method-wrapper") = true by decide, if_true]
  refine W.KFB.if_so (by decide) ?_
  refine wpAny_bind (ESX.check_bound F.excBase_ValueError hC he rfl ?_)
  refine wpAny_bind (wpAny_pure (wpAny_pure ?_))
  refine ⟨Code.quiet_builtin _ (by decide +kernel), codeAny_builtin F.excBase_ValueError.initEntry ?_⟩
  rw [Around.under_plainId F.excBase_ValueError.init.plain _]
  exact exc_init_tree (cls := .ref C) (t0 := t0) (dv := none) (c2 := .none) (c3 := .none) (b4 := .bool false) he hrest fun h' k e' _ => hq h' _ k e'
end
/-- the file of the program: what its code objects are asked for -/
class PF (P : Program) (file : Str) : Prop where
  file : ((P.main.file : Str) == file) = true
  top : (P.main.scope.names.lookup ("super" : Str)).isSome = false
/-- what the written part says of such a class C, named x, and its __init__ at fI -/
structure SupC (K : Frag) (file x : Str) (st : Stmt) (C fI : Addr) (fd : FuncData) : Prop where
  T : OexC K C
  ex : ∃ (oc : Value) (od : Option Addr) (dV kV doc pm : Value) (an : Option Addr) (c cc : Addr) (ct : Value) (osl : Array (Option Value)),
    fd = ksFn "__init__" (x ++ (".__init__" : Str)) (defArgs st) (defBody st) (defScope st) dV kV doc pm an (.ref c) ct cc ∧ K.lookup fI = some ⟨oc, od, .func fd, osl⟩ ∧ codeIn K (.ref c) (x ++ (".__init__" : Str)) = true ∧
    (∃ (ccl : Value) (cdd : Option Addr) (vs : Array Value) (ccs : Array (Option Value)) (tf : Tok), K.lookup c = some ⟨ccl, cdd, .fields vs, ccs⟩ ∧ vs[2]? = some (.str file tf)) ∧ (∃ (cl : Value) (cld : Option Addr) (csl : Array (Option Value)), K.lookup cc = some ⟨cl, cld, .cell (some (.ref C)), csl⟩)
  sup : ks_superIn K C C "__init__" = some (some (.builtin "ValueError.__init__"))
  subV : subIn K (.ref C) (.type "ValueError") = some true
  subC : mroIn K C (.ref C) = some true
  opq : nsIn K cStatics "thirdparty.any" = some none
  nov : findIn K (.ref C) "value" = some none
/-- the body's shape -/
def SupBody (st : Stmt) : Prop := ∃ p0 p1 p2 p3 p4 p5 p6 p7 p8 p9 : Pos,
  defBody st = [.Expr (.Call (.Attribute (.Call (.Name "super" p0) [] [] p1) "__init__" p2) [.Name "value" p3] [] p4) p5, .Assign [.Attribute (.Name "self" p6) "value" p7] (.Name "value" p8) p9] ∧
  ((defArgs st).posonlyargs ++ (defArgs st).args).head?.map (·.arg) = some ("self" : Str) ∧
  ∀ env : Env, ∃ pl : Sem Bool, eval (.Call (.Attribute (.Call (.Name "super" p0) [] [] p1) "__init__" p2) [.Name "value" p3] [] p4) env = (do
      let ov ← attributeBase (.Call (.Name "super" p0) [] [] p1) "__init__" env (eval (.Call (.Name "super" p0) [] [] p1) env)
      standAt p2.atName
      let (f, first) ← holding [ov] (getMethod ov "__init__" pl)
      callWith p4 f first (backTo p4 (starEach [.Name "value" p3] env)) [])
def sp_exc_init (C : Addr) : Sp := fun vs H Q _ => ∃ (a : Addr) (v : V), vs = [.ref a, v] ∧ H a = some (exo a C none) ∧ ∀ d, H d = none → d ≠ a → Q .non (upd (upd H d (exd d [("value", v)])) a (exo a C (some d)))
section
variable {P : Program} {w : World} {K : Frag} {mg : Str → Option Value} {base : Heap} {CX : CXT} {file x : Str} {st : Stmt} {C fI : Addr} {fd : FuncData}
theorem fn_sup [pf : PF P file] (S : NdefX.NScope ["self", "value", "__class__"] ["self", "value"] ["__class__"] (defScope st)) (hgs : (defScope st).names.lookup ("super" : Str) = some .globalImplicit) (hb0 : SupBody st) (F : SupC K file x st C fI fd) (nosup : mg ("super" : Str) = none) :
    FnOk P w K mg base CX 1 fI fd ["self", "value"] (sp_exc_init C) := by
  refine ⟨fun vs H Q E h => by obtain ⟨a, v, rfl, _⟩ := h; rfl, fun A outer s H args us vs Q E hr e0 hb rv hsp => ?_⟩
  obtain ⟨a, v, rfl, ha, q⟩ := hsp
  obtain ⟨oc, od, dV, kV, doc, pm, an, c, cc, ct, osl, rfl, lk, hcd, ⟨ccl, cdd, cvs, ccs, tf, lkc, hvs⟩, cl, cld, csl, lkcc⟩ := F.ex
  obtain ⟨p0, p1, p2, p3, p4, p5, p6, p7, p8, p9, hbody, hself, hev⟩ := hb0
  obtain ⟨pl, hpl⟩ := hev (NdefX.envF ⟨"__init__", x ++ (".__init__" : Str), defArgs st, defBody st, defScope st, [("__class__", cc)], c⟩ fI s.heap.objs.size)
  have hin : K.In s.heap := e0.mod.kin.keeps fun b o z => (e0.bs b o z).1
  have lim : s.heap.NoLimit := e0.mod.nolimit.keeps fun b o e => (e0.bs b o e).1
  let Fn : NdefX.NF := ⟨"__init__", x ++ (".__init__" : Str), defArgs st, defBody st, defScope st, [("__class__", cc)], c⟩
  refine codeAny_call_function hr.depth (hin _ _ lk) rfl S.co S.gen rfl (codeRec_of hin hcd) (hb _ _ _ _ ?_)
  refine wpAny_newFunctionEnv S.nocell (fun ⟨n, _⟩ hy => S.par n (List.of_mem_zip hy).1) (fun h₁ hns hsb => ⟨lim.fresh _ hsb, ?_⟩) S.kind
  show codeAny _ _ (.func (defBody st) (NdefX.envF Fn fI s.heap.objs.size)) _ _
  have kp : ∀ b o, s.heap.get? b = some o → h₁.get? b = some o := fun b o e => hsb.extBut b o (Nat.ne_of_lt (Heap.lt_size e)) (Heap.get?_push_of_some _ e)
  have hcc : ∀ y c', ([("__class__", cc)] : List (Str × Addr)).lookup y = some c' → y = ("__class__" : Str) ∧ c' = cc := fun y c' e => by
    by_cases h : y = ("__class__" : Str)
    · subst h
      cases e
      exact ⟨rfl, rfl⟩
    · rw [List.lookup_cons, show (y == ("__class__" : Str)) = false by simpa using h] at e
      cases e
  have cells : NdefX.CellsAt Fn.cl ["__class__"] [some (.ref C)] s.heap H := {
    len := rfl
    all := fun y c' e => by
      obtain ⟨_, rfl⟩ := hcc y c' e
      exact ⟨(e0.bs _ _ (e0.mod.kin _ _ lkcc)).2, _, _, hin _ _ lkcc, rfl⟩
    inj := fun y z c' e1 e2 => by rw [(hcc y c' e1).1, (hcc z c' e2).1]
    has := fun i y e => by
      cases i with
      | zero =>
        cases e
        refine ⟨cc, rfl, fun u hu => ?_⟩
        cases hu
        exact ⟨.ref C, rfl, _, hin _ _ lkcc, rfl⟩
      | succ i => simp at e }
  have I : Inv (NdefX.ncx CX P w K mg base ["self", "value", "__class__"] Fn fI A outer s H E) [] (NdefX.startF ["self", "value", "__class__"] [.ref a, v] [some (.ref C)]) H { s with heap := h₁, toks := s.toks + (["self", "value"].zip us).length } := NdefX.inv_startN S hr.hd e0 rfl rv cells hns kp
  obtain ⟨nm, q0, N, bs, bm, sn, sub, ab, col, dd, k0, k1, k2, k3, k5, hC, hbm⟩ := F.T.cls
  have hcl : clsIn K C = some { name := nm, bases := bs, mro := .ref C :: bm, ns := N, qualname := q0, hasDict := true, slotNames := sn, subclasses := sub, abstract := ab, collection := col, hasDel := false } := by unfold clsIn; rw [hC] <;> rfl
  refine ks_codeAny_funcAt ?_
  rw [hbody]
  obtain ⟨ar, hp, har⟩ : ∃ ar, ((defArgs st).posonlyargs ++ (defArgs st).args).head? = some ar ∧ ar.arg = ("self" : Str) := by
    cases e : ((defArgs st).posonlyargs ++ (defArgs st).args).head? with
    | none => rw [e] at hself; cases hself
    | some ar => rw [e] at hself; exact ⟨ar, rfl, Option.some.inj hself⟩
  have X1 : K.In h₁ := hin.keeps kp
  obtain ⟨ual, rfl⟩ : ∃ u1, us = [.ref a, u1] := by
    cases rv with
    | cons r1 r2 => cases r2 with
      | cons r3 r4 => cases r4; cases r1; exact ⟨_, rfl⟩
  refine ks_wpAt_execs_cons (ks_wpAt_Expr_any (ks_wpAt_MethodCall (pl := pl) ?_ hpl) I.quiet)
  refine ks_wpAt_super_base (env := NdefX.envF Fn fI s.heap.objs.size) hgs (S.frk _ (by simp)) (by decide) rfl (X1 _ _ lk) rfl hp rfl (X1 _ _ lkc) rfl hvs pf.file pf.top ?_
  obtain ⟨mb, hb1, hb2⟩ := I.mod.blt
  refine ks_loadName_global S.kind hgs (loadGlobal_builtin (env := NdefX.envF Fn fI s.heap.objs.size) (I.mod.glob.keeps I.bk) nosup (hb1.keeps I.bk) ((hb2 _ (by decide)).trans (show bootBuiltins "super" = some (.type "super") by decide +kernel)) ⟨rfl, ?_⟩)
  refine wpAny_loadName_free S.kind (S.frk _ (by simp)) rfl ⟨_, X1 _ _ lkcc, rfl⟩ ?_
  rw [har]
  refine wpAny_loadName_local S.kind (S.par _ (by simp)) hns rfl ?_
  obtain ⟨t1, he0⟩ := exo_at e0.hok ha
  have he1 := kp _ _ he0
  refine ks_wpAny_isType_cls (X1 _ _ hC) rfl ⟨rfl, ?_⟩
  refine ks_wpAny_call_super (X1 _ _ hC) rfl he1 rfl (fun c e => by cases e) (looks_mroIn X1 F.subC) (fun h2 hso k2 => ?_)
  have X2 : K.In h2 := X1.keeps k2
  have he2 := k2 _ _ he1
  have IA : InstAt h2 a (HandSPX.excO C t1) C none := ⟨he2, rfl, rfl, trivial⟩
  have hf := F.sup
  unfold ks_superIn at hf
  rw [hcl] at hf
  refine kxs_getMethod kxs_ValueError hso (looks_opaque X2 F.opq) (l₀ := .ref C :: bm) (fun A Q E s k q => wpAny_bind ((looks_clsIn X2 hcl) A _ E s k (wpAny_pure q))) rfl X2 hf (IA.type.andThen (looks_subIn X2 F.subV)) (ks_ne X2 IA hcl) (by decide) ?_
  have k3 : ∀ b o, h₁.get? b = some o → (h2.push (kxs_mw "ValueError.__init__" a)).get? b = some o := fun b o e => Heap.get?_push_of_some _ (k2 b o e)
  have I3 := I.kept (h' := h2.push (kxs_mw "ValueError.__init__" a)) (t' := s.toks + (["self", "value"].zip [Value.ref a, ual]).length + 1) k3
  refine kxs_callWith (i := "ValueError.__init__") (x := a) rfl ?_
  rw [show starEach [Expr.Name "value" p3] (NdefX.envF Fn fI s.heap.objs.size) = (false, eval (.Name "value" p3) (NdefX.envF Fn fI s.heap.objs.size)) :: starEach [] (NdefX.envF Fn fI s.heap.objs.size) from rfl]
  refine evalArgs_plain ?_
  refine spliced_cons ?_
  obtain ⟨m, hn, hl⟩ := I3.loc
  obtain ⟨u, ru, l⟩ := hl 1 "value" v rfl rfl (.inl (S.par _ (by simp)))
  have fin : wpAny (model P w) (A.deeper (NdefX.envF Fn fI s.heap.objs.size)) (eval (.Name "value" p3) (NdefX.envF Fn fI s.heap.objs.size)) (fun z s' => z = u ∧ s' = { s with heap := h2.push (kxs_mw "ValueError.__init__" a), toks := s.toks + (["self", "value"].zip [Value.ref a, ual]).length + 1 }) (fun e s' =>
      wpAny (model P w) (A.deeper (NdefX.envF Fn fI s.heap.objs.size)) (leaving (NdefX.envF Fn fI s.heap.objs.size) e)
        (fun x s'' => CR CX outer P w H s Q E (Except.error e) s'')
        (fun e' s'' => CR CX outer P w H s Q E (Except.error e') s'') s') { s with heap := h2.push (kxs_mw "ValueError.__init__" a), toks := s.toks + (["self", "value"].zip [Value.ref a, ual]).length + 1 } := by
    rcases l with ⟨hk, hm⟩ | ⟨hk, _⟩
    · exact wpAny_Name (wpAny_loadName_local S.kind hk hn hm ⟨rfl, rfl⟩) (by decide)
    · have hv : (defScope st).names.lookup ("value" : Str) = some .local := S.par _ (by simp)
      rcases hk with hk | hk <;> exact absurd (hv.symm.trans hk) (by intro z; cases z)
  refine wpAny_mono fin (fun z s' hz => ?_) fun _ _ z => z
  obtain ⟨rfl, rfl⟩ := hz
  refine spliced_nil ⟨Heap.get?_push_at rfl rfl, ?_⟩
  refine call_bwV (e := a) (t0 := t1) (X2.keeps (fun b o e => Heap.get?_push_of_some _ e) _ _ hC) (Heap.get?_push_of_some _ he2) (Heap.get?_push_at rfl rfl) (by show 1 ≤ sizeLine; decide) fun h' t2 k4 hx => ?_
  refine wpAt_of_wpAny ?_
  have J := I3.write (t' := s.toks + (["self", "value"].zip [Value.ref a, ual]).length + 1) (x := a) (e := a) (o := exo a C none) (by rw [ha]; exact True.intro) (.inl rfl) k4 ⟨_, hx⟩ (exo_ok hx)
  have eu : upd H a (exo a C none) = H := by
    funext b
    by_cases hb : b = a
    · rw [hb, upd_same, ha]
    · rw [upd_ne hb]
  rw [eu] at J
  have ht : PSs (NdefX.ncx CX P w K mg base ["self", "value", "__class__"] Fn fI A outer s H E) [.Assign [.Attribute (.Name "self" p6) "value" p7] (.Name "value" p8) p9] (tOst K "value" (tVar 0) (tVar 1)) :=
    pss_one (ps_ost (pe_var (i := 0) rfl (.inl (S.par _ (by simp)))) (pe_var (i := 1) rfl (.inl (S.par _ (by simp)))))
  refine wpAny_mono (ht.run [] _ _ H { nx := fun _ H' => Q .non H', rt := Q } J ⟨v, rfl, .ref a, rfl, a, C, rfl, F.T, F.nov, .inl ⟨ha, fun dx n ne => q dx n ne⟩⟩) (fun fl s' hs => ?_) fun e s' hs => hs
  have fin : ∀ {σ' : L2.St} {H' : Hp} {v : V} {u : Value}, Inv (NdefX.ncx CX P w K mg base ["self", "value", "__class__"] Fn fI A outer s H E) [] σ' H' s' → L2.RelV v u → Q v H' → CE outer P w H s Q u s' :=
    fun {σ' H' v u} J rv q => ⟨v, H', J.os, J.bare, J.base, J.hok, rv, q⟩
  cases fl with
  | ret u =>
    obtain ⟨v, σ', H', J, rv, q⟩ := hs
    exact fin J rv q
  | next =>
    obtain ⟨σ', H', J, q⟩ := hs
    exact fin (v := V.non) (u := Value.none) J rfl q
  | brk =>
    obtain ⟨_, _, _, q⟩ := hs
    exact False.elim q
  | cont =>
    obtain ⟨_, _, _, q⟩ := hs
    exact False.elim q
end
end Sup
end My

namespace My
open PySem PySem.Spec PyProof.Rows L2
/-! ### such an error raised; its value in an except suite; several clauses with a name -/
/-- what is left to be shown behind the making of such an error with the value v -/
theorem mk_sup {C : Addr} {v : V} {H1 : Hp} {Q : XK} (q : ∀ d, H1 d = none → Q (.ref C) (some d) (upd H1 d (.xd [("value", v)]))) : [v].length ≤ 1000 ∧ ∀ a, H1 a = none → Sup.sp_exc_init C (.ref a :: ([v] ++ [])) (upd H1 a (exo a C none))
    (fun w H2 => w = .non ∧ ∃ (d : Addr) (fs : List (Str × V)), H2 a = some (exo a C (some d)) ∧ H2 d = some (exd d fs) ∧ H1 d = none ∧ Q (.ref C) (some d) (upd (del H2 a) d (.xd fs))) (fun _ _ _ => False) := by
  refine ⟨by show 1 ≤ 1000; decide, fun a na => ⟨a, v, rfl, upd_same, fun d nd da => ⟨rfl, d, [("value", v)], upd_same, ?_, ?_, ?_⟩⟩⟩
  · rw [upd_ne da, upd_same]
  · rw [upd_ne da] at nd
    exact nd
  · have hn : H1 d = none := by rw [upd_ne da] at nd; exact nd
    have e : upd (del (upd (upd (upd H1 a (exo a C none)) d (exd d [("value", v)])) a (exo a C (some d))) a) d (.xd [("value", v)]) = upd H1 d (.xd [("value", v)]) := by
      funext b
      by_cases hb : b = d
      · rw [hb, upd_same, upd_same]
      · rw [upd_ne hb, upd_ne hb]
        by_cases hba : b = a
        · rw [hba, del_same, na]
        · rw [del_ne hba, upd_ne hba, upd_ne hb, upd_ne hba]
    rw [e]
    exact q d hn
/-- the reading of err.f, the class of err told there -/
def tXfA (K : PySem.W.Frag) (a : Addr) (cls : Value) (d : Option Addr) (f : Str) (te : TE) : TE := fun σ H Q => te σ H fun x H1 => x = .ref a ∧ ∃ C : Addr, cls = .ref C ∧ XfC K C ∧ PySem.W.findIn K (.ref C) f = some none ∧ ∃ (dd : Addr) (fs : List (Str × V)) (v : V), d = some dd ∧ H1 dd = some (.xd fs) ∧ fs.lookup f = some v ∧ Q v H1
theorem pe_xfA {X : Cx} {a : Addr} {oe : Obj} {cls : Value} {d : Option Addr} {pn : List (Addr × Obj)} {e : Expr} {te : TE} {pos : Pos} {n : Str}
    (hz : Zc cls d oe) (hf : ∃ vs, oe.data = .fields vs) (he : PE (X.suite a ((a, oe) :: pn)) e te) (hb : attributeBase e n X.env (eval e X.env) = eval e X.env := by rfl) :
    PE (X.suite a ((a, oe) :: pn)) (.Attribute e n pos) (tXfA X.K a cls d n te) := by
  refine ⟨fun pins s σ H Q I h => ?_⟩
  refine attr_of hb (thn (he.run pins s σ H _ I h) fun u s1 hh => ?_)
  obtain ⟨x, H1, I1, rx, ex, C, ec, T, hno, dd, fs, v, ed, ea, l, q⟩ := hh
  subst ex
  obtain rfl : u = Value.ref a := rx
  subst ec
  subst ed
  obtain ⟨ha, _⟩ := I1.pin (a, oe) (List.mem_append_left _ List.mem_cons_self)
  obtain ⟨vs, hd⟩ := hf
  have hx : ObjOk X.prog X.w H1 s1.heap dd (.xd fs) := I1.hok dd _ ea
  obtain ⟨mA, hns, hr⟩ := hx
  obtain ⟨od, ho, hl⟩ := lookIn_ns hns
  obtain ⟨u, hu, ru⟩ := RelO.some_of (v := v) (o := mA n) (by rw [← l]; exact hr n)
  have J : PySem.W.InstAt s1.heap a oe C (some od) := ⟨ha, hz.1, by unfold PySem.W.notCls; rw [hd] <;> rfl, by rw [hz.2]; exact ho⟩
  exact HandSPX.exc_get I1.kIn J T.ga T.gg T.exC (PySem.W.findObj_own T.hdC hno rfl (by rw [hl, hu])) (handed_of ru) ⟨v, H1, I1.tok _, ru, q⟩
/-- what the clauses 'except x as n' wish of an exception of the body, one after the other; slot i is n's -/
def wManyAs (K : PySem.W.Frag) (i : Nat) (Wout : WX) (D : Ends) : List (Value × (Addr → Value → Option Addr → TS)) → WX
  | [] => Wout
  | (c, ts) :: r => fun cls d σ H => ∃ b, PySem.W.exmOne K cls c = some b ∧ (b = true → ∀ a, H a = none → ts a cls d { nx := fun σ' H' => D.nx (σ'.set i none) H', rt := D.rt, bk := fun σ' H' => D.bk (σ'.set i none) H', ct := fun σ' H' => D.ct (σ'.set i none) H' } (σ.set i (some (.ref a))) H) ∧
    (b = false → wManyAs K i Wout D r cls d σ H)
inductive HdsAs (X : Cx) (n : Str) : List ExceptHandler → List (Value × (Addr → Value → Option Addr → TS)) → Prop
  | nil : HdsAs X n [] []
  | cons {x : Str} {c : Value} {ts : Addr → Value → Option Addr → TS} {b₀ : Stmt} {suite : List Stmt} {np pos' : Pos} {hds : List ExceptHandler} {l : List (Value × (Addr → Value → Option Addr → TS))} (hc : Names X x c)
      (hsu : ∀ (a : Addr) (oe : Obj) (cls : Value) (d : Option Addr) (pn : List (Addr × Obj)), Zc cls d oe → (∃ vs, oe.data = .fields vs) → PSs (X.suite a ((a, oe) :: pn)) (b₀ :: suite) (ts a cls d)) (r : HdsAs X n hds l) :
      HdsAs X n (.ExceptHandler (some (.Name x np)) (some n) (b₀ :: suite) pos' :: hds) ((c, ts) :: l)
section
variable {X : Cx} {n : Str} {i : Nat} {body : List Stmt} {h₀ : ExceptHandler} {hds : List ExceptHandler} {l : List (Value × (Addr → Value → Option Addr → TS))} {pos : Pos} {tb : WX → TS} {Wout : WX}
theorem ps_try_manyAs (hs : X.stack = X.env :: X.outer) (hf : X.env.frame = some X.env.locals) (hN : X.N.Nodup) (hi : X.N[i]? = some n) (hln : X.env.kindOf n = some .local) (tk : Takes X Wout)
    (hb : ∀ (W : WX) (pn : List (Addr × Obj)) (xe : Value → Shared → Prop), Takes (X.tr pn xe) W → PassesOwn (model X.prog X.w) X.A X.env xe → PSs (X.tr pn xe) body (tb W))
    (hh : HdsAs X n (h₀ :: hds) l) : PS X (.Try body (h₀ :: hds) [] [] pos) (fun D σ H => tb (wManyAs X.K i Wout D l) D σ H) := by
  refine ⟨fun pins s σ H D I h => ?_⟩
  have ok := I.ok
  have hfr : X.A.frames = some (X.env :: X.outer) := by rw [ok.frames, hs]
  have hloc : Loc X.env.scope n := .inl hln
  refine wpAny_Try_except ?_
  refine wpAny_mono ((hb (wManyAs X.K i Wout D l) (X.pn ++ pins) (fun e s₁ => wpAny (model X.prog X.w) X.A (noteFrame e X.env) (fun _ s₂ => wpAny (model X.prog X.w) X.A (setFlight e none) (fun _ s₃ =>
    wpAny (model X.prog X.w) X.A (handleBy e X.env (h₀ :: hds)) (SP X pins D) X.xe s₃) X.xe s₂) X.xe s₁) (fun u s' xx => ?_) PassesOwn.looking).run [] s σ H D (I.toTry _) h) (fun f s1 hsp => ?_) (fun e s1 he => he)
  · -- the catch
    obtain ⟨a, B, sI, pins', σ', H', cls, d, rfl, J', nb, up, sky, na, os, ag, w⟩ := xx
    have J : Inv X pins σ' H' sI := J'.ofTry ok
    have sky' : Sky B (X.env :: X.outer) a (Zc cls d) X.env.locals s'.heap := by rw [← hs]; exact sky
    show wpAny (model X.prog X.w) X.A (noteFrame (.ref a) X.env) _ _ _
    refine Sky.land Zc.steady hfr hf sky' fun h3 fl3 up3 => ?_
    have J3 : Inv X pins σ' H' { s' with heap := h3 } := J.landed nb fl3.1 (up.trans up3) os ag
    obtain ⟨oe3, vs3, he3, hz3, hd3⟩ := fl3.there
    have notFr : ∀ {h : Heap} {o : Obj} {vs : Array Value}, h.FunFrames B (X.env :: X.outer) → h.get? a = some o → o.data = .fields vs → a ∉ frs (X.env :: X.outer) := fun {h o vs} ff e dd hm => by
      obtain ⟨_, o', e', hnf⟩ := ff.mem hm
      rw [e] at e'; cases e'
      exact hnf _ dd
    have nfr := notFr fl3.2.2.1 he3 hd3
    have nL : a ≠ X.env.locals := fun z => nfr (List.mem_filterMap.mpr ⟨X.env, List.mem_cons_self, by rw [hf, z]⟩)
    have nF : a ∉ X.fs := fun hm => by
      obtain ⟨e, he, q⟩ := List.mem_filterMap.mp hm
      exact nfr (List.mem_filterMap.mpr ⟨e, List.mem_cons_of_mem _ he, q⟩)
    have S3 := J3.suite he3 hd3 na nL nF
    have go : ∀ {hds' : List ExceptHandler} {l' : List (Value × (Addr → Value → Option Addr → TS))}, HdsAs X n hds' l' → wManyAs X.K i Wout D l' cls d σ' H' →
        wpAny (model X.prog X.w) X.A (handleBy (.ref a) X.env hds') (SP X pins D) X.xe { s' with heap := h3 } := by
      intro hds' l' hk
      induction hk with
      | nil =>
        intro w
        refine wpAny_handleBy_nil ?_
        obtain ⟨k1, k2, k3, oe, vs, T, oT, ts', he, hz, hd, h1, hr⟩ := id fl3
        unfold PySem.passOn
        refine wpAny_bind (wpAny_field he hd h1 ?_)
        rw [if_neg (show ¬ ((Value.ref T == Value.none) = true) from by simp)]
        have fin : wpAny (model X.prog X.w) X.A (setFlight (.ref a) X.env.frame) (fun _ s4 => wpAny (model X.prog X.w) X.A (throw (.ref a) : Sem Flow) (SP X pins D) X.xe s4) X.xe { s' with heap := h3 } := by
          rw [hf]
          refine HandSPX.setFlight_upZ fl3 fun h4 hh4 up4 => wpAny_throw (tk _ _ ?_)
          exact ⟨a, B, sI, pins, σ', H', cls, d, rfl, J, nb, (up.trans up3).trans up4, .inr (.inr (by rw [hs]; exact hh4)), na, os, ag, w⟩
        first
          | exact wpAny_bind (wpAny_pure (wpAny_bind fin))
          | exact wpAny_bind fin
      | @cons x c ts b₀ suite np pos' hds2 l2 hc hsu r ih =>
        intro w
        obtain ⟨b, hb1, hyes, hno⟩ := w
        refine wpAny_handleBy_cons (codeAny_handlers_test ?_) (by intro q; cases q)
        have LT : PySem.W.Looks (model X.prog X.w) h3 (typeOf (.ref a)) cls := fun A Q E s k q => wpAny_typeOf_ref (k _ _ he3) (by rw [hz3.1]; exact q)
        have LM := PySem.W.exm_one (M := model X.prog X.w) (J3.kIn) LT hb1
        have test : ∀ {Q : Value → Shared → Prop} {E : Value → Shared → Prop}, Q c { s' with heap := h3 } → wpAny (model X.prog X.w) (X.A.mark (some (.ref a))) (eval (.Name x np) X.env) Q E { s' with heap := h3 } := fun {Q E} q => by
          obtain ⟨hg, hdbg, hm | ⟨hm, hv, hnn⟩⟩ := hc
          · exact ld_glob (X := X.suite a ((a, oe3) :: (X.pn ++ pins))) S3 hg hm q hdbg
          · exact ld_blt (X := X.suite a ((a, oe3) :: (X.pn ++ pins))) S3 hg hm hv q hnn hdbg
        refine test (LM.here ?_)
        cases b with
        | true =>
          refine codeAny_handlers_suite_as ?_
          refine HandSPX.lands_againZ fl3 fun h4 fl4 up4 => ?_
          have J4 : Inv X pins σ' H' { s' with heap := h4 } := J.landed nb fl4.1 ((up.trans up3).trans up4) os ag
          obtain ⟨oe4, vs4, he4, hz4, hd4⟩ := fl4.there
          have S4 := J4.suite he4 hd4 na nL nF
          refine store_ok (X := X.suite a ((a, oe4) :: (X.pn ++ pins))) (v := .ref a) S4 hN hi hloc rfl (fun s5 S5 => ?_) (.inr hln)
          refine wpAny_mono ((hsu a oe4 cls d (X.pn ++ pins) hz4 ⟨_, hd4⟩).run [] s5 _ H' _ S5 (hyes rfl a na)) (fun f s6 hsp => ?_) (fun _ _ z => False.elim z)
          have end_ : ∀ {σ6 : L2.St} {H6 : Hp} {Q : Shared → Prop}, Inv (X.suite a ((a, oe4) :: (X.pn ++ pins))) [] σ6 H6 s6 → (∀ s7, Inv X pins (σ6.set i none) H6 s7 → Q s7) →
              wpAny (model X.prog X.w) X.A (do bindName X.env n .none; unbindBehindTheSuite X.env n pos') (fun _ s7 => Q s7) X.xe s6 := fun {σ6 H6 Q} S6 hq => gone_ok (S6.unsuite ok) hN hi hln hq
          cases f with
          | next =>
            obtain ⟨σ6, H6, S6, q6⟩ := hsp
            exact end_ S6 fun s7 J7 => ⟨_, _, J7, q6⟩
          | brk =>
            obtain ⟨σ6, H6, S6, q6⟩ := hsp
            exact end_ S6 fun s7 J7 => ⟨_, _, J7, q6⟩
          | cont =>
            obtain ⟨σ6, H6, S6, q6⟩ := hsp
            exact end_ S6 fun s7 J7 => ⟨_, _, J7, q6⟩
          | ret u =>
            obtain ⟨v6, σ6, H6, S6, r6, q6⟩ := hsp
            exact end_ S6 fun s7 J7 => ⟨_, _, _, J7, r6, q6⟩
        | false =>
          show wpAny _ X.A (handleBy (.ref a) X.env hds2) _ _ _
          exact ih (hno rfl)
    exact go hh w
  · cases f with
    | next =>
      obtain ⟨σ', H', J', q⟩ := hsp
      exact wpAny_execs_nil ⟨σ', H', J'.ofTry ok, q⟩
    | brk =>
      obtain ⟨σ', H', J', q⟩ := hsp
      exact ⟨σ', H', J'.ofTry ok, q⟩
    | cont =>
      obtain ⟨σ', H', J', q⟩ := hsp
      exact ⟨σ', H', J'.ofTry ok, q⟩
    | ret u =>
      obtain ⟨v, σ', H', J', r, q⟩ := hsp
      exact ⟨v, σ', H', J'.ofTry ok, r, q⟩
end
end My

namespace My
open PySem PySem.Spec PyProof.Rows L2
/-! ### own errors as they stand behind the top: what is asked of the written part -/
abbrev ErW : Type := Option (Str × Str × Arguments × FuncBody × Scope × Addr × Addr)
def erI (K : PySem.W.Frag) (x : Str) : Addr := match PySem.W.findIn K (.ref (He.ga K x)) "__init__" with
  | some (some (.ref a)) => a
  | _ => 0
def erW (K : PySem.W.Frag) (x : Str) : ErW := match K.lookup (erI K x) with
  | some ⟨_, _, .func fd, _⟩ => some (fd.name, fd.qualname, fd.params, fd.body, fd.scope, fd.globals, fd.builtins)
  | _ => none
/-- an own error class over ValueError -/
def oexB (K : PySem.W.Frag) (C : Addr) : Bool := match K.lookup C with
  | some ⟨.type "type", _, .cls cd, sl⟩ => (match cd.mro, sl.toList with
    | .ref C' :: bm, [_, _, _, _, some (.builtin n), _] => C' == C && (n == ("ValueError.__new__" : String) && (!cd.hasDel && (cd.hasDict && PySem.HandSPX.refsVE bm)))
    | _, _ => false)
  | _ => false
theorem oexB_ok {K : PySem.W.Frag} {C : Addr} (q : oexB K C = true) : ∃ nm qn N bs bm sn sub ab col dd k0 k1 k2 k3 k5, K.lookup C = some (excClassObj nm qn C N bs bm true sn sub ab col dd k0 k1 k2 k3 k5 "ValueError.__new__") ∧ PySem.HandSPX.refsVE bm = true := by
  unfold oexB at q
  split at q
  · rename_i dd cd sl ho
    split at q
    · rename_i C' bm k0 k1 k2 k3 n k5 hm hs
      simp only [Bool.and_eq_true, beq_iff_eq, Bool.not_eq_true'] at q
      obtain ⟨rfl, rfl, hdel, hdict, ht⟩ := q
      obtain ⟨nm, bs, mro, ns, qn, hd, sn, sub, ab, col, del⟩ := cd
      dsimp only at hm hdel hdict
      subst hm hdel hdict
      have hsl : sl = #[k0, k1, k2, k3, some (.builtin "ValueError.__new__"), k5] := by
        obtain ⟨l⟩ := sl
        simp only at hs
        rw [hs]
      subst hsl
      exact ⟨nm, qn, ns, bs, bm, sn, sub, ab, col, dd, k0, k1, k2, k3, k5, ho, ht⟩
    · cases q
  · cases q
/-- its __init__: one cell, of the class; code of the file; one default, None -/
def iniB (K : PySem.W.Frag) (file x : Str) : Bool := match K.lookup (erI K x) with
  | some ⟨_, _, .func fd, _⟩ => (match fd.closure with
    | [(n, cc)] => decide (n = ("__class__" : Str)) && ((match K.lookup cc with
      | some ⟨_, _, .cell (some (.ref C')), _⟩ => C' == He.ga K x
      | _ => false) && ((match fd.code with
        | .ref c => (match K.lookup c with
          | some ⟨_, _, .fields vs, _⟩ => (match (vs[2]? : Option Value) with
            | some (Value.str f _) => decide (f = file)
            | _ => false)
          | _ => false)
        | _ => false) && (PySem.W.codeIn K fd.code (x ++ (".__init__" : Str)) && (He.dflB K fd.defaults [.non] && He.kwdB K fd.kwdefaults []))))
    | _ => false)
  | _ => false
def errB (K : PySem.W.Frag) (file x : Str) : Bool :=
  oexB K (He.ga K x) && (iniB K file x && (xfB K (He.ga K x) && (decide (PySem.W.findIn K (.ref (He.ga K x)) "__setattr__" = some (some (.builtin "object.__setattr__"))) && (decide (PySem.W.subIn K (.ref (He.ga K x)) (.type "BaseException") = some true) && (decide (PySem.W.typeIn K (.ref (He.ga K x)) = some (.type "type")) && (PySem.W.keepIn K (.ref (He.ga K x)) &&
  (decide (PySem.W.ks_superIn K (He.ga K x) (He.ga K x) "__init__" = some (some (.builtin "ValueError.__init__"))) && (decide (PySem.W.subIn K (.ref (He.ga K x)) (.type "ValueError") = some true) && (decide (PySem.W.mroIn K (He.ga K x) (.ref (He.ga K x)) = some true) && (decide (PySem.W.nsIn K cStatics "thirdparty.any" = some none) && (decide (PySem.W.findIn K (.ref (He.ga K x)) "value" = some none) &&
  (decide (PySem.W.findIn K (.ref (He.ga K x)) "__init__" = some (some (.ref (erI K x)))) && decide (PySem.W.typeIn K (.ref (erI K x)) = some (.type "function"))))))))))))))
structure ErrC (K : PySem.W.Frag) (file x : Str) (st : Stmt) (C fI : Addr) (fd : FuncData) : Prop where
  sup : Sup.SupC K file x st C fI fd
  ini : PySem.W.findIn K (.ref C) "__init__" = some (some (.ref fI))
  ity : PySem.W.typeIn K (.ref fI) = some (.type "function")
  bnd : Binds K fd ["self", "value"] []
  xf : XfC K C
theorem err_ok {K : PySem.W.Frag} {file x : Str} {st : Stmt} (h : errB K file x = true) (e : erW K x = some (("__init__" : Str), x ++ (".__init__" : Str), defArgs st, FuncBody.stmts (defBody st), defScope st, mainGlobals, builtinsNs))
    (hb : ∀ (T cc : Addr) (kV doc pm : Value) (an : Option Addr) (cdv ct : Value) (us its : List Value), us.length = 2 → its.length = 1 →
      ∃ k, bindArgs (PySem.W.ksFn "__init__" (x ++ (".__init__" : Str)) (defArgs st) (defBody st) (defScope st) (.ref T) kV doc pm an cdv ct cc) ⟨us, []⟩ = seqItems? (.ref T) >>= k ∧ k (some its.toArray) = pure ((["self", "value"] : List Str).zip us)) :
    ∃ fd, ErrC K file x st (He.ga K x) (erI K x) fd := by
  unfold errB at h
  obtain ⟨h1, h⟩ := He.ba h
  obtain ⟨h2, h⟩ := He.ba h
  obtain ⟨h3, h⟩ := He.ba h
  obtain ⟨h4, h⟩ := He.ba h
  obtain ⟨h5, h⟩ := He.ba h
  obtain ⟨h6, h⟩ := He.ba h
  obtain ⟨h7, h⟩ := He.ba h
  obtain ⟨h8, h⟩ := He.ba h
  obtain ⟨h9, h⟩ := He.ba h
  obtain ⟨h10, h⟩ := He.ba h
  obtain ⟨h11, h⟩ := He.ba h
  obtain ⟨h12, h⟩ := He.ba h
  obtain ⟨h13, h14⟩ := He.ba h
  unfold iniB at h2
  unfold erW at e
  cases q : K.lookup (erI K x) with
  | none => rw [q] at e; cases e
  | some o =>
    obtain ⟨oc, od, dt, osl⟩ := o
    rw [q] at e h2
    cases dt with
    | func fd =>
      obtain ⟨n1, n2, n3, n4, n5, n6, n7, n8, n9, n10, n11, n12, n13, n14, n15⟩ := fd
      have e2 : (some (n1, n2, n3, n4, n5, n6, n15) : ErW) = some (("__init__" : Str), x ++ (".__init__" : Str), defArgs st, FuncBody.stmts (defBody st), defScope st, mainGlobals, builtinsNs) := e
      simp only [Option.some.injEq, Prod.mk.injEq] at e2
      obtain ⟨r1, r2, r3, r4, r5, r6, r7⟩ := e2
      subst r1 r2 r3 r4 r5 r6 r7
      dsimp only at h2
      split at h2
      · rename_i n cc
        obtain ⟨k1, h2⟩ := He.ba h2
        obtain ⟨k2, h2⟩ := He.ba h2
        obtain ⟨k3, h2⟩ := He.ba h2
        obtain ⟨k4, h2⟩ := He.ba h2
        obtain ⟨k5, k6⟩ := He.ba h2
        obtain rfl := of_decide_eq_true k1
        split at k2
        · rename_i cl cld C' csl lcc
          obtain rfl := beq_iff_eq.mp k2
          split at k3
          · rename_i c0
            split at k3
            · rename_i ccl cdd vs ccs lc
              split at k3
              · rename_i f tf hvs
                obtain rfl := of_decide_eq_true k3
                have D := He.dflB_ok k5
                refine ⟨_, ⟨⟨⟨oexB_ok h1, of_decide_eq_true h4, of_decide_eq_true h5, of_decide_eq_true h6, h7⟩, ⟨oc, od, n8, n9, n10, n11, n12, _, cc, n14, osl, rfl, q, k4, ⟨ccl, cdd, vs, ccs, tf, lc, hvs⟩, cl, cld, csl, lcc⟩,
                  of_decide_eq_true h8, of_decide_eq_true h9, of_decide_eq_true h10, of_decide_eq_true h11, of_decide_eq_true h12⟩, of_decide_eq_true h13, of_decide_eq_true h14, ?_, xfB_ok h3⟩⟩
                rcases D with ⟨z, _⟩ | ⟨_, T, o, its, m, rfl, lT, oT, rT⟩
                · cases z
                · intro s us X hlen
                  rw [List.append_nil] at hlen ⊢
                  obtain ⟨k, e1, e2⟩ := hb T cc n9 n10 n11 n12 _ n14 us its hlen rT.length.symm
                  refine BindsTo.of_looks fun M => ?_
                  refine Eq.mpr (congrArg (fun z => PySem.W.Looks M s.heap z _) e1) ?_
                  exact looks_items X lT oT (.of_pure e2)
              · cases k3
            · cases k3
          · cases k3
        · cases k2
      · cases h2
    | _ => cases e
end My

namespace My
open PySem PySem.Spec PyProof.Rows L2
/-! ### an error kept behind its clause: asked by isinstance, its value read -/
/-- a caught error: its class, its dict -/
def ExK (cls : Value) (d : Option Addr) (a : Addr) : HO := .ext fun h => ∃ (oe : Obj) (vs : Array Value), h.get? a = some oe ∧ Zc cls d oe ∧ oe.data = .fields vs
section
variable {X : Cx} {pins : List (Addr × Obj)} {σ : L2.St} {H : Hp} {s : Shared} {a : Addr}
/-- what is not there in a state is none of what the state speaks of -/
theorem _root_.L2.Inv.newIn (I : Inv X pins σ H s) (hx : X.ex = []) (na : s.heap.get? a = none) : X.s_0.heap.get? a = none ∧ a ≠ X.env.locals ∧ (∀ x c, X.env.cells.lookup x = some c → a ≠ c) ∧ ∀ p ∈ X.pn ++ pins, a ≠ p.1 := by
  refine ⟨?_, ?_, ?_, ?_⟩
  · cases e : X.s_0.heap.get? a with
    | none => rfl
    | some o =>
      obtain ⟨o', e'⟩ := I.base.there a o e (by rw [hx]; exact fun z => nomatch z)
      rw [na] at e'
      cases e'
  · obtain ⟨m, ⟨o, es, ep, ho, _⟩, _⟩ := I.loc
    exact fun e => by rw [← e, na] at ho; cases ho
  · intro x c e z
    obtain ⟨v, o, ho, _⟩ := I.cell x c e
    rw [← z, na] at ho
    cases ho
  · intro p hp z
    have ho := (I.pin p hp).1
    rw [← z, na] at ho
    cases ho
/-- an object that is there is from now on told of -/
theorem _root_.L2.Inv.track {cls : Value} {d : Option Addr} {oe : Obj} {vs : Array Value} (I : Inv X pins σ H s) (ha : s.heap.get? a = some oe) (z : Zc cls d oe) (hd : oe.data = .fields vs) (na : H a = none) (n0 : X.s_0.heap.get? a = none) (nL : a ≠ X.env.locals)
    (nC : ∀ x c, X.env.cells.lookup x = some c → a ≠ c) (nP : ∀ p ∈ X.pn ++ pins, a ≠ p.1) : Inv X pins σ (upd H a (ExK cls d a)) s := by
  have ne : ∀ {b : Addr} {o : HO}, H b = some o → b ≠ a := fun {b o} e q => by rw [q, na] at e; cases e
  refine ⟨I.ok, I.os, I.bare, ⟨I.base.keep, I.base.slot, fun b o e n hx => ?_, I.base.there, fun b xs e => ?_, fun b o u e => ?_, fun b ps e => ?_⟩, I.loc, I.cell, ?_, fun x c e => ?_, fun p hp => ?_, fun b u e => ?_, I.len⟩
  · rw [upd_ne fun q => by rw [q, n0] at e; cases e]
    exact I.base.free b o e n hx
  · have q := I.base.tups b xs e
    rw [upd_ne (ne q)]
    exact q
  · have q := I.base.frzs b o u e
    rw [upd_ne (ne q)]
    exact q
  · obtain ⟨m, q⟩ := I.base.tbls b ps e
    exact ⟨m, by rw [upd_ne (ne q)]; exact q⟩
  · rw [upd_ne fun q => nL q.symm]
    exact I.free
  · rw [upd_ne fun q => nC x c e q.symm]
    exact I.freeC x c e
  · obtain ⟨e, n, r⟩ := I.pin p hp
    exact ⟨e, by rw [upd_ne fun q => nP p hp q.symm]; exact n, r⟩
  · by_cases hb : b = a
    · subst hb
      rw [upd_same] at e
      cases e
      exact ⟨⟨oe, vs, ha, z, hd⟩, ⟨oe, ha⟩, fun _ _ ⟨o, v, q, r⟩ k => ⟨o, v, k o q, r⟩⟩
    · rw [upd_ne hb] at e
      exact (I.hok b u e).stay (fun c v _ q => q) (fun c q => by rw [upd_ne (ne q)]; exact q) fun c xs q => by rw [upd_ne (ne q)]; exact q
end
/-- as wManyAs, the error told of behind the clause -/
def wKeepAs (K : PySem.W.Frag) (i : Nat) (Wout : WX) (D : Ends) : List (Value × (Addr → Value → Option Addr → TS)) → WX
  | [] => Wout
  | (c, ts) :: r => fun cls d σ H => ∃ b, PySem.W.exmOne K cls c = some b ∧ (b = true → ∀ a, H a = none → ts a cls d { nx := fun σ' H' => D.nx (σ'.set i none) (upd H' a (ExK cls d a)), rt := D.rt, bk := fun σ' H' => D.bk (σ'.set i none) H', ct := fun σ' H' => D.ct (σ'.set i none) H' } (σ.set i (some (.ref a))) H) ∧
    (b = false → wKeepAs K i Wout D r cls d σ H)
section
variable {X : Cx} {n : Str} {i : Nat} {body : List Stmt} {h₀ : ExceptHandler} {hds : List ExceptHandler} {l : List (Value × (Addr → Value → Option Addr → TS))} {pos : Pos} {tb : WX → TS} {Wout : WX}
theorem ps_try_keep (hx0 : X.ex = []) (hs : X.stack = X.env :: X.outer) (hf : X.env.frame = some X.env.locals) (hN : X.N.Nodup) (hi : X.N[i]? = some n) (hln : X.env.kindOf n = some .local) (tk : Takes X Wout)
    (hb : ∀ (W : WX) (pn : List (Addr × Obj)) (xe : Value → Shared → Prop), Takes (X.tr pn xe) W → PassesOwn (model X.prog X.w) X.A X.env xe → PSs (X.tr pn xe) body (tb W))
    (hh : HdsAs X n (h₀ :: hds) l) : PS X (.Try body (h₀ :: hds) [] [] pos) (fun D σ H => tb (wKeepAs X.K i Wout D l) D σ H) := by
  refine ⟨fun pins s σ H D I h => ?_⟩
  have ok := I.ok
  have hfr : X.A.frames = some (X.env :: X.outer) := by rw [ok.frames, hs]
  have hloc : Loc X.env.scope n := .inl hln
  refine wpAny_Try_except ?_
  refine wpAny_mono ((hb (wKeepAs X.K i Wout D l) (X.pn ++ pins) (fun e s₁ => wpAny (model X.prog X.w) X.A (noteFrame e X.env) (fun _ s₂ => wpAny (model X.prog X.w) X.A (setFlight e none) (fun _ s₃ =>
    wpAny (model X.prog X.w) X.A (handleBy e X.env (h₀ :: hds)) (SP X pins D) X.xe s₃) X.xe s₂) X.xe s₁) (fun u s' xx => ?_) PassesOwn.looking).run [] s σ H D (I.toTry _) h) (fun f s1 hsp => ?_) (fun e s1 he => he)
  · -- the catch
    obtain ⟨a, B, sI, pins', σ', H', cls, d, rfl, J', nb, up, sky, na, os, ag, w⟩ := xx
    have J : Inv X pins σ' H' sI := J'.ofTry ok
    have sky' : Sky B (X.env :: X.outer) a (Zc cls d) X.env.locals s'.heap := by rw [← hs]; exact sky
    show wpAny (model X.prog X.w) X.A (noteFrame (.ref a) X.env) _ _ _
    refine Sky.land Zc.steady hfr hf sky' fun h3 fl3 up3 => ?_
    have J3 : Inv X pins σ' H' { s' with heap := h3 } := J.landed nb fl3.1 (up.trans up3) os ag
    obtain ⟨oe3, vs3, he3, hz3, hd3⟩ := fl3.there
    have notFr : ∀ {h : Heap} {o : Obj} {vs : Array Value}, h.FunFrames B (X.env :: X.outer) → h.get? a = some o → o.data = .fields vs → a ∉ frs (X.env :: X.outer) := fun {h o vs} ff e dd hm => by
      obtain ⟨_, o', e', hnf⟩ := ff.mem hm
      rw [e] at e'; cases e'
      exact hnf _ dd
    have nfr := notFr fl3.2.2.1 he3 hd3
    have nL : a ≠ X.env.locals := fun z => nfr (List.mem_filterMap.mpr ⟨X.env, List.mem_cons_self, by rw [hf, z]⟩)
    have nF : a ∉ X.fs := fun hm => by
      obtain ⟨e, he, q⟩ := List.mem_filterMap.mp hm
      exact nfr (List.mem_filterMap.mpr ⟨e, List.mem_cons_of_mem _ he, q⟩)
    have S3 := J3.suite he3 hd3 na nL nF
    have new := Inv.newIn J hx0 (a := a) (by
      cases e : sI.heap.get? a with
      | none => rfl
      | some o =>
        have := nb a o e (by rw [hs]; exact nfr)
        rw [fl3.2.1] at this
        cases this)
    have go : ∀ {hds' : List ExceptHandler} {l' : List (Value × (Addr → Value → Option Addr → TS))}, HdsAs X n hds' l' → wKeepAs X.K i Wout D l' cls d σ' H' →
        wpAny (model X.prog X.w) X.A (handleBy (.ref a) X.env hds') (SP X pins D) X.xe { s' with heap := h3 } := by
      intro hds' l' hk
      induction hk with
      | nil =>
        intro w
        refine wpAny_handleBy_nil ?_
        obtain ⟨k1, k2, k3, oe, vs, T, oT, ts', he, hz, hd, h1, hr⟩ := id fl3
        unfold PySem.passOn
        refine wpAny_bind (wpAny_field he hd h1 ?_)
        rw [if_neg (show ¬ ((Value.ref T == Value.none) = true) from by simp)]
        have fin : wpAny (model X.prog X.w) X.A (setFlight (.ref a) X.env.frame) (fun _ s4 => wpAny (model X.prog X.w) X.A (throw (.ref a) : Sem Flow) (SP X pins D) X.xe s4) X.xe { s' with heap := h3 } := by
          rw [hf]
          refine HandSPX.setFlight_upZ fl3 fun h4 hh4 up4 => wpAny_throw (tk _ _ ?_)
          exact ⟨a, B, sI, pins, σ', H', cls, d, rfl, J, nb, (up.trans up3).trans up4, .inr (.inr (by rw [hs]; exact hh4)), na, os, ag, w⟩
        first
          | exact wpAny_bind (wpAny_pure (wpAny_bind fin))
          | exact wpAny_bind fin
      | @cons x c ts b₀ suite np pos' hds2 l2 hc hsu r ih =>
        intro w
        obtain ⟨b, hb1, hyes, hno⟩ := w
        refine wpAny_handleBy_cons (codeAny_handlers_test ?_) (by intro q; cases q)
        have LT : PySem.W.Looks (model X.prog X.w) h3 (typeOf (.ref a)) cls := fun A Q E s k q => wpAny_typeOf_ref (k _ _ he3) (by rw [hz3.1]; exact q)
        have LM := PySem.W.exm_one (M := model X.prog X.w) (J3.kIn) LT hb1
        have test : ∀ {Q : Value → Shared → Prop} {E : Value → Shared → Prop}, Q c { s' with heap := h3 } → wpAny (model X.prog X.w) (X.A.mark (some (.ref a))) (eval (.Name x np) X.env) Q E { s' with heap := h3 } := fun {Q E} q => by
          obtain ⟨hg, hdbg, hm | ⟨hm, hv, hnn⟩⟩ := hc
          · exact ld_glob (X := X.suite a ((a, oe3) :: (X.pn ++ pins))) S3 hg hm q hdbg
          · exact ld_blt (X := X.suite a ((a, oe3) :: (X.pn ++ pins))) S3 hg hm hv q hnn hdbg
        refine test (LM.here ?_)
        cases b with
        | true =>
          refine codeAny_handlers_suite_as ?_
          refine HandSPX.lands_againZ fl3 fun h4 fl4 up4 => ?_
          have J4 : Inv X pins σ' H' { s' with heap := h4 } := J.landed nb fl4.1 ((up.trans up3).trans up4) os ag
          obtain ⟨oe4, vs4, he4, hz4, hd4⟩ := fl4.there
          have S4 := J4.suite he4 hd4 na nL nF
          refine store_ok (X := X.suite a ((a, oe4) :: (X.pn ++ pins))) (v := .ref a) S4 hN hi hloc rfl (fun s5 S5 => ?_) (.inr hln)
          refine wpAny_mono ((hsu a oe4 cls d (X.pn ++ pins) hz4 ⟨_, hd4⟩).run [] s5 _ H' _ S5 (hyes rfl a na)) (fun f s6 hsp => ?_) (fun _ _ z => False.elim z)
          have end_ : ∀ {σ6 : L2.St} {H6 : Hp} {Q : Shared → Prop}, Inv (X.suite a ((a, oe4) :: (X.pn ++ pins))) [] σ6 H6 s6 → (∀ s7, Inv X pins (σ6.set i none) H6 s7 → Q s7) →
              wpAny (model X.prog X.w) X.A (do bindName X.env n .none; unbindBehindTheSuite X.env n pos') (fun _ s7 => Q s7) X.xe s6 := fun {σ6 H6 Q} S6 hq => gone_ok (S6.unsuite ok) hN hi hln hq
          cases f with
          | next =>
            obtain ⟨σ6, H6, S6, q6⟩ := hsp
            obtain ⟨ha6, na6, _, _, _⟩ := S6.pin (a, oe4) (List.mem_append.mpr (.inl List.mem_cons_self))
            exact gone_ok (Inv.track (S6.unsuite ok) ha6 hz4 hd4 na6 new.1 new.2.1 new.2.2.1 new.2.2.2) hN hi hln fun s7 J7 => ⟨_, _, J7, q6⟩
          | brk =>
            obtain ⟨σ6, H6, S6, q6⟩ := hsp
            exact end_ S6 fun s7 J7 => ⟨_, _, J7, q6⟩
          | cont =>
            obtain ⟨σ6, H6, S6, q6⟩ := hsp
            exact end_ S6 fun s7 J7 => ⟨_, _, J7, q6⟩
          | ret u =>
            obtain ⟨v6, σ6, H6, S6, r6, q6⟩ := hsp
            exact end_ S6 fun s7 J7 => ⟨_, _, _, J7, r6, q6⟩
        | false =>
          show wpAny _ X.A (handleBy (.ref a) X.env hds2) _ _ _
          exact ih (hno rfl)
    exact go hh w
  · cases f with
    | next =>
      obtain ⟨σ', H', J', q⟩ := hsp
      exact wpAny_execs_nil ⟨σ', H', J'.ofTry ok, q⟩
    | brk =>
      obtain ⟨σ', H', J', q⟩ := hsp
      exact ⟨σ', H', J'.ofTry ok, q⟩
    | cont =>
      obtain ⟨σ', H', J', q⟩ := hsp
      exact ⟨σ', H', J'.ofTry ok, q⟩
    | ret u =>
      obtain ⟨v, σ', H', J', r, q⟩ := hsp
      exact ⟨v, σ', H', J'.ofTry ok, r, q⟩
end
/-! ### isinstance of it, its value -/
/-- what isinstance asks of the class of an error -/
structure ExcI (K : PySem.W.Frag) (D : Addr) : Prop where
  xf : XfC K D
  ha : PySem.W.findIn K (.ref D) "__class__" = some (some (.builtin "object.__class__"))
  hn : PySem.W.specialIn K (.builtin "object.__class__") "__get__" = some (some (.builtin "getset_descriptor.__get__"))
  ht : PySem.W.takesIn K (.builtin "object.__class__") = some true
  hm : PySem.W.mroIn K D (.type "object") = some true
/-- its class by name, the error with a dict of its own -/
theorem cls_named {prog : Program} {w : World} {A : Around} {F : Value → Shared → Prop} {st : Shared} {K : PySem.W.Frag} {a C : Addr} {oe od : Obj} {G : Option Value → Shared → Prop} (c : ExcI K C) (hK : K.In st.heap) (J : PySem.W.InstAt st.heap a oe C (some od))
    (g : G (some (.ref C)) { st with toks := st.toks + 1 }) : wpAny (model prog w) A (getAttr? (.ref a) "__class__") G F st := by
  have found : PySem.W.findObj K C (some od) "__class__" = some (.bind (.builtin "getset_descriptor.__get__") (.builtin "object.__class__")) := by
    refine PySem.W.findObj_data ?_ c.ha c.hn c.ht
    obtain ⟨kd, hk, _⟩ := PySem.W.any_some c.xf.hdC
    rw [hk]
    rfl
  obtain ⟨hh, gs, dr, tk, o5⟩ := st
  have isC := J.type (M := model prog w)
  have isGa := PySem.W.looks_findIn (M := model prog w) hK c.xf.ga
  have isGg := PySem.W.looks_findIn (M := model prog w) hK c.xf.gg
  have isIt := PySem.W.looks_find (M := model prog w) hK J found
  have isSub : PySem.W.Looks (model prog w) hh (isInstance (.ref a) (.type "BaseException")) true := isC.andThen (PySem.W.looks_subIn hK c.xf.exC)
  have n1 : (Value.builtin "BaseException.__getattribute__" == Value.builtin "object.__getattribute__") = false := by decide +kernel
  have n2 : (onTheHeap (Value.ref C) && Value.builtin "BaseException.__getattribute__" == Value.builtin "object.__getattribute__") = false := by rw [n1]; exact Bool.and_false _
  have n3 : (false && onTheHeap (Value.builtin "BaseException.__getattribute__")) = false := Bool.false_and _
  unfold getAttr? getAttrBy? getAttrBy
  refine wpAny_bind (wpAny_mkText (wpAny_bind (wpAny_attempt (wpAny_holding (wpAny_bind (isC.at (wpAny_bind (isGa.at ?_))))))))
  change wpAny _ _ (if (onTheHeap (Value.ref C) && Value.builtin "BaseException.__getattribute__" == Value.builtin "object.__getattribute__") = true then _ else _) _ _ _
  rw [n2]
  rw [if_neg Bool.false_ne_true]
  unfold getAttrByItsOwn hookBefore
  refine wpAny_bind ?_
  have n4 : onTheHeap (Value.ref C) = true := by rfl
  rw [if_pos n4]
  refine isGg.at (wpAny_bind (wpAny_attempt (wpAny_holding ?_)))
  unfold callGetattribute
  rw [n3]
  rw [if_neg Bool.false_ne_true]
  unfold boundAndCalled
  rw [PySem.F.excAttr_ValueError.ga.bind (.ref a)]
  refine wpAny_bind (wpAny_pure ?_)
  change wpAny _ _ (call (.builtin "BaseException.__getattribute__") [.ref a, .str "__class__" tk]) _ _ _
  refine wpAny_call (codeAny_call_builtin PySem.F.excAttr_ValueError.ga.plain PySem.F.entry_bexc_ga ?_)
  refine @PySem.W.check_slot (model prog w) _ _ ⟨hh, gs, dr, tk + 1, o5⟩ "BaseException.__getattribute__" "BaseException" "__getattribute__" (.ref a) [.str "__class__" tk] [] _ (by decide +kernel) (by decide +kernel) isSub (PySem.F.args_bexc_ga _ _) ?_
  unfold Builtin.«object.__getattribute__»
  refine wpAny_bind (wpAny_of_eq (a := ((Value.ref a : Value), [Value.str "__class__" tk])) (by first | rfl | (simp only [slotArgs]; rfl)) (wpAny_bind (wpAny_pure (wpAny_bind (isC.at (wpAny_bind (isIt.at ?_)))))))
  change wpAny _ _ (holding [Value.builtin "object.__class__"] (call (.builtin "getset_descriptor.__get__") [.builtin "object.__class__", .ref a, .ref C]) >>= ret) _ _ _
  refine wpAny_bind (wpAny_holding (wpAny_call (PySem.W.class_get (s := ⟨hh, gs, dr, tk + 1, o5⟩) (ox := oe) (od := some od) hK J c.hm (wpAny_pure ?_))))
  change wpAny _ _ (handedOut (.ref C)) _ _ _
  rw [PySem.W.handedOut_of (v := .ref C) rfl]
  first
    | exact wpAny_pure g
    | exact wpAny_pure (wpAny_pure g)
    | exact wpAny_pure (wpAny_bind (wpAny_pure (wpAny_pure g)))
/-- the error is an object of its class, its dict there -/
theorem kit_err {K : PySem.W.Frag} {a C : Addr} {oe od : Obj} (c : ExcI K C) : PySem.W.KitX K (.ref a) (.ref C) (fun h => PySem.W.InstAt h a oe C (some od)) where
  ty := fun _ _ _ J => J.type
  it := fun _ h hK _ => by
    obtain ⟨kd, hk, _⟩ := PySem.W.any_some c.xf.hdC
    unfold PySem.W.clsIn at hk
    split at hk
    · rename_i e1 e2 e3 e4 there
      intro B R' F' st keep goal
      unfold isType loadHead
      exact wpAny_bind (wpAny_loadPart (keep _ _ (hK _ _ there)) (wpAny_pure goal))
    · cases hk
  ne := fun h t dd is m sl hK ht => by
    obtain ⟨kd, hk, _⟩ := PySem.W.any_some c.xf.hdC
    cases q : (Value.ref C == Value.ref t) with
    | false => rfl
    | true =>
      obtain rfl : C = t := Value.ref.inj (beq_iff_eq.mp q)
      unfold PySem.W.clsIn at hk
      split at hk
      · rename_i e1 e2 e3 e4 there
        have z := (hK _ _ there).symm.trans ht
        cases z
      · cases hk
  ca := fun hK J g => cls_named c hK J g
/-- isinstance(x, c): x a kept error, or any other thing as before -/
def rIsiE (K : PySem.W.Frag) : List V → Hp → VK → Prop := fun xs H Q => rIsi K xs H Q ∨ ∃ (a C dd : Addr) (fs : List (Str × V)) (c : V) (u : Value) (b : Bool), xs = [.ref a, c] ∧ H a = some (ExK (.ref C) (some dd) a) ∧ H dd = some (.xd fs) ∧ ExcI K C ∧ ClsV c u ∧ PySem.W.kitOne K (.ref C) u = some b ∧ Q (.bl b) H
section
variable {X : Cx}
theorem inst_kept {pins : List (Addr × Obj)} {σ : L2.St} {H : Hp} {s : Shared} {a C dd : Addr} {fs : List (Str × V)} (I : Inv X pins σ H s) (ha : H a = some (ExK (.ref C) (some dd) a)) (hd : H dd = some (.xd fs)) :
    ∃ (oe od : Obj) (mA : Str → Option Value), PySem.W.InstAt s.heap a oe C (some od) ∧ s.heap.get? dd = some od ∧ (∀ n, PySem.W.lookIn n od = some (mA n)) ∧ ∀ f, RelO (fs.lookup f) (mA f) := by
  obtain ⟨⟨oe, vs, he, hz, hv⟩, _⟩ := I.hok a _ ha
  obtain ⟨mA, hns, hr⟩ := (show ObjOk X.prog X.w H s.heap dd (.xd fs) from I.hok dd _ hd)
  obtain ⟨od, ho, hl⟩ := lookIn_ns hns
  exact ⟨oe, od, mA, ⟨he, hz.1, by unfold PySem.W.notCls; rw [hv] <;> rfl, by rw [hz.2]; exact ho⟩, ho, hl, hr⟩
theorem call_isiE : CallR X (.builtin "isinstance") (rIsiE X.K) := by
  intro pins s σ H xs us Q I r h
  rcases h with h | ⟨a, C, dd, fs, c, u, b, rfl, ha, hd, hc, hu, hk, q⟩
  · exact call_isi pins s σ H xs us Q I r h
  · obtain ⟨oe, od, mA, J, _⟩ := inst_kept I ha hd
    obtain ⟨u1, u2, rfl, r1, r2⟩ := r.two
    obtain rfl : u1 = Value.ref a := r1
    obtain rfl := hu.eq r2
    exact PySem.W.kia_one (kit_err hc) I.kIn J hk (fun z => nomatch z) fun tk => ⟨.bl b, H, I.tok tk, rfl, q⟩
theorem k_isiE (K : PySem.W.Frag) (h : X.K = K) : CallR X (.builtin "isinstance") (rIsiE K) := by subst h; exact call_isiE
/-- err.f of a kept error -/
def tXfK (K : PySem.W.Frag) (f : Str) (te : TE) : TE := fun σ H Q => te σ H fun x H1 => ∃ (a C dd : Addr) (fs : List (Str × V)) (v : V), x = .ref a ∧ H1 a = some (ExK (.ref C) (some dd) a) ∧ H1 dd = some (.xd fs) ∧ XfC K C ∧ PySem.W.findIn K (.ref C) f = some none ∧ fs.lookup f = some v ∧ Q v H1
theorem pe_xfK {e : Expr} {te : TE} {pos : Pos} {n : Str} (he : PE X e te) (hb : attributeBase e n X.env (eval e X.env) = eval e X.env := by rfl) : PE X (.Attribute e n pos) (tXfK X.K n te) := by
  refine ⟨fun pins s σ H Q I h => ?_⟩
  refine attr_of hb (thn (he.run pins s σ H _ I h) fun u s1 hh => ?_)
  obtain ⟨x, H1, I1, rx, a, C, dd, fs, v, ex, ha, hd, T, hno, l, q⟩ := hh
  subst ex
  obtain rfl : u = Value.ref a := rx
  obtain ⟨oe, od, mA, J, ho, hl, hr⟩ := inst_kept I1 ha hd
  obtain ⟨u, hu, ru⟩ := RelO.some_of (v := v) (o := mA n) (by rw [← l]; exact hr n)
  exact HandSPX.exc_get I1.kIn J T.ga T.gg T.exC (PySem.W.findObj_own T.hdC hno rfl (by rw [hl, hu])) (handed_of ru) ⟨v, H1, I1.tok _, ru, q⟩
end
end My

namespace My
open PySem PySem.Spec PyProof.Rows L2 Pre PySem.W
/-! ### a function called by a local name -/
def tCallV (P : Program) (w : World) (K : PySem.W.Frag) (mg : Str → Option Value) (base : Heap) (CX : CXT) (k : Nat) (E : XK) (tf : TE) (t : TA) : TE := fun σ H Q => tf σ H fun v H1 =>
  ∃ (f : Addr) (fd : FuncData) (ps : List Str) (sp : Sp), v = .ref f ∧ FnOk P w K mg base CX k f fd ps sp ∧ PySem.W.keepIn K (.ref f) = true ∧ Binds K fd ps [] ∧ t σ H1 fun vs H2 => sp vs H2 Q E
section
variable {X : Cx} {CX : CXT} {k : Nat} {E : XK} {x : Str} {p pos : Pos} {e : Expr} {es : List Expr} {tf : TE} {t : TA}
theorem pe_callV (hr : Room k X.A) (hf : PE X (.Name x p) tf) (hx : Passes CX X E) (ha : PA X (e :: es) t) (he : starEach (e :: es) X.env = (false, eval e X.env) :: starEach es X.env := by rfl) (hpl : (backTo pos (starEach es X.env)).any (·.1) = false := by rfl) :
    PE X (.Call (.Name x p) (e :: es) [] pos) (tCallV X.prog X.w X.K X.mg X.base CX k E tf t) := by
  refine ⟨fun pins s σ H Q I h => ?_⟩
  refine wpAny_Call_Name_kw (thn (hf.run pins s σ H _ I h) fun u s1 ⟨v, H1, I1, r, f, fd, ps, sp, ev, F, hk, hb, q⟩ => ?_)
  subst ev
  obtain rfl : u = Value.ref f := r
  refine PySem.W.callWith_K (h₀ := X.base) I1.ok.mod.kin hk (thn (ha.run pos pins s1 σ H1 _ I1 q) fun us s2 ⟨vs, H2, I2, r2, q2⟩ => ⟨I2.kIn, ?_⟩) he hpl
  exact run_fn F hr hb .nil hx I2 r2 (by rw [List.append_nil]; exact q2)
end
/-- what nothing reaches here -/
def sp_no : Sp := fun _ _ _ _ => False
end My

namespace My
open PySem PySem.Spec PyProof.Rows L2 Pre PySem.W
/-! ### a function out of a list, called at once; an instance made in a try -/
theorem arm_sub (v i : Expr) (p : Pos) (xs : List Expr) (kws : List Keyword) (q : Pos) (en : Env) : eval (.Call (.Subscript v i p) xs kws q) en = (do
    callWith q (← eval (.Subscript v i p) en) [] (backTo q (starEach xs en)) (backToKw q (keywordEach kws en))) := rfl
section
variable {X : Cx} {CX : CXT} {k : Nat} {v i : Expr} {p pos : Pos} {e : Expr} {es : List Expr} {tf : TE} {t : TA}
/-- l[i](..) in a try: what the callee raises goes to the clause -/
def tCallU (P : Program) (w : World) (K : PySem.W.Frag) (mg : Str → Option Value) (base : Heap) (CX : CXT) (k : Nat) (E : L2.St → XK) (tf : TE) (t : TA) : TE := fun σ H Q => tf σ H fun v H1 =>
  ∃ (f : Addr) (fd : FuncData) (ps : List Str) (sp : Sp), v = .ref f ∧ FnOk P w K mg base CX k f fd ps sp ∧ PySem.W.keepIn K (.ref f) = true ∧ Binds K fd ps [] ∧ t σ H1 fun vs H2 => sp vs H2 Q (E σ)
theorem pe_callU (P : Program) (w : World) (K : PySem.W.Frag) (mg : Str → Option Value) (base : Heap) (e1 : X.prog = P) (e2 : X.w = w) (e3 : X.K = K) (e4 : X.mg = mg) (e5 : X.base = base) {E : L2.St → XK} (hr : Room k X.A) (hf : PE X (.Subscript v i p) tf)
    (hx : ∀ σ, PassesAt (L2.CX X.prog X.w) X σ (E σ)) (ha : PA X (e :: es) t) (he : starEach (e :: es) X.env = (false, eval e X.env) :: starEach es X.env := by rfl) (hpl : (backTo pos (starEach es X.env)).any (·.1) = false := by rfl) :
    PE X (.Call (.Subscript v i p) (e :: es) [] pos) (tCallU P w K mg base (L2.CX P w) k E tf t) := by
  subst e1 e2 e3 e4 e5
  refine ⟨fun pins s σ H Q I h => ?_⟩
  rw [arm_sub]
  refine wpAny_bind (thn (hf.run pins s σ H _ I h) fun u s1 ⟨v, H1, I1, r, f, fd, ps, sp, ev, F, hk, hb, q⟩ => ?_)
  subst ev
  obtain rfl : u = Value.ref f := r
  refine PySem.W.callWith_K (h₀ := X.base) I1.ok.mod.kin hk (thn (ha.run pos pins s1 σ H1 _ I1 q) fun us s2 ⟨vs, H2, I2, r2, q2⟩ => ⟨I2.kIn, ?_⟩) he hpl
  exact run_fnS F hr hb (hx σ) I2 r2 q2
/-- C(..) in a try -/
def tMakeU (C : Addr) (sp : Sp) (E : L2.St → XK) (t : TA) : TE := fun σ H Q => t σ H fun vs G => ∀ x dx, G x = none → G dx = none → dx ≠ x →
  sp (.ref x :: vs) (upd (upd G dx (.own x)) x (.ins C dx [])) (fun v G2 => v = .non ∧ Q (.ref x) G2) (E σ)
theorem run_makeU {C f : Addr} {fd : FuncData} {ps : List Str} {sp : Sp} {E : L2.St → XK} {pins : List (Addr × Obj)} {σ : L2.St} {H : Hp} {s : Shared} {Q : VK} {us : List Value} {vs : List V} (M : Mk X.K C f) (F : FnOk X.prog X.w X.K X.mg X.base CX k f fd ps sp)
    (rm : Room (k + 1) X.A) (hb : Binds X.K fd ps []) (px : PassesAt CX X σ (E σ)) (I : Inv X pins σ H s) (rv : Vals vs us)
    (h : ∀ x dx, H x = none → H dx = none → dx ≠ x → sp (.ref x :: vs) (upd (upd H dx (.own x)) x (.ins C dx [])) (fun v G2 => v = .non ∧ Q (.ref x) G2) (E σ)) :
    wpAny (model X.prog X.w) X.A (call (.ref C) us) (EP X pins σ Q) X.xe s := by
  let n := s.heap.objs.size
  have hn := h (n + 1) n (I.hok.fresh (Nat.le_succ n)) (I.hok.fresh (Nat.le_refl n)) (Nat.ne_of_lt (Nat.lt_succ_self n))
  have J := Inv.made (C := C) I
  have rw2 : Vals (V.ref (n + 1) :: vs) (Value.ref (n + 1) :: us) := .cons rfl rv
  have ln : (Value.ref (n + 1) :: us).length = ps.length := rw2.length.symm.trans (F.len _ _ _ _ hn)
  have bb := hb _ (Value.ref (n + 1) :: us) J.kIn (by rw [List.append_nil]; exact ln)
  rw [List.append_nil] at bb
  refine wpAny_call (make_map (f := f) I.kIn M.makes M.init (beq_iff_eq.mp M.fn) (codeAny_mono
    (F.run _ X.stack _ _ ⟨Value.ref (n + 1) :: us, []⟩ (Value.ref (n + 1) :: us) _ _ (E σ) (rm.make C us []) (J.env0.make C us []) bb rw2 hn) fun r s' hq => ?_))
  cases r with
  | error x => exact px pins _ _ x s' J hq
  | ok fl =>
    cases fl with
    | ret u =>
      obtain ⟨v, G, I3, r3, ev, q3⟩ := J.after hq
      subst ev
      exact ⟨r3, ⟨V.ref (n + 1), G, I3, rfl, q3⟩⟩
    | next => exact hq.elim
    | brk => exact hq.elim
    | cont => exact hq.elim
theorem pe_makeU {C f : Addr} {fd : FuncData} {ps : List Str} {sp : Sp} {E : L2.St → XK} {x : Str} (M : Mk X.K C f) (F : FnOk X.prog X.w X.K X.mg X.base CX k f fd ps sp) (hr : Room (k + 1) X.A) (hg : Gl X x) (hm : X.mg x = some (.ref C)) (hb : Binds X.K fd ps [])
    (hx : ∀ σ, PassesAt CX X σ (E σ)) (ha : PA X (e :: es) t) (hdb : (x == ("__debug__" : Str)) = false := by decide) (he : starEach (e :: es) X.env = (false, eval e X.env) :: starEach es X.env := by rfl) (hpl : (backTo pos (starEach es X.env)).any (·.1) = false := by rfl) :
    PE X (.Call (.Name x p) (e :: es) [] pos) (tMakeU C sp E t) := by
  refine ⟨fun pins s σ H Q I h => ?_⟩
  refine wpAny_Call_Name_kw (ld_glob I hg hm ?_ hdb)
  refine PySem.W.callWith_K (h₀ := X.base) I.ok.mod.kin M.kp (thn (ha.run pos pins s σ H _ I h) fun us s1 ⟨vs, G, I1, r, q⟩ => ⟨I1.kIn, ?_⟩) he hpl
  exact run_makeU M F hr hb (hx σ) I1 r q
end
end My

namespace My
open PySem PySem.Spec PyProof.Rows L2 Pre
/-! ### == and != of instances by their class's own __eq__ -/
/-- != of a class with own __eq__, without own __ne__ -/
theorem own_ne {prog : Program} {w : World} {A : Around} {E : Value → Shared → Prop} {s : Shared} {K : PySem.W.Frag} {x C f : Addr} {ox : Obj} {od : Option Obj} {b tb : Value} {Q : Value → Shared → Prop} (room : A.units + 1 < cLine) (kin : K.In s.heap)
    (inst : PySem.W.InstAt s.heap x ox C od) (tyb : PySem.W.Looks (model prog w) s.heap (typeOf b) tb) (nf : PySem.W.notFirst K C tb = true) (hne : PySem.W.findIn K (.ref C) "__ne__" = some (some (.builtin "object.__ne__")))
    (heq : PySem.W.findIn K (.ref C) "__eq__" = some (some (.ref f))) (isf : PySem.W.isFn K (.ref f) = true) (hob : PySem.W.subIn K (.ref C) (.type "object") = some true)
    (h : wpAny (model prog w) A.in1 (call (.ref f) [.ref x, b]) (fun v s' => ∃ r, v = .bool r ∧ Q (.bool (!r)) s') E s) : wpAny (model prog w) A (richCompare .NotEq (.ref x) b) Q E s := by
  have body : wpAny (model prog w) A.in1 (Builtin.«object.__ne__» ⟨[.ref x, b], []⟩) (fun fin s' => ∃ r, fin = .done (.ret (.bool r)) ∧ Q (.bool r) s') E s := by
    unfold Builtin.«object.__ne__»
    refine wpAny_bind (wpAny_of_eq (a := ((Value.ref x : Value), [b])) (by first | rfl | (simp only [slotArgs]; rfl)) ?_)
    refine wpAny_bind (wpAny_cRoomFor (show A.in1.units < cLine from room) ?_)
    refine wpAny_bind (PySem.W.ifBound_K kin inst heq isf (wpAny_mono h (fun v s' hv => ?_) fun _ _ e => e))
    obtain ⟨r, rfl, q⟩ := hv
    refine wpAny_bind (wpAny_truthy_bool ?_)
    exact wpAny_pure ⟨!r, rfl, q⟩
  have one : wpAny (model prog w) A (tryCompare (.ref x) "__ne__" b) (fun o s' => ∃ v, o = some v ∧ Q v s') E s := by
    have called : wpAny (model prog w) A (call (.builtin "object.__ne__") ([.ref x] ++ [b]) >>= fun v => pure (some v)) (fun o s' => ∃ v r, o = some v ∧ v = .bool r ∧ Q v s') E s := by
      refine wpAny_bind (wpAny_call (codeAny_call_builtin PySem.F.cmp_object.ne.plain PySem.F.cmpEntry_ne (PySem.W.check_slot PySem.F.cmpKind_ne PySem.F.cmpSplit_ne (inst.type.andThen (PySem.W.looks_subIn kin hob)) (PySem.F.cmpArgs_ne _ _) ?_)))
      refine wpAny_mono body (fun fin s' hf => ?_) fun _ _ e => e
      obtain ⟨r, rfl, q⟩ := hf
      exact wpAny_pure ⟨_, r, rfl, rfl, q⟩
    have inner : wpAny (model prog w) A (callSpecialIfBound? (.ref x) "__ne__" [b]) (fun o s' => ∃ v r, o = some v ∧ v = .bool r ∧ Q v s') E s := by
      simp only [callSpecialIfBound?, bindSpecialIfBound?]
      refine wpAny_holding (wpAny_bind (wpAny_bind (wpAny_bind (inst.type.here ((PySem.W.looks_findIn kin hne).here ?_)))))
      refine wpAny_bind (wpAny_askSetting (wpAny_ite ?_))
      rw [PySem.F.cmp_object.ne.bind]
      split
      · exact wpAny_bind (wpAny_pure (wpAny_pure called))
      · exact wpAny_tryCatch (wpAny_bind (wpAny_pure (wpAny_pure called)))
    unfold tryCompare
    refine wpAny_bind (wpAny_mono inner (fun o s' ho => ?_) fun _ _ e => e)
    obtain ⟨v, r, rfl, rfl, q⟩ := ho
    exact wpAny_pure ⟨_, rfl, q⟩
  unfold richCompare
  simp only [oneThing_ref]
  refine wpAny_holding (wpAny_bind (wpAny_cRoomFor (by omega) ?_))
  refine wpAny_bind (inst.type.here (wpAny_bind (tyb.here ?_)))
  have last : wpAny (model prog w) A (tryCompare (.ref x) "__ne__" b) (fun o s' => ∃ v, o = some v ∧ Q v s') E s := one
  split
  · rename_i q
    have e : PySem.W.subIn K tb (.ref C) = some false := by
      rcases Bool.or_eq_true_iff.mp nf with e | e
      · rw [beq_iff_eq.mp e] at q; simp at q
      · exact beq_iff_eq.mp e
    refine wpAny_bind ((PySem.W.looks_subIn kin e).here ?_)
    simp only [Bool.false_eq_true, if_false]
    refine wpAny_bind (wpAny_mono last (fun o s' z => ?_) fun _ _ e => e)
    obtain ⟨v, rfl, hq⟩ := z
    exact wpAny_pure hq
  · refine wpAny_bind (wpAny_pure ?_)
    simp only [Bool.false_eq_true, if_false]
    refine wpAny_bind (wpAny_mono last (fun o s' z => ?_) fun _ _ e => e)
    obtain ⟨v, rfl, hq⟩ := z
    exact wpAny_pure hq
/-- what is asked of a class with own __eq__ -/
structure EqC (K : PySem.W.Frag) (C f : Addr) : Prop where
  eq : PySem.W.findIn K (.ref C) "__eq__" = some (some (.ref f))
  fn : PySem.W.isFn K (.ref f) = true
  ne : PySem.W.findIn K (.ref C) "__ne__" = some (some (.builtin "object.__ne__"))
  ob : PySem.W.subIn K (.ref C) (.type "object") = some true
  li : PySem.W.subIn K (.type "list") (.ref C) = some false
  ki : PySem.W.kitOne K (.type "list") (.ref C) = some false
  tu : PySem.W.subIn K (.type "tuple") (.ref C) = some false
  kt : PySem.W.kitOne K (.type "tuple") (.ref C) = some false
/-- what stands right of ==: an instance of the same class, a list or a tuple -/
def Rhs (K : PySem.W.Frag) (H : Hp) (C : Addr) (y : V) : Prop := ∃ b, y = .ref b ∧ ((∃ dy gs, H b = some (.ins C dy gs)) ∨ (∃ xs, SqL K H b xs) ∨ ∃ xs, SqT K H b xs)
section
variable {X : Cx} {CX : CXT} {k : Nat} {f C : Addr} {fd : FuncData} {ps : List Str} {sp : Sp} {E : XK}
theorem rhs_ty {pins : List (Addr × Obj)} {σ : L2.St} {H : Hp} {s : Shared} {y : V} {u : Value} (I : Inv X pins σ H s) (c : EqC X.K C f) (h : Rhs X.K H C y) (r : RelV y u) : ∃ tb, PySem.W.Looks (model X.prog X.w) s.heap (typeOf u) tb ∧ PySem.W.notFirst X.K C tb = true := by
  obtain ⟨b, rfl, h⟩ := h
  cases r
  rcases h with ⟨dy, gs, hb⟩ | ⟨xs, hb⟩ | ⟨xs, hb⟩
  · obtain ⟨mB, J, _⟩ := ins_get I.hok hb
    obtain ⟨od, J, _⟩ := J.look
    exact ⟨_, J.type, by simp [PySem.W.notFirst]⟩
  · obtain ⟨us, _, ⟨o, n, ho, hc, _⟩, _⟩ := I.list hb
    refine ⟨.type "list", fun A Q E s' k q => wpAny_typeOf_ref (k _ _ ho) (by rw [hc]; exact q), ?_⟩
    simp only [PySem.W.notFirst, c.li]
    simp
  · obtain ⟨us, _, ⟨o, ho, hc, _⟩, _⟩ := I.tuple hb
    refine ⟨.type "tuple", fun A Q E s' k q => wpAny_typeOf_ref (k _ _ ho) (by rw [hc]; exact q), ?_⟩
    simp only [PySem.W.notFirst, c.tu]
    simp
theorem run_eq {A : Around} {pins : List (Addr × Obj)} {σ : L2.St} {H : Hp} {s : Shared} {Q : VK} {x y : V} {a : Addr} {u : Value} (F : FnOk X.prog X.w X.K X.mg X.base CX k f fd ps sp) (hr : Room k A) (fr : A.frames = X.A.frames) (hb : Binds X.K fd ps [])
    (hx : Passes CX X E) (I : Inv X pins σ H s) (ry : RelV y u) (h : sp [.ref a, y] H Q E) : wpAny (model X.prog X.w) A (call (.ref f) [.ref a, u]) (EP X pins σ Q) X.xe s := by
  have rr : Vals [V.ref a, y] [Value.ref a, u] := .cons rfl (.cons ry .nil)
  have e := I.env0
  have e0 : Env0 X.prog X.w X.K X.mg X.base A X.stack s H := ⟨by rw [fr]; exact e.frames, e.mod, e.bs, e.bsz, e.funs, e.frf, e.hok, e.bare⟩
  have bn := hb s [.ref a, u] I.kIn (by have := F.len _ _ _ _ h; simpa using this)
  rw [List.append_nil] at bn
  refine wpAny_call (codeAny_mono (F.run A X.stack s H ⟨[.ref a, u], []⟩ [.ref a, u] [.ref a, y] Q E hr e0 bn rr h) fun z s2 hz => ?_)
  match z, hz with
  | .error e, hz => exact hx pins σ H s e s2 I hz
  | .ok (.ret v), hz => exact I.after hz
def rOwn (K : PySem.W.Frag) (C : Addr) (sp : Sp) (E : XK) (no : Bool) : R2 := fun x y H Q => ∃ (a dx : Addr) (fs : List (Str × V)), x = .ref a ∧ H a = some (.ins C dx fs) ∧ Rhs K H C y ∧ sp [x, y] H (fun v H' => ∃ b, v = .bl b ∧ Q (.bl (b != no)) H') E
theorem op_own_eq (c : EqC X.K C f) (F : FnOk X.prog X.w X.K X.mg X.base CX k f fd ps sp) (hr : Room (k + 1) X.A) (hb : Binds X.K fd ps []) (hx : Passes CX X E) : OpR X (compareOp .Eq) (rOwn X.K C sp E false) := by
  intro pins s σ H x y v u Q I rx ry h
  obtain ⟨a, dx, fs, rfl, ha, hy, h⟩ := h
  cases rx
  obtain ⟨tb, lb, nf⟩ := rhs_ty I c hy ry
  obtain ⟨mA, J, _⟩ := ins_get I.hok ha
  obtain ⟨od, J, _⟩ := J.look
  obtain ⟨m, hF⟩ := I.fr
  refine PySem.W.cmp_K (op := .Eq) hr.units0 hF I.ok.mod.kin J lb nf c.eq c.fn (wpAny_mono (run_eq (x := .ref a) F (hr.mono (by omega)) rfl hb hx I ry h) (fun v s2 hv => ?_) fun _ _ z => z)
  obtain ⟨z, H2, I2, r2, b, rfl, q⟩ := hv
  cases r2
  refine ⟨.bl b, H2, I2, rfl, ?_⟩
  have e : (b != false) = b := by cases b <;> rfl
  rw [e] at q
  exact q
theorem op_own_ne (c : EqC X.K C f) (F : FnOk X.prog X.w X.K X.mg X.base CX k f fd ps sp) (hr : Room (k + 1) X.A) (hb : Binds X.K fd ps []) (hx : Passes CX X E) : OpR X (compareOp .NotEq) (rOwn X.K C sp E true) := by
  intro pins s σ H x y v u Q I rx ry h
  obtain ⟨a, dx, fs, rfl, ha, hy, h⟩ := h
  cases rx
  obtain ⟨tb, lb, nf⟩ := rhs_ty I c hy ry
  obtain ⟨mA, J, _⟩ := ins_get I.hok ha
  obtain ⟨od, J, _⟩ := J.look
  refine own_ne (by have := hr.units; omega) I.kIn J lb nf c.ne c.eq c.fn c.ob (wpAny_mono (run_eq (x := .ref a) F hr.in1 rfl hb hx I ry h) (fun v s2 hv => ?_) fun _ _ z => z)
  obtain ⟨z, H2, I2, r2, b, rfl, q⟩ := hv
  cases r2
  refine ⟨b, rfl, .bl (!b), H2, I2, rfl, ?_⟩
  have e : (b != true) = !b := by cases b <;> rfl
  rw [e] at q
  exact q
end
end My

namespace My
open PySem PySem.SeqAt
open AutoSeq1 (wpAny_loadPart')
open MeetsSeq MeetsSeq2 MeetsSeq3 SeqRoads2
/-! ### != of two lists whose items are alike, instances by their own __eq__ -/
section
variable {prog : Program} {w : World} {A : Around} {R : Result → Shared → Prop}
theorem ne_turns (l b : Addr) (N : Nat) (I : Nat → Shared → Prop) (hl : GQ.ListI prog w A (fun e s' => R (.error e) s') l b N I) (fin : ∀ s, I N s → R (.ok (.ret (.bool false))) s) (k : Nat) :
    ∀ i : Nat, N - i = k → i ≤ N → ∀ s, I i s → wpAny (model prog w) A.in1 (Builtin.«list.__eq__.loop» ⟨[.ref l, .ref b, rawInt i, rawInt 3], []⟩) (GQ.FinOf prog w A R) (fun e s' => R (.error e) s') s := by
  induction k with
  | zero =>
    intro i hk hi s h
    obtain ⟨items, items2, n, n2, hl1, hb1, hs1, hs2, _⟩ := hl _ _ h
    have hi' : i = N := by omega
    have hR : R (.ok (.ret (.bool false))) s := fin s (hi' ▸ h)
    obtain ⟨hp, g, d, tk, os⟩ := s
    wp_walk using wpAny_loadPart' hl1, wpAny_loadPart' hb1
    have hi1 : items[((i : Nat) : Int).toNat]? = none := by simp; omega
    have hi2 : items2[((i : Nat) : Int).toNat]? = none := by simp; omega
    rw [hi1, hi2]
    wp_walk using wpAny_loadPart' hl1, wpAny_loadPart' hb1
    show R (.ok (.ret (.bool (items.size != items2.size)))) _
    rw [hs1, hs2]
    simpa using hR
  | succ k ih =>
    intro i hk hi s h
    obtain ⟨items, items2, n, n2, hl1, hb1, hs1, hs2, turn⟩ := hl _ _ h
    have hlt : i < items.size := by omega
    have hlt2 : i < items2.size := by omega
    have ht := turn hlt hlt2
    obtain ⟨hp, g, d, tk, os⟩ := s
    wp_walk using wpAny_loadPart' hl1, wpAny_loadPart' hb1
    have hi1 : items[((i : Nat) : Int).toNat]? = some items[i] := by simp [hlt]
    have hi2 : items2[((i : Nat) : Int).toNat]? = some items2[i] := by simp [hlt2]
    have hc : ((i : Int) + 1) = ((i + 1 : Nat) : Int) := by omega
    rw [hi1, hi2]
    refine wpAny_bind (wpAny_mono ht (fun r s2 h2 => ?_) fun _ _ x => x)
    obtain ⟨hr, h2⟩ := h2
    subst hr
    have hrec := ih (i + 1) (by omega) (by omega) s2 h2
    obtain ⟨hp2, g2, d2, tk2, os2⟩ := s2
    wp_walk
    rw [hc]
    exact ⟨plainId_quiet plain_eq_loop _, codeAny_builtin entry_eq_loop (by
      rw [Around.under_plainId plain_eq_loop _]
      exact hrec)⟩
theorem list_ne_all (l b : Addr) (N : Nat) (I : Nat → Shared → Prop) (hl : GQ.ListI prog w A (fun e s' => R (.error e) s') l b N I) (fin : ∀ s, I N s → R (.ok (.ret (.bool false))) s) {s : Shared} (h : I 0 s) :
    wpAny (model prog w) A.in1 (Builtin.«list.__ne__» ⟨[.ref l, .ref b], []⟩) (GQ.FinOf prog w A R) (fun e s' => R (.error e) s') s := by
  obtain ⟨items, items2, n, n2, hl1, hb1, hs1, hs2, _⟩ := hl _ _ h
  have hrec := ne_turns (A := A) (R := R) l b N I hl fin _ 0 rfl (Nat.zero_le _) s h
  obtain ⟨hp, g, d, tk, os⟩ := s
  have f3 := AutoSeq1.sub_list_list
  have hne : ¬ (items.size != items2.size) = true := by simp [hs1, hs2]
  wp_walk using wpAny_loadPart' hl1, wpAny_loadPart' hb1
  exact ⟨plainId_quiet plain_eq_loop _, codeAny_builtin entry_eq_loop (by
    rw [Around.under_plainId plain_eq_loop _]
    exact hrec)⟩
end
theorem rc_list_ne_all {prog : Program} {w : World} {A : Around} {E : Value → Shared → Prop} {s : Shared} {l b : Addr} {N : Nat} {Q : Value → Shared → Prop} (hu : A.units < cLine) (I : Nat → Shared → Prop) (hl : GQ.ListI prog w A E l b N I)
    (fin : ∀ s, I N s → Q (.bool false) s) (h : I 0 s) : wpAny (model prog w) A (richCompare .NotEq (.ref l) (.ref b)) Q E s := by
  obtain ⟨items, items2, n, n2, hl1, hb1, _, _, _⟩ := hl _ _ h
  refine wpAny_richCompare_same_room (op := .NotEq) ⟨_, hl1, rfl⟩ ⟨_, hb1, rfl⟩ F.slot_list_ne (GQ.call_here F.slot_list_ne ⟨_, hl1, rfl⟩ F.entry_list_ne (F.args_list_ne_2 _ _) ?_) hu
  exact list_ne_all (R := wants (fun v s' => v ≠ .notImplemented ∧ Q v s') E) l b N I hl (fun s' q => ⟨(fun x => nomatch x), fin s' q⟩) h
end My
namespace My
open PySem PySem.Spec PyProof.Rows L2 Pre
/-- flat values alike, or instances of a class of which R holds -/
abbrev DOwn (C : Addr) (R : Addr → Addr → Hp → Prop) : Eqv := fun x y H => DFlat x y H ∨ DIns C R x y H
def rNeG (K : PySem.W.Frag) (C : Addr) (R : Addr → Addr → Hp → Prop) : R2 := fun x y H Q => rNeD K x y H Q ∨ (DList (DOwn C R) x y H ∧ ∀ H', Ext H H' → Q (.bl false) H')
theorem FnOk.imp {P : Program} {w : World} {K : PySem.W.Frag} {mg : Str → Option Value} {base : Heap} {CX : CXT} {k : Nat} {f : Addr} {fd : FuncData} {ps : List Str} {sp sp' : Sp} (F : FnOk P w K mg base CX k f fd ps sp) (h : ∀ vs H Q E, sp' vs H Q E → sp vs H Q E) : FnOk P w K mg base CX k f fd ps sp' :=
  ⟨fun _ _ _ _ z => F.len _ _ _ _ (h _ _ _ _ z), fun A st s H pk vs xs Q E hr e0 bn rr z => F.run A st s H pk vs xs Q E hr e0 bn rr (h _ _ _ _ z)⟩
theorem op_neG {X : Cx} {CX : CXT} {k : Nat} {f C : Addr} {fd : FuncData} {ps : List Str} {R : Addr → Addr → Hp → Prop} {E : XK} (c : EqC X.K C f) (F : FnOk X.prog X.w X.K X.mg X.base CX k f fd ps (spEq R)) (hR : ∀ a b H H', Ext H H' → R a b H → R a b H') (hr : Room (k + 1) X.A) (hu : X.A.units + 64 < cLine) (hb : Binds X.K fd ps []) (hx : Passes CX X E) : OpR X (compareOp .NotEq) (rNeG X.K C R) := by
  intro pins s σ H x y v u Q I rx ry h
  rcases h with h | ⟨d, q⟩
  · exact op_neD hu pins s σ H x y v u Q I rx ry h
  have hD : Mon (DOwn C R) := Mon.or mon_flat (mon_ins hR)
  have hE : EqG X k (DOwn C R) := EqG.or (eqG_flat.mono (Nat.zero_le _)) (eqG_ins F c.eq c.fn hb hx)
  obtain ⟨a, b, xs, ys, rfl, rfl, ha, hb', p⟩ := d
  cases rx
  cases ry
  have sb : Sub X (k + 1) X.A := ⟨hr, rfl⟩
  show wpAny (model X.prog X.w) X.A (richCompare .NotEq _ _) (EP X pins σ Q) X.xe s
  refine rc_list_ne_all (N := xs.length) sb.room.units0 (fun _ s' => LoopI X pins σ H s') (fun i s' z => ?_) (fun s' z => ?_) ⟨H, I, Ext.rfl'⟩
  · obtain ⟨H1, I1, e1⟩ := id z
    obtain ⟨z1, its, k1, r, e⟩ := I1.hok a _ (e1 _ _ ha)
    obtain ⟨z2, its2, k2, r2, e2⟩ := I1.hok b _ (e1 _ _ hb')
    refine ⟨its.toArray, its2.toArray, k1, k2, e, e2, by rw [List.size_toArray, ← r.length], by rw [List.size_toArray, ← r2.length, ← p.1], fun h1 h2 => ?_⟩
    exact turnG hD hE sb p r r2 i h1 h2 s' z
  · obtain ⟨H1, I1, e1⟩ := z
    exact ⟨.bl false, H1, I1, rfl, q H1 e1⟩
end My

namespace My
open PySem PySem.Spec PyProof.Rows PySem.W L2 Pre
/-- products of one small number, or of two that are not too great -/
def CMulA (i j : Int) : Prop := CMul i j ∨ CMulX i j
theorem op_mulA {X : Cx} : OpR X (binaryOp .Mult) (rI CMulA fun i j => .int (i * j)) := fun pins s σ H x y v u Q I r1 r2 h => by
  obtain ⟨i, j, ex, ey, hc, q⟩ := h
  rcases hc with hc | hc
  · exact op_mul pins s σ H x y v u Q I r1 r2 ⟨i, j, ex, ey, hc, q⟩
  · exact op_mulX pins s σ H x y v u Q I r1 r2 ⟨i, j, ex, ey, hc, q⟩
end My

namespace My
open PySem PySem.Spec PyProof.Rows L2
theorem nil_binds {K : PySem.W.Frag} {fd : FuncData} {ps : List Str} (h : ∃ ds, Vals [] ds ∧ Binds K fd ps ds) : Binds K fd ps [] := by
  obtain ⟨ds, v, b⟩ := h
  cases v
  exact b
def top (i : Nat) : Stmt := PySem.Challenge.pw_wholesound_k13_rests_of_rests.main.body.getD i (.Pass ⟨0, 0, 0, 0⟩)
abbrev s_is_whole : Stmt := top 10
abbrev N_is_whole : List Str := ["value"]
theorem sc_is_whole : FnScope N_is_whole ["value"] (defScope s_is_whole) := ⟨rfl, rfl, rfl, by decide +kernel, rfl, by decide +kernel, by decide +kernel⟩
abbrev s_is_between : Stmt := top 11
abbrev N_is_between : List Str := ["value", "low", "high"]
theorem sc_is_between : FnScope N_is_between ["value", "low", "high"] (defScope s_is_between) := ⟨rfl, rfl, rfl, by decide +kernel, rfl, by decide +kernel, by decide +kernel⟩
abbrev s_are_wholes : Stmt := top 12
abbrev N_are_wholes : List Str := ["value", "item"]
theorem sc_are_wholes : FnScope N_are_wholes ["value"] (defScope s_are_wholes) := ⟨rfl, rfl, rfl, by decide +kernel, rfl, by decide +kernel, by decide +kernel⟩
abbrev s_check_depth : Stmt := top 13
abbrev N_check_depth : List Str := ["depth", "most"]
theorem sc_check_depth : FnScope N_check_depth ["depth", "most"] (defScope s_check_depth) := ⟨rfl, rfl, rfl, by decide +kernel, rfl, by decide +kernel, by decide +kernel⟩
abbrev s_check_guesser : Stmt := top 20
abbrev N_check_guesser : List Str := ["value"]
theorem sc_check_guesser : FnScope N_check_guesser ["value"] (defScope s_check_guesser) := ⟨rfl, rfl, rfl, by decide +kernel, rfl, by decide +kernel, by decide +kernel⟩
abbrev s_sum_before : Stmt := top 21
abbrev N_sum_before : List Str := ["guesser", "before", "found", "number", "weight"]
theorem sc_sum_before : FnScope N_sum_before ["guesser", "before"] (defScope s_sum_before) := ⟨rfl, rfl, rfl, by decide +kernel, rfl, by decide +kernel, by decide +kernel⟩
abbrev s_guess_behind : Stmt := top 22
abbrev N_guess_behind : List Str := ["guesser", "before"]
theorem sc_guess_behind : FnScope N_guess_behind ["guesser", "before"] (defScope s_guess_behind) := ⟨rfl, rfl, rfl, by decide +kernel, rfl, by decide +kernel, by decide +kernel⟩
abbrev s_steps : Stmt := top 23
abbrev N_steps : List Str := ["order", "product", "turn", "item"]
theorem sc_steps : FnScope N_steps ["order"] (defScope s_steps) := ⟨rfl, rfl, rfl, by decide +kernel, rfl, by decide +kernel, by decide +kernel⟩
abbrev s_told_rests : Stmt := top 24
abbrev N_told_rests : List Str := ["guesser", "row", "many", "found", "place"]
theorem sc_told_rests : FnScope N_told_rests ["guesser", "row"] (defScope s_told_rests) := ⟨rfl, rfl, rfl, by decide +kernel, rfl, by decide +kernel, by decide +kernel⟩
abbrev s_plain_rests : Stmt := top 25
abbrev N_plain_rests : List Str := ["guesser", "row"]
theorem sc_plain_rests : FnScope N_plain_rests ["guesser", "row"] (defScope s_plain_rests) := ⟨rfl, rfl, rfl, by decide +kernel, rfl, by decide +kernel, by decide +kernel⟩
abbrev s_times_sum : Stmt := top 26
abbrev N_times_sum : List Str := ["one", "other", "found", "place", "item", "spot", "factor"]
theorem sc_times_sum : FnScope N_times_sum ["one", "other"] (defScope s_times_sum) := ⟨rfl, rfl, rfl, by decide +kernel, rfl, by decide +kernel, by decide +kernel⟩
abbrev s_sum_of : Stmt := top 27
abbrev N_sum_of : List Str := ["value", "weight"]
theorem sc_sum_of : FnScope N_sum_of ["value"] (defScope s_sum_of) := ⟨rfl, rfl, rfl, by decide +kernel, rfl, by decide +kernel, by decide +kernel⟩
abbrev s_after : Stmt := top 28
abbrev N_after : List Str := ["one", "other", "first", "item"]
theorem sc_after : FnScope N_after ["one", "other"] (defScope s_after) := ⟨rfl, rfl, rfl, by decide +kernel, rfl, by decide +kernel, by decide +kernel⟩
abbrev s_leads_to : Stmt := top 29
abbrev N_leads_to : List Str := ["one", "other", "found", "place", "first", "last", "item", "spot"]
theorem sc_leads_to : FnScope N_leads_to ["one", "other"] (defScope s_leads_to) := ⟨rfl, rfl, rfl, by decide +kernel, rfl, by decide +kernel, by decide +kernel⟩
abbrev s_parting_rests : Stmt := top 30
abbrev N_parting_rests : List Str := ["one", "other", "depth", "first", "last", "many", "spots", "sample", "short", "long", "weight", "spot", "place"]
theorem sc_parting_rests : FnScope N_parting_rests ["one", "other", "depth"] (defScope s_parting_rests) := ⟨rfl, rfl, rfl, by decide +kernel, rfl, by decide +kernel, by decide +kernel⟩
abbrev s_same_rests : Stmt := top 31
abbrev N_same_rests : List Str := ["one", "other", "depth"]
theorem sc_same_rests : FnScope N_same_rests ["one", "other", "depth"] (defScope s_same_rests) := ⟨rfl, rfl, rfl, by decide +kernel, rfl, by decide +kernel, by decide +kernel⟩
abbrev s_law_cell : Stmt := top 33
abbrev N_law_cell : List Str := ["_law_script", "_law_index"]
theorem sc_law_cell : FnScope N_law_cell ["_law_script", "_law_index"] (defScope s_law_cell) := ⟨rfl, rfl, rfl, by decide +kernel, rfl, by decide +kernel, by decide +kernel⟩
abbrev s_law_hash : Stmt := top 34
abbrev N_law_hash : List Str := ["_law_seed", "_law_index", "_law_mixed"]
theorem sc_law_hash : FnScope N_law_hash ["_law_seed", "_law_index"] (defScope s_law_hash) := ⟨rfl, rfl, rfl, by decide +kernel, rfl, by decide +kernel, by decide +kernel⟩
abbrev s_law_generator : Stmt := top 35
abbrev N_law_generator : List Str := ["_law_script", "_law_index", "_law_seed"]
theorem sc_law_generator : FnScope N_law_generator ["_law_script", "_law_index"] (defScope s_law_generator) := ⟨rfl, rfl, rfl, by decide +kernel, rfl, by decide +kernel, by decide +kernel⟩
abbrev s_law_random : Stmt := top 36
abbrev N_law_random : List Str := ["_law_generator_here", "_law_bound", "_law_drawn", "_law_turn"]
theorem sc_law_random : FnScope N_law_random ["_law_generator_here", "_law_bound"] (defScope s_law_random) := ⟨rfl, rfl, rfl, by decide +kernel, rfl, by decide +kernel, by decide +kernel⟩
abbrev s_law_guess : Stmt := top 37
abbrev N_law_guess : List Str := ["_law_weights", "_law_shift", "_law_before", "_law_total", "_law_number"]
theorem sc_law_guess : FnScope N_law_guess ["_law_weights", "_law_shift", "_law_before"] (defScope s_law_guess) := ⟨rfl, rfl, rfl, by decide +kernel, rfl, by decide +kernel, by decide +kernel⟩
abbrev s_law_wrapped : Stmt := top 38
abbrev N_law_wrapped : List Str := ["_law_number", "_law_depth"]
theorem sc_law_wrapped : FnScope N_law_wrapped ["_law_number", "_law_depth"] (defScope s_law_wrapped) := ⟨rfl, rfl, rfl, by decide +kernel, rfl, by decide +kernel, by decide +kernel⟩
abbrev s_law_all_rows : Stmt := top 39
abbrev N_law_all_rows : List Str := ["_law_depth", "_law_many", "_law_found", "_law_place", "_law_longer", "_law_row", "_law_sample"]
theorem sc_law_all_rows : FnScope N_law_all_rows ["_law_depth", "_law_many"] (defScope s_law_all_rows) := ⟨rfl, rfl, rfl, by decide +kernel, rfl, by decide +kernel, by decide +kernel⟩
abbrev s_law_rests_behind : Stmt := top 40
abbrev N_law_rests_behind : List Str := ["_law_weights", "_law_row", "_law_found", "_law_place"]
theorem sc_law_rests_behind : FnScope N_law_rests_behind ["_law_weights", "_law_row"] (defScope s_law_rests_behind) := ⟨rfl, rfl, rfl, by decide +kernel, rfl, by decide +kernel, by decide +kernel⟩
abbrev s_law_product : Stmt := top 41
abbrev N_law_product : List Str := ["_law_one", "_law_other", "_law_found", "_law_at", "_law_first", "_law_second", "_law_spot", "_law_item", "_law_weight"]
theorem sc_law_product : FnScope N_law_product ["_law_one", "_law_other"] (defScope s_law_product) := ⟨rfl, rfl, rfl, by decide +kernel, rfl, by decide +kernel, by decide +kernel⟩
abbrev s_law_right : Stmt := top 42
abbrev N_law_right : List Str := ["_law_generator_here", "_law_one", "_law_other", "_law_told", "_law_row", "_law_twice", "_law_place"]
theorem sc_law_right : FnScope N_law_right ["_law_generator_here", "_law_one", "_law_other"] (defScope s_law_right) := ⟨rfl, rfl, rfl, by decide +kernel, rfl, by decide +kernel, by decide +kernel⟩
abbrev s_law_leads_right : Stmt := top 43
abbrev N_law_leads_right : List Str := ["_law_generator_here", "_law_one", "_law_third", "_law_made", "_law_bent", "_law_at", "_law_told", "_law_weight"]
theorem sc_law_leads_right : FnScope N_law_leads_right ["_law_generator_here", "_law_one", "_law_third"] (defScope s_law_leads_right) := ⟨rfl, rfl, rfl, by decide +kernel, rfl, by decide +kernel, by decide +kernel⟩
abbrev s_law_divided : Stmt := top 44
abbrev N_law_divided : List Str := ["_law_one", "_law_bent", "_law_many", "_law_found", "_law_place", "_law_item", "_law_spot"]
theorem sc_law_divided : FnScope N_law_divided ["_law_one", "_law_bent"] (defScope s_law_divided) := ⟨rfl, rfl, rfl, by decide +kernel, rfl, by decide +kernel, by decide +kernel⟩
abbrev s_law_rests_of : Stmt := top 45
abbrev N_law_rests_of : List Str := ["_law_weights", "_law_shift", "_law_depth", "_law_row", "_law_told", "_law_place", "_law_guessed"]
theorem sc_law_rests_of : FnScope N_law_rests_of ["_law_weights", "_law_shift", "_law_depth", "_law_row"] (defScope s_law_rests_of) := ⟨rfl, rfl, rfl, by decide +kernel, rfl, by decide +kernel, by decide +kernel⟩
abbrev s_law_same_drawn : Stmt := top 46
abbrev N_law_same_drawn : List Str := ["_law_generator_here", "_law_weights", "_law_depth", "_law_kind", "_law_whole", "_law_some", "_law_at", "_law_weight", "_law_number"]
theorem sc_law_same_drawn : FnScope N_law_same_drawn ["_law_generator_here", "_law_weights", "_law_depth"] (defScope s_law_same_drawn) := ⟨rfl, rfl, rfl, by decide +kernel, rfl, by decide +kernel, by decide +kernel⟩
abbrev s_law_same_right : Stmt := top 47
abbrev N_law_same_right : List Str := ["_law_generator_here", "_law_depth", "_law_one", "_law_many", "_law_made", "_law_told", "_law_low", "_law_other", "_law_due", "_law_row", "_law_number", "_law_weight", "_law_sample"]
theorem sc_law_same_right : FnScope N_law_same_right ["_law_generator_here"] (defScope s_law_same_right) := ⟨rfl, rfl, rfl, by decide +kernel, rfl, by decide +kernel, by decide +kernel⟩
abbrev s_law_caught : Stmt := top 48
abbrev N_law_caught : List Str := ["_law_door", "_law_one", "_law_other", "_law_caught_here", "error"]
theorem sc_law_caught : FnScope N_law_caught ["_law_door", "_law_one", "_law_other"] (defScope s_law_caught) := ⟨rfl, rfl, rfl, by decide +kernel, rfl, by decide +kernel, by decide +kernel⟩
abbrev s_law : Stmt := top 49
abbrev N_law : List Str := ["_law_script", "_law_index", "_law_order", "_law_door", "_law_generator_here", "_law_one", "_law_other", "_law_number"]
theorem sc_law : FnScope N_law ["_law_script"] (defScope s_law) := ⟨rfl, rfl, rfl, by decide +kernel, rfl, by decide +kernel, by decide +kernel⟩
abbrev s_Guesser___init__ : Stmt := inClass (top 19) 0
abbrev N_Guesser___init__ : List Str := ["self", "weights", "shift", "weight"]
theorem sc_Guesser___init__ : FnScope N_Guesser___init__ ["self", "weights", "shift"] (defScope s_Guesser___init__) := ⟨rfl, rfl, rfl, by decide +kernel, rfl, by decide +kernel, by decide +kernel⟩
abbrev s_Guesser_weights : Stmt := inClass (top 19) 1
abbrev N_Guesser_weights : List Str := ["self"]
theorem sc_Guesser_weights : FnScope N_Guesser_weights ["self"] (defScope s_Guesser_weights) := ⟨rfl, rfl, rfl, by decide +kernel, rfl, by decide +kernel, by decide +kernel⟩
abbrev s_Guesser___eq__ : Stmt := inClass (top 19) 4
abbrev N_Guesser___eq__ : List Str := ["self", "other"]
theorem sc_Guesser___eq__ : FnScope N_Guesser___eq__ ["self", "other"] (defScope s_Guesser___eq__) := ⟨rfl, rfl, rfl, by decide +kernel, rfl, by decide +kernel, by decide +kernel⟩
abbrev s_InvalidGuesser___init__ : Stmt := inClass (top 7) 0
theorem nsc_InvalidGuesser : NdefX.NScope ["self", "value", "__class__"] ["self", "value"] ["__class__"] (defScope s_InvalidGuesser___init__) := NdefX.nscope_by (by decide +kernel)
theorem sb_InvalidGuesser : Sup.SupBody s_InvalidGuesser___init__ := ⟨_, _, _, _, _, _, _, _, _, _, rfl, by decide +kernel, fun env => ⟨_, rfl⟩⟩
def fileS : Str := PySem.Challenge.pw_wholesound_k13_rests_of_rests.main.file
def notTys : List String := ["NoneType", "bool", "int", "str", "list", "tuple", "dict"]
/-- what the top has left -/
structure Top (K : PySem.W.Frag) (mg : Str → Option Value) where
  C_Guesser : Addr
  gc_Guesser : mg "Guesser" = some (.ref C_Guesser)
  cl_Guesser : Cls K C_Guesser
  ic_Guesser : C8.InsC K C_Guesser
  kx_Guesser : ∀ T ∈ notTys, PySem.W.kitOne K (.type T) (.ref C_Guesser) = some false
  f_Guesser___eq__ : Addr
  ec_Guesser : EqC K C_Guesser f_Guesser___eq__
  na_Guesser_parts : NoAttr K C_Guesser "parts"
  na_Guesser_down : NoAttr K C_Guesser "down"
  f_is_whole : Addr
  fd_is_whole : FuncData
  F_is_whole : FunD K "is_whole" "is_whole" (defArgs s_is_whole) (defBody s_is_whole) (defScope s_is_whole) [] [] f_is_whole fd_is_whole
  b_is_whole : Binds K fd_is_whole ["value"] []
  g_is_whole : mg "is_whole" = some (.ref f_is_whole)
  f_is_between : Addr
  fd_is_between : FuncData
  F_is_between : FunD K "is_between" "is_between" (defArgs s_is_between) (defBody s_is_between) (defScope s_is_between) [] [] f_is_between fd_is_between
  b_is_between : Binds K fd_is_between ["value", "low", "high"] []
  g_is_between : mg "is_between" = some (.ref f_is_between)
  f_are_wholes : Addr
  fd_are_wholes : FuncData
  F_are_wholes : FunD K "are_wholes" "are_wholes" (defArgs s_are_wholes) (defBody s_are_wholes) (defScope s_are_wholes) [] [] f_are_wholes fd_are_wholes
  b_are_wholes : Binds K fd_are_wholes ["value"] []
  g_are_wholes : mg "are_wholes" = some (.ref f_are_wholes)
  f_check_depth : Addr
  fd_check_depth : FuncData
  F_check_depth : FunD K "check_depth" "check_depth" (defArgs s_check_depth) (defBody s_check_depth) (defScope s_check_depth) [.int 24] [] f_check_depth fd_check_depth
  b_check_depth : Binds K fd_check_depth ["depth", "most"] []
  g_check_depth : mg "check_depth" = some (.ref f_check_depth)
  e0_check_depth : List Value
  v0_check_depth : Vals [.int 24] e0_check_depth
  b0_check_depth : Binds K fd_check_depth ["depth", "most"] e0_check_depth
  f_check_guesser : Addr
  fd_check_guesser : FuncData
  F_check_guesser : FunD K "check_guesser" "check_guesser" (defArgs s_check_guesser) (defBody s_check_guesser) (defScope s_check_guesser) [] [] f_check_guesser fd_check_guesser
  b_check_guesser : Binds K fd_check_guesser ["value"] []
  g_check_guesser : mg "check_guesser" = some (.ref f_check_guesser)
  f_sum_before : Addr
  fd_sum_before : FuncData
  F_sum_before : FunD K "sum_before" "sum_before" (defArgs s_sum_before) (defBody s_sum_before) (defScope s_sum_before) [] [] f_sum_before fd_sum_before
  b_sum_before : Binds K fd_sum_before ["guesser", "before"] []
  g_sum_before : mg "sum_before" = some (.ref f_sum_before)
  f_guess_behind : Addr
  fd_guess_behind : FuncData
  F_guess_behind : FunD K "guess_behind" "guess_behind" (defArgs s_guess_behind) (defBody s_guess_behind) (defScope s_guess_behind) [] [] f_guess_behind fd_guess_behind
  b_guess_behind : Binds K fd_guess_behind ["guesser", "before"] []
  g_guess_behind : mg "guess_behind" = some (.ref f_guess_behind)
  f_steps : Addr
  fd_steps : FuncData
  F_steps : FunD K "steps" "steps" (defArgs s_steps) (defBody s_steps) (defScope s_steps) [] [] f_steps fd_steps
  b_steps : Binds K fd_steps ["order"] []
  g_steps : mg "steps" = some (.ref f_steps)
  f_told_rests : Addr
  fd_told_rests : FuncData
  F_told_rests : FunD K "told_rests" "told_rests" (defArgs s_told_rests) (defBody s_told_rests) (defScope s_told_rests) [] [] f_told_rests fd_told_rests
  b_told_rests : Binds K fd_told_rests ["guesser", "row"] []
  g_told_rests : mg "told_rests" = some (.ref f_told_rests)
  f_plain_rests : Addr
  fd_plain_rests : FuncData
  F_plain_rests : FunD K "plain_rests" "plain_rests" (defArgs s_plain_rests) (defBody s_plain_rests) (defScope s_plain_rests) [] [] f_plain_rests fd_plain_rests
  b_plain_rests : Binds K fd_plain_rests ["guesser", "row"] []
  g_plain_rests : mg "plain_rests" = some (.ref f_plain_rests)
  f_times_sum : Addr
  fd_times_sum : FuncData
  F_times_sum : FunD K "times_sum" "times_sum" (defArgs s_times_sum) (defBody s_times_sum) (defScope s_times_sum) [] [] f_times_sum fd_times_sum
  b_times_sum : Binds K fd_times_sum ["one", "other"] []
  g_times_sum : mg "times_sum" = some (.ref f_times_sum)
  f_sum_of : Addr
  fd_sum_of : FuncData
  F_sum_of : FunD K "sum_of" "sum_of" (defArgs s_sum_of) (defBody s_sum_of) (defScope s_sum_of) [] [] f_sum_of fd_sum_of
  b_sum_of : Binds K fd_sum_of ["value"] []
  g_sum_of : mg "sum_of" = some (.ref f_sum_of)
  f_after : Addr
  fd_after : FuncData
  F_after : FunD K "after" "after" (defArgs s_after) (defBody s_after) (defScope s_after) [] [] f_after fd_after
  b_after : Binds K fd_after ["one", "other"] []
  g_after : mg "after" = some (.ref f_after)
  f_leads_to : Addr
  fd_leads_to : FuncData
  F_leads_to : FunD K "leads_to" "leads_to" (defArgs s_leads_to) (defBody s_leads_to) (defScope s_leads_to) [] [] f_leads_to fd_leads_to
  b_leads_to : Binds K fd_leads_to ["one", "other"] []
  g_leads_to : mg "leads_to" = some (.ref f_leads_to)
  f_parting_rests : Addr
  fd_parting_rests : FuncData
  F_parting_rests : FunD K "parting_rests" "parting_rests" (defArgs s_parting_rests) (defBody s_parting_rests) (defScope s_parting_rests) [] [] f_parting_rests fd_parting_rests
  b_parting_rests : Binds K fd_parting_rests ["one", "other", "depth"] []
  g_parting_rests : mg "parting_rests" = some (.ref f_parting_rests)
  f_same_rests : Addr
  fd_same_rests : FuncData
  F_same_rests : FunD K "same_rests" "same_rests" (defArgs s_same_rests) (defBody s_same_rests) (defScope s_same_rests) [] [] f_same_rests fd_same_rests
  b_same_rests : Binds K fd_same_rests ["one", "other", "depth"] []
  g_same_rests : mg "same_rests" = some (.ref f_same_rests)
  f_law_cell : Addr
  fd_law_cell : FuncData
  F_law_cell : FunD K "_law_cell" "_law_cell" (defArgs s_law_cell) (defBody s_law_cell) (defScope s_law_cell) [] [] f_law_cell fd_law_cell
  b_law_cell : Binds K fd_law_cell ["_law_script", "_law_index"] []
  g_law_cell : mg "_law_cell" = some (.ref f_law_cell)
  f_law_hash : Addr
  fd_law_hash : FuncData
  F_law_hash : FunD K "_law_hash" "_law_hash" (defArgs s_law_hash) (defBody s_law_hash) (defScope s_law_hash) [] [] f_law_hash fd_law_hash
  b_law_hash : Binds K fd_law_hash ["_law_seed", "_law_index"] []
  g_law_hash : mg "_law_hash" = some (.ref f_law_hash)
  f_law_generator : Addr
  fd_law_generator : FuncData
  F_law_generator : FunD K "_law_generator" "_law_generator" (defArgs s_law_generator) (defBody s_law_generator) (defScope s_law_generator) [] [] f_law_generator fd_law_generator
  b_law_generator : Binds K fd_law_generator ["_law_script", "_law_index"] []
  g_law_generator : mg "_law_generator" = some (.ref f_law_generator)
  f_law_random : Addr
  fd_law_random : FuncData
  F_law_random : FunD K "_law_random" "_law_random" (defArgs s_law_random) (defBody s_law_random) (defScope s_law_random) [] [] f_law_random fd_law_random
  b_law_random : Binds K fd_law_random ["_law_generator_here", "_law_bound"] []
  g_law_random : mg "_law_random" = some (.ref f_law_random)
  f_law_guess : Addr
  fd_law_guess : FuncData
  F_law_guess : FunD K "_law_guess" "_law_guess" (defArgs s_law_guess) (defBody s_law_guess) (defScope s_law_guess) [] [] f_law_guess fd_law_guess
  b_law_guess : Binds K fd_law_guess ["_law_weights", "_law_shift", "_law_before"] []
  g_law_guess : mg "_law_guess" = some (.ref f_law_guess)
  f_law_wrapped : Addr
  fd_law_wrapped : FuncData
  F_law_wrapped : FunD K "_law_wrapped" "_law_wrapped" (defArgs s_law_wrapped) (defBody s_law_wrapped) (defScope s_law_wrapped) [] [] f_law_wrapped fd_law_wrapped
  b_law_wrapped : Binds K fd_law_wrapped ["_law_number", "_law_depth"] []
  g_law_wrapped : mg "_law_wrapped" = some (.ref f_law_wrapped)
  f_law_all_rows : Addr
  fd_law_all_rows : FuncData
  F_law_all_rows : FunD K "_law_all_rows" "_law_all_rows" (defArgs s_law_all_rows) (defBody s_law_all_rows) (defScope s_law_all_rows) [] [] f_law_all_rows fd_law_all_rows
  b_law_all_rows : Binds K fd_law_all_rows ["_law_depth", "_law_many"] []
  g_law_all_rows : mg "_law_all_rows" = some (.ref f_law_all_rows)
  f_law_rests_behind : Addr
  fd_law_rests_behind : FuncData
  F_law_rests_behind : FunD K "_law_rests_behind" "_law_rests_behind" (defArgs s_law_rests_behind) (defBody s_law_rests_behind) (defScope s_law_rests_behind) [] [] f_law_rests_behind fd_law_rests_behind
  b_law_rests_behind : Binds K fd_law_rests_behind ["_law_weights", "_law_row"] []
  g_law_rests_behind : mg "_law_rests_behind" = some (.ref f_law_rests_behind)
  f_law_product : Addr
  fd_law_product : FuncData
  F_law_product : FunD K "_law_product" "_law_product" (defArgs s_law_product) (defBody s_law_product) (defScope s_law_product) [] [] f_law_product fd_law_product
  b_law_product : Binds K fd_law_product ["_law_one", "_law_other"] []
  g_law_product : mg "_law_product" = some (.ref f_law_product)
  f_law_right : Addr
  fd_law_right : FuncData
  F_law_right : FunD K "_law_right" "_law_right" (defArgs s_law_right) (defBody s_law_right) (defScope s_law_right) [] [] f_law_right fd_law_right
  b_law_right : Binds K fd_law_right ["_law_generator_here", "_law_one", "_law_other"] []
  g_law_right : mg "_law_right" = some (.ref f_law_right)
  f_law_leads_right : Addr
  fd_law_leads_right : FuncData
  F_law_leads_right : FunD K "_law_leads_right" "_law_leads_right" (defArgs s_law_leads_right) (defBody s_law_leads_right) (defScope s_law_leads_right) [] [] f_law_leads_right fd_law_leads_right
  b_law_leads_right : Binds K fd_law_leads_right ["_law_generator_here", "_law_one", "_law_third"] []
  g_law_leads_right : mg "_law_leads_right" = some (.ref f_law_leads_right)
  f_law_divided : Addr
  fd_law_divided : FuncData
  F_law_divided : FunD K "_law_divided" "_law_divided" (defArgs s_law_divided) (defBody s_law_divided) (defScope s_law_divided) [] [] f_law_divided fd_law_divided
  b_law_divided : Binds K fd_law_divided ["_law_one", "_law_bent"] []
  g_law_divided : mg "_law_divided" = some (.ref f_law_divided)
  f_law_rests_of : Addr
  fd_law_rests_of : FuncData
  F_law_rests_of : FunD K "_law_rests_of" "_law_rests_of" (defArgs s_law_rests_of) (defBody s_law_rests_of) (defScope s_law_rests_of) [] [] f_law_rests_of fd_law_rests_of
  b_law_rests_of : Binds K fd_law_rests_of ["_law_weights", "_law_shift", "_law_depth", "_law_row"] []
  g_law_rests_of : mg "_law_rests_of" = some (.ref f_law_rests_of)
  f_law_same_drawn : Addr
  fd_law_same_drawn : FuncData
  F_law_same_drawn : FunD K "_law_same_drawn" "_law_same_drawn" (defArgs s_law_same_drawn) (defBody s_law_same_drawn) (defScope s_law_same_drawn) [] [] f_law_same_drawn fd_law_same_drawn
  b_law_same_drawn : Binds K fd_law_same_drawn ["_law_generator_here", "_law_weights", "_law_depth"] []
  g_law_same_drawn : mg "_law_same_drawn" = some (.ref f_law_same_drawn)
  f_law_same_right : Addr
  fd_law_same_right : FuncData
  F_law_same_right : FunD K "_law_same_right" "_law_same_right" (defArgs s_law_same_right) (defBody s_law_same_right) (defScope s_law_same_right) [] [] f_law_same_right fd_law_same_right
  b_law_same_right : Binds K fd_law_same_right ["_law_generator_here"] []
  g_law_same_right : mg "_law_same_right" = some (.ref f_law_same_right)
  f_law_caught : Addr
  fd_law_caught : FuncData
  F_law_caught : FunD K "_law_caught" "_law_caught" (defArgs s_law_caught) (defBody s_law_caught) (defScope s_law_caught) [] [] f_law_caught fd_law_caught
  b_law_caught : Binds K fd_law_caught ["_law_door", "_law_one", "_law_other"] []
  g_law_caught : mg "_law_caught" = some (.ref f_law_caught)
  f_law : Addr
  fd_law : FuncData
  F_law : FunD K "law" "law" (defArgs s_law) (defBody s_law) (defScope s_law) [] [] f_law fd_law
  b_law : Binds K fd_law ["_law_script"] []
  g_law : mg "law" = some (.ref f_law)
  f_Guesser___init__ : Addr
  fd_Guesser___init__ : FuncData
  F_Guesser___init__ : FunD K "__init__" "Guesser.__init__" (defArgs s_Guesser___init__) (defBody s_Guesser___init__) (defScope s_Guesser___init__) [] [] f_Guesser___init__ fd_Guesser___init__
  b_Guesser___init__ : Binds K fd_Guesser___init__ ["self", "weights", "shift"] []
  me_Guesser___init__ : Meth K C_Guesser "__init__" f_Guesser___init__
  mk_Guesser : Mk K C_Guesser f_Guesser___init__
  f_Guesser_weights : Addr
  fd_Guesser_weights : FuncData
  F_Guesser_weights : FunD K "weights" "Guesser.weights" (defArgs s_Guesser_weights) (defBody s_Guesser_weights) (defScope s_Guesser_weights) [] [] f_Guesser_weights fd_Guesser_weights
  b_Guesser_weights : Binds K fd_Guesser_weights ["self"] []
  me_Guesser_weights : Meth K C_Guesser "weights" f_Guesser_weights
  fd_Guesser___eq__ : FuncData
  F_Guesser___eq__ : FunD K "__eq__" "Guesser.__eq__" (defArgs s_Guesser___eq__) (defBody s_Guesser___eq__) (defScope s_Guesser___eq__) [] [] f_Guesser___eq__ fd_Guesser___eq__
  b_Guesser___eq__ : Binds K fd_Guesser___eq__ ["self", "other"] []
  me_Guesser___eq__ : Meth K C_Guesser "__eq__" f_Guesser___eq__
  C_InvalidGuesser : Addr
  gc_InvalidGuesser : mg "InvalidGuesser" = some (.ref C_InvalidGuesser)
  fi_InvalidGuesser : Addr
  fd_InvalidGuesser : FuncData
  er_InvalidGuesser : ErrC K fileS "InvalidGuesser" s_InvalidGuesser___init__ C_InvalidGuesser fi_InvalidGuesser fd_InvalidGuesser
  C_SoundError : Addr
  gc_SoundError : mg "SoundError" = some (.ref C_SoundError)
  em_InvalidGuesser_SoundError : PySem.W.exmOne K (.ref C_InvalidGuesser) (.ref C_SoundError) = some true
  em_InvalidGuesser_InvalidGuesser : PySem.W.exmOne K (.ref C_InvalidGuesser) (.ref C_InvalidGuesser) = some true
  ki_InvalidGuesser_SoundError : PySem.W.kitOne K (.ref C_InvalidGuesser) (.ref C_SoundError) = some true
  ki_InvalidGuesser_InvalidGuesser : PySem.W.kitOne K (.ref C_InvalidGuesser) (.ref C_InvalidGuesser) = some true
  kn_InvalidGuesser : PySem.W.kitOne K (.type "NoneType") (.ref C_InvalidGuesser) = some false
  ei_InvalidGuesser : ExcI K C_InvalidGuesser
  n_len : mg "len" = none
  n_sum : mg "sum" = none
  n_max : mg "max" = none
  n_min : mg "min" = none
  n_int : mg "int" = none
  n_bool : mg "bool" = none
  n_list : mg "list" = none
  n_range : mg "range" = none
  n_isinstance : mg "isinstance" = none
  n_abs : mg "abs" = none
  n_enumerate : mg "enumerate" = none
  n_super : mg "super" = none
  t_MOST_DEPTH_kinds : Tok
  m_MOST_DEPTH_kinds : mg "MOST_DEPTH_kinds" = some (.int 24 t_MOST_DEPTH_kinds)
  t_MOST_ORDER : Tok
  m_MOST_ORDER : mg "MOST_ORDER" = some (.int 8 t_MOST_ORDER)
  t_MOST_WEIGHT : Tok
  m_MOST_WEIGHT : mg "MOST_WEIGHT" = some (.int 32768 t_MOST_WEIGHT)
  t_MOST_SHIFT : Tok
  m_MOST_SHIFT : mg "MOST_SHIFT" = some (.int 15 t_MOST_SHIFT)
  t_MOST_DEPTH_guessers : Tok
  m_MOST_DEPTH_guessers : mg "MOST_DEPTH_guessers" = some (.int 32 t_MOST_DEPTH_guessers)
def d_is_whole : He.DefD := ⟨("is_whole", none), "is_whole", "is_whole", defArgs s_is_whole, defBody s_is_whole, defScope s_is_whole, [], []⟩
def d_is_between : He.DefD := ⟨("is_between", none), "is_between", "is_between", defArgs s_is_between, defBody s_is_between, defScope s_is_between, [], []⟩
def d_are_wholes : He.DefD := ⟨("are_wholes", none), "are_wholes", "are_wholes", defArgs s_are_wholes, defBody s_are_wholes, defScope s_are_wholes, [], []⟩
def d_check_depth : He.DefD := ⟨("check_depth", none), "check_depth", "check_depth", defArgs s_check_depth, defBody s_check_depth, defScope s_check_depth, [.int 24], []⟩
def d_check_guesser : He.DefD := ⟨("check_guesser", none), "check_guesser", "check_guesser", defArgs s_check_guesser, defBody s_check_guesser, defScope s_check_guesser, [], []⟩
def d_sum_before : He.DefD := ⟨("sum_before", none), "sum_before", "sum_before", defArgs s_sum_before, defBody s_sum_before, defScope s_sum_before, [], []⟩
def d_guess_behind : He.DefD := ⟨("guess_behind", none), "guess_behind", "guess_behind", defArgs s_guess_behind, defBody s_guess_behind, defScope s_guess_behind, [], []⟩
def d_steps : He.DefD := ⟨("steps", none), "steps", "steps", defArgs s_steps, defBody s_steps, defScope s_steps, [], []⟩
def d_told_rests : He.DefD := ⟨("told_rests", none), "told_rests", "told_rests", defArgs s_told_rests, defBody s_told_rests, defScope s_told_rests, [], []⟩
def d_plain_rests : He.DefD := ⟨("plain_rests", none), "plain_rests", "plain_rests", defArgs s_plain_rests, defBody s_plain_rests, defScope s_plain_rests, [], []⟩
def d_times_sum : He.DefD := ⟨("times_sum", none), "times_sum", "times_sum", defArgs s_times_sum, defBody s_times_sum, defScope s_times_sum, [], []⟩
def d_sum_of : He.DefD := ⟨("sum_of", none), "sum_of", "sum_of", defArgs s_sum_of, defBody s_sum_of, defScope s_sum_of, [], []⟩
def d_after : He.DefD := ⟨("after", none), "after", "after", defArgs s_after, defBody s_after, defScope s_after, [], []⟩
def d_leads_to : He.DefD := ⟨("leads_to", none), "leads_to", "leads_to", defArgs s_leads_to, defBody s_leads_to, defScope s_leads_to, [], []⟩
def d_parting_rests : He.DefD := ⟨("parting_rests", none), "parting_rests", "parting_rests", defArgs s_parting_rests, defBody s_parting_rests, defScope s_parting_rests, [], []⟩
def d_same_rests : He.DefD := ⟨("same_rests", none), "same_rests", "same_rests", defArgs s_same_rests, defBody s_same_rests, defScope s_same_rests, [], []⟩
def d_law_cell : He.DefD := ⟨("_law_cell", none), "_law_cell", "_law_cell", defArgs s_law_cell, defBody s_law_cell, defScope s_law_cell, [], []⟩
def d_law_hash : He.DefD := ⟨("_law_hash", none), "_law_hash", "_law_hash", defArgs s_law_hash, defBody s_law_hash, defScope s_law_hash, [], []⟩
def d_law_generator : He.DefD := ⟨("_law_generator", none), "_law_generator", "_law_generator", defArgs s_law_generator, defBody s_law_generator, defScope s_law_generator, [], []⟩
def d_law_random : He.DefD := ⟨("_law_random", none), "_law_random", "_law_random", defArgs s_law_random, defBody s_law_random, defScope s_law_random, [], []⟩
def d_law_guess : He.DefD := ⟨("_law_guess", none), "_law_guess", "_law_guess", defArgs s_law_guess, defBody s_law_guess, defScope s_law_guess, [], []⟩
def d_law_wrapped : He.DefD := ⟨("_law_wrapped", none), "_law_wrapped", "_law_wrapped", defArgs s_law_wrapped, defBody s_law_wrapped, defScope s_law_wrapped, [], []⟩
def d_law_all_rows : He.DefD := ⟨("_law_all_rows", none), "_law_all_rows", "_law_all_rows", defArgs s_law_all_rows, defBody s_law_all_rows, defScope s_law_all_rows, [], []⟩
def d_law_rests_behind : He.DefD := ⟨("_law_rests_behind", none), "_law_rests_behind", "_law_rests_behind", defArgs s_law_rests_behind, defBody s_law_rests_behind, defScope s_law_rests_behind, [], []⟩
def d_law_product : He.DefD := ⟨("_law_product", none), "_law_product", "_law_product", defArgs s_law_product, defBody s_law_product, defScope s_law_product, [], []⟩
def d_law_right : He.DefD := ⟨("_law_right", none), "_law_right", "_law_right", defArgs s_law_right, defBody s_law_right, defScope s_law_right, [], []⟩
def d_law_leads_right : He.DefD := ⟨("_law_leads_right", none), "_law_leads_right", "_law_leads_right", defArgs s_law_leads_right, defBody s_law_leads_right, defScope s_law_leads_right, [], []⟩
def d_law_divided : He.DefD := ⟨("_law_divided", none), "_law_divided", "_law_divided", defArgs s_law_divided, defBody s_law_divided, defScope s_law_divided, [], []⟩
def d_law_rests_of : He.DefD := ⟨("_law_rests_of", none), "_law_rests_of", "_law_rests_of", defArgs s_law_rests_of, defBody s_law_rests_of, defScope s_law_rests_of, [], []⟩
def d_law_same_drawn : He.DefD := ⟨("_law_same_drawn", none), "_law_same_drawn", "_law_same_drawn", defArgs s_law_same_drawn, defBody s_law_same_drawn, defScope s_law_same_drawn, [], []⟩
def d_law_same_right : He.DefD := ⟨("_law_same_right", none), "_law_same_right", "_law_same_right", defArgs s_law_same_right, defBody s_law_same_right, defScope s_law_same_right, [], []⟩
def d_law_caught : He.DefD := ⟨("_law_caught", none), "_law_caught", "_law_caught", defArgs s_law_caught, defBody s_law_caught, defScope s_law_caught, [], []⟩
def d_law : He.DefD := ⟨("law", none), "law", "law", defArgs s_law, defBody s_law, defScope s_law, [], []⟩
def d_Guesser___init__ : He.DefD := ⟨("Guesser", some "__init__"), "__init__", "Guesser.__init__", defArgs s_Guesser___init__, defBody s_Guesser___init__, defScope s_Guesser___init__, [], []⟩
def d_Guesser_weights : He.DefD := ⟨("Guesser", some "weights"), "weights", "Guesser.weights", defArgs s_Guesser_weights, defBody s_Guesser_weights, defScope s_Guesser_weights, [], []⟩
def d_Guesser___eq__ : He.DefD := ⟨("Guesser", some "__eq__"), "__eq__", "Guesser.__eq__", defArgs s_Guesser___eq__, defBody s_Guesser___eq__, defScope s_Guesser___eq__, [], []⟩
def fn : List He.DefD := [d_is_whole, d_is_between, d_are_wholes, d_check_depth, d_check_guesser, d_sum_before, d_guess_behind, d_steps, d_told_rests, d_plain_rests, d_times_sum, d_sum_of, d_after, d_leads_to, d_parting_rests, d_same_rests, d_law_cell, d_law_hash, d_law_generator, d_law_random, d_law_guess, d_law_wrapped, d_law_all_rows, d_law_rests_behind, d_law_product, d_law_right, d_law_leads_right, d_law_divided, d_law_rests_of, d_law_same_drawn, d_law_same_right, d_law_caught, d_law, d_Guesser___init__, d_Guesser_weights, d_Guesser___eq__]
def fa0 : List He.Fa := [.glo "is_whole", .glo "is_between", .glo "are_wholes", .glo "check_depth", .glo "check_guesser", .glo "sum_before", .glo "guess_behind", .glo "steps", .glo "told_rests", .glo "plain_rests", .glo "times_sum", .glo "sum_of", .glo "after", .glo "leads_to", .glo "parting_rests", .glo "same_rests", .glo "_law_cell", .glo "_law_hash", .glo "_law_generator", .glo "_law_random", .glo "_law_guess", .glo "_law_wrapped", .glo "_law_all_rows", .glo "_law_rests_behind", .glo "_law_product", .glo "_law_right", .glo "_law_leads_right", .glo "_law_divided", .glo "_law_rests_of", .glo "_law_same_drawn"]
def fa1 : List He.Fa := [.glo "_law_same_right", .glo "_law_caught", .glo "law", .free "len", .free "sum", .free "max", .free "min", .free "int", .free "bool", .free "list", .free "range", .free "isinstance", .free "abs", .free "enumerate", .free "super", .int "MOST_DEPTH_kinds" 24, .int "MOST_ORDER" 8, .int "MOST_WEIGHT" 32768, .int "MOST_SHIFT" 15, .int "MOST_DEPTH_guessers" 32, .glo "Guesser", .cls "Guesser", .noat "Guesser" "parts", .noat "Guesser" "down", .mkr "Guesser", .meth "Guesser" "__init__", .meth "Guesser" "weights", .meth "Guesser" "__eq__", .glo "InvalidGuesser", .glo "SoundError"]
def fa : List He.Fa := fa0 ++ fa1
/-- isinstance of an own class -/
def insB (K : PySem.W.Frag) (x : Str) : Bool := decide (PySem.W.findIn K (.ref (He.ga K x)) "__class__" = some (some (.builtin "object.__class__"))) && (decide (PySem.W.specialIn K (.builtin "object.__class__") "__get__" = some (some (.builtin "getset_descriptor.__get__"))) && (decide (PySem.W.takesIn K (.builtin "object.__class__") = some true) && (decide (PySem.W.mroIn K (He.ga K x) (.type "object") = some true) && (decide (PySem.W.kitOne K (.ref (He.ga K x)) (.ref (He.ga K x)) = some true) && notTys.all fun T => decide (PySem.W.kitOne K (.type T) (.ref (He.ga K x)) = some false)))))
theorem insB_ok {K : PySem.W.Frag} {x : Str} (cl : Cls K (He.ga K x)) (h : insB K x = true) : C8.InsC K (He.ga K x) := by
  unfold insB at h
  simp only [Bool.and_eq_true, decide_eq_true_eq] at h
  exact ⟨cl, h.1, h.2.1, h.2.2.1, h.2.2.2.1, h.2.2.2.2.1⟩
theorem insN_ok {K : PySem.W.Frag} {x : Str} (h : insB K x = true) : ∀ T ∈ notTys, PySem.W.kitOne K (.type T) (.ref (He.ga K x)) = some false := by
  intro T hT
  unfold insB at h
  simp only [Bool.and_eq_true] at h
  exact of_decide_eq_true (List.all_eq_true.mp h.2.2.2.2.2 T hT)
def eqB (K : PySem.W.Frag) (x : Str) : Bool := decide (PySem.W.findIn K (.ref (He.ga K x)) "__ne__" = some (some (.builtin "object.__ne__"))) && (decide (PySem.W.subIn K (.ref (He.ga K x)) (.type "object") = some true) && (decide (PySem.W.subIn K (.type "list") (.ref (He.ga K x)) = some false) && (decide (PySem.W.kitOne K (.type "list") (.ref (He.ga K x)) = some false) && (decide (PySem.W.subIn K (.type "tuple") (.ref (He.ga K x)) = some false) && decide (PySem.W.kitOne K (.type "tuple") (.ref (He.ga K x)) = some false)))))
theorem eqB_ok {K : PySem.W.Frag} {x : Str} {f : Addr} (m : Meth K (He.ga K x) "__eq__" f) (h : eqB K x = true) : EqC K (He.ga K x) f := by
  unfold eqB at h
  simp only [Bool.and_eq_true, decide_eq_true_eq] at h
  exact ⟨m.at_, m.fn, h.1, h.2.1, h.2.2.1, h.2.2.2.1, h.2.2.2.2.1, h.2.2.2.2.2⟩
def eqs : List Str := ["Guesser"]
def own : List Str := ["Guesser"]
def ex (K : PySem.W.Frag) : Bool := (own.all fun x => insB K x) && eqs.all fun x => eqB K x
abbrev R : PySem.W.OpenRow := PySem.W.OpenLaw.row PySem.Challenge.rw_wholesound_k13_rests_of_rests
def errs : List Str := ["InvalidGuesser"]
def ems : List (Str × Str × Bool) := [(("InvalidGuesser" : Str), ("SoundError" : Str), true), (("InvalidGuesser" : Str), ("InvalidGuesser" : Str), true)]
def emB (K : PySem.W.Frag) (z : Str × Str × Bool) : Bool := decide (PySem.W.exmOne K (.ref (He.ga K z.1)) (.ref (He.ga K z.2.1)) = some z.2.2) && (decide (PySem.W.kitOne K (.ref (He.ga K z.1)) (.ref (He.ga K z.2.1)) = some z.2.2) && (decide (PySem.W.kitOne K (.type "NoneType") (.ref (He.ga K z.2.1)) = some false) && (decide (PySem.W.findIn K (.ref (He.ga K z.1)) "__class__" = some (some (.builtin "object.__class__"))) && (decide (PySem.W.specialIn K (.builtin "object.__class__") "__get__" = some (some (.builtin "getset_descriptor.__get__"))) && (decide (PySem.W.takesIn K (.builtin "object.__class__") = some true) && (decide (PySem.W.mroIn K (He.ga K z.1) (.type "object") = some true)))))))
theorem emB_ok {K : PySem.W.Frag} {z : Str × Str × Bool} (h : emB K z = true) : PySem.W.exmOne K (.ref (He.ga K z.1)) (.ref (He.ga K z.2.1)) = some z.2.2 ∧ PySem.W.kitOne K (.ref (He.ga K z.1)) (.ref (He.ga K z.2.1)) = some z.2.2 ∧ PySem.W.kitOne K (.type "NoneType") (.ref (He.ga K z.2.1)) = some false ∧ PySem.W.findIn K (.ref (He.ga K z.1)) "__class__" = some (some (.builtin "object.__class__")) ∧ PySem.W.specialIn K (.builtin "object.__class__") "__get__" = some (some (.builtin "getset_descriptor.__get__")) ∧ PySem.W.takesIn K (.builtin "object.__class__") = some true ∧ PySem.W.mroIn K (He.ga K z.1) (.type "object") = some true := by
  unfold emB at h
  simp only [Bool.and_eq_true, decide_eq_true_eq] at h
  exact h
def erV : List ErW := [some (("__init__" : Str), ("InvalidGuesser" : Str) ++ (".__init__" : Str), defArgs s_InvalidGuesser___init__, FuncBody.stmts (defBody s_InvalidGuesser___init__), defScope s_InvalidGuesser___init__, mainGlobals, builtinsNs)]
def exP (K : PySem.W.Frag) : Bool := ex K && ((errs.all fun z => errB K fileS z) && ems.all fun z => emB K z)
def exW (K : PySem.W.Frag) : List ErW := errs.map fun z => erW K z
abbrev Al : Type := He.AlD × Bool × List ErW
def frK (g : Addr → Option Obj) : PySem.W.Frag := He.frG g (cStatics :: He.asD g 5)
def obsG (g : Addr → Option Obj) : Al := (He.obsD fa fn (frK g), exP (frK g), exW (frK g))
def Says (K : PySem.W.Frag) : Prop := He.SaysD fa fn K ∧ ex K = true ∧ (∀ z ∈ errs, errB K fileS z = true) ∧ (∀ z ∈ ems, emB K z = true) ∧ exW K = erV
theorem says_of {K : PySem.W.Frag} (e : (He.obsD fa fn K, exP K, exW K) = ((He.valD fn, true, erV) : Al)) : Says K := by
  have e1 := congrArg Prod.fst e
  have e2 := congrArg (fun z : Al => z.2.1) e
  have e3 := congrArg (fun z : Al => z.2.2) e
  have e4 : ex K = true ∧ ((errs.all fun z => errB K fileS z) && ems.all fun z => emB K z) = true := Bool.and_eq_true_iff.mp (show (ex K && ((errs.all fun z => errB K fileS z) && ems.all fun z => emB K z)) = true from e2)
  have e5 : (errs.all fun z => errB K fileS z) = true ∧ (ems.all fun z => emB K z) = true := Bool.and_eq_true_iff.mp e4.2
  exact ⟨e1, e4.1, List.all_eq_true.mp e5.1, List.all_eq_true.mp e5.2, e3⟩
theorem erV_at {K : PySem.W.Frag} {ps : List Str} {vs : List ErW} (e : (ps.map fun z => erW K z) = vs) (i : Nat) {z : Str} {v : ErW} (hz : ps[i]? = some z) (hv : vs[i]? = some v) : erW K z = v := by
  rw [← e, List.getElem?_map, hz] at hv
  exact Option.some.inj hv
def hk : PySem.W.Hook where
  α := Al
  obs := fun s => obsG s.heap.get?
  val := fun _ => (He.valD fn, true, erV)
  says := fun _ h => ∃ K : PySem.W.Frag, K.In h ∧ Says K
  of := fun _ _ e => ⟨_, He.frG_in, says_of e⟩
  keeps := fun _ _ _ ⟨K, hK, c⟩ k => ⟨K, PySem.W.Frag.In.keeps hK k, c⟩
def ob (s : PySem.W.SharedT) : Al := obsG (HandSHeadRun.getT s)
theorem ob_eq (s : PySem.W.SharedT) : ob s = hk.obs s.abs := by
  have e : HandSHeadRun.getT s = s.abs.heap.get? := funext (HandSHeadRun.getT_eq s)
  show obsG (HandSHeadRun.getT s) = obsG s.abs.heap.get?
  rw [e]
def loose0 : List PySem.Str := ["SoundError", "InvalidNumber", "InvalidDepth", "InvalidList", "InvalidItem", "InvalidRow", "InvalidGuesser", "MOST_DEPTH_kinds", "is_whole", "is_between", "are_wholes", "check_depth", "MOST_ORDER", "MOST_WEIGHT", "MOST_SHIFT", "MOST_DEPTH_guessers", "Guesser", "check_guesser", "sum_before", "guess_behind", "steps", "told_rests", "plain_rests", "times_sum", "sum_of", "after", "leads_to", "parting_rests", "same_rests", "_law_cell"]
def loose1 : List PySem.Str := ["_law_hash", "_law_generator", "_law_random", "_law_guess", "_law_wrapped", "_law_all_rows", "_law_rests_behind", "_law_product", "_law_right", "_law_leads_right", "_law_divided", "_law_rests_of", "_law_same_drawn", "_law_same_right", "_law_caught"]
abbrev loose : List PySem.Str := loose0 ++ loose1
theorem run (w : World) : HandSHeadRun.RunEq R (PySem.W.view R.prog [49]) hk ob 8000 loose w := by
  intro os
  kernel_rfl
noncomputable def top_mk {K : PySem.W.Frag} {h : Heap} {mg : Str → Option Value} (X : K.In h) (G : h.Ns mainGlobals mg) (c : Says K) : Top K mg :=
  let p0 := c.1.def_ 0 (d := d_is_whole) rfl
  let p1 := c.1.def_ 1 (d := d_is_between) rfl
  let p2 := c.1.def_ 2 (d := d_are_wholes) rfl
  let p3 := c.1.def_ 3 (d := d_check_depth) rfl
  let p4 := c.1.def_ 4 (d := d_check_guesser) rfl
  let p5 := c.1.def_ 5 (d := d_sum_before) rfl
  let p6 := c.1.def_ 6 (d := d_guess_behind) rfl
  let p7 := c.1.def_ 7 (d := d_steps) rfl
  let p8 := c.1.def_ 8 (d := d_told_rests) rfl
  let p9 := c.1.def_ 9 (d := d_plain_rests) rfl
  let p10 := c.1.def_ 10 (d := d_times_sum) rfl
  let p11 := c.1.def_ 11 (d := d_sum_of) rfl
  let p12 := c.1.def_ 12 (d := d_after) rfl
  let p13 := c.1.def_ 13 (d := d_leads_to) rfl
  let p14 := c.1.def_ 14 (d := d_parting_rests) rfl
  let p15 := c.1.def_ 15 (d := d_same_rests) rfl
  let p16 := c.1.def_ 16 (d := d_law_cell) rfl
  let p17 := c.1.def_ 17 (d := d_law_hash) rfl
  let p18 := c.1.def_ 18 (d := d_law_generator) rfl
  let p19 := c.1.def_ 19 (d := d_law_random) rfl
  let p20 := c.1.def_ 20 (d := d_law_guess) rfl
  let p21 := c.1.def_ 21 (d := d_law_wrapped) rfl
  let p22 := c.1.def_ 22 (d := d_law_all_rows) rfl
  let p23 := c.1.def_ 23 (d := d_law_rests_behind) rfl
  let p24 := c.1.def_ 24 (d := d_law_product) rfl
  let p25 := c.1.def_ 25 (d := d_law_right) rfl
  let p26 := c.1.def_ 26 (d := d_law_leads_right) rfl
  let p27 := c.1.def_ 27 (d := d_law_divided) rfl
  let p28 := c.1.def_ 28 (d := d_law_rests_of) rfl
  let p29 := c.1.def_ 29 (d := d_law_same_drawn) rfl
  let p30 := c.1.def_ 30 (d := d_law_same_right) rfl
  let p31 := c.1.def_ 31 (d := d_law_caught) rfl
  let p32 := c.1.def_ 32 (d := d_law) rfl
  let p33 := c.1.def_ 33 (d := d_Guesser___init__) rfl
  let p34 := c.1.def_ 34 (d := d_Guesser_weights) rfl
  let p35 := c.1.def_ 35 (d := d_Guesser___eq__) rfl
  let q0 := He.int_ok X G (c.1.fact 45 (f := .int "MOST_DEPTH_kinds" 24) rfl)
  let q1 := He.int_ok X G (c.1.fact 46 (f := .int "MOST_ORDER" 8) rfl)
  let q2 := He.int_ok X G (c.1.fact 47 (f := .int "MOST_WEIGHT" 32768) rfl)
  let q3 := He.int_ok X G (c.1.fact 48 (f := .int "MOST_SHIFT" 15) rfl)
  let q4 := He.int_ok X G (c.1.fact 49 (f := .int "MOST_DEPTH_guessers" 32) rfl)
  let er0 := err_ok (K := K) (file := fileS) (x := "InvalidGuesser") (st := s_InvalidGuesser___init__) (c.2.2.1 "InvalidGuesser" (by decide +kernel)) (erV_at c.2.2.2.2 0 (z := "InvalidGuesser") rfl rfl) (fun _ _ _ _ _ _ _ _ us its h1 h2 => match us, its, h1, h2 with | [_, _], [_], _, _ => ⟨_, rfl, rfl⟩)
  { C_InvalidGuesser := _, gc_InvalidGuesser := He.glo_ok X G (c.1.fact 58 (f := .glo "InvalidGuesser") rfl), fi_InvalidGuesser := _, fd_InvalidGuesser := er0.choose, er_InvalidGuesser := er0.choose_spec,
    C_SoundError := _, gc_SoundError := He.glo_ok X G (c.1.fact 59 (f := .glo "SoundError") rfl),
    em_InvalidGuesser_SoundError := (emB_ok (c.2.2.2.1 ("InvalidGuesser", "SoundError", true) (by decide +kernel))).1, ki_InvalidGuesser_SoundError := (emB_ok (c.2.2.2.1 ("InvalidGuesser", "SoundError", true) (by decide +kernel))).2.1,
    em_InvalidGuesser_InvalidGuesser := (emB_ok (c.2.2.2.1 ("InvalidGuesser", "InvalidGuesser", true) (by decide +kernel))).1, ki_InvalidGuesser_InvalidGuesser := (emB_ok (c.2.2.2.1 ("InvalidGuesser", "InvalidGuesser", true) (by decide +kernel))).2.1,
    kn_InvalidGuesser := (emB_ok (c.2.2.2.1 ("InvalidGuesser", "InvalidGuesser", true) (by decide +kernel))).2.2.1,
    ei_InvalidGuesser := ⟨(er0.choose_spec).xf, (emB_ok (c.2.2.2.1 ("InvalidGuesser", "SoundError", true) (by decide +kernel))).2.2.2.1, (emB_ok (c.2.2.2.1 ("InvalidGuesser", "SoundError", true) (by decide +kernel))).2.2.2.2.1, (emB_ok (c.2.2.2.1 ("InvalidGuesser", "SoundError", true) (by decide +kernel))).2.2.2.2.2.1, (emB_ok (c.2.2.2.1 ("InvalidGuesser", "SoundError", true) (by decide +kernel))).2.2.2.2.2.2⟩,
    C_Guesser := _, gc_Guesser := He.glo_ok X G (c.1.fact 50 (f := .glo "Guesser") rfl), cl_Guesser := He.cls_ok (c.1.fact 51 (f := .cls "Guesser") rfl), ic_Guesser := insB_ok (x := "Guesser") (He.cls_ok (c.1.fact 51 (f := .cls "Guesser") rfl)) (List.all_eq_true.mp (Bool.and_eq_true_iff.mp c.2.1).1 "Guesser" (by decide +kernel)),
    kx_Guesser := insN_ok (x := "Guesser") (List.all_eq_true.mp (Bool.and_eq_true_iff.mp c.2.1).1 "Guesser" (by decide +kernel)),
    ec_Guesser := eqB_ok (x := "Guesser") (He.meth_ok (c.1.fact 57 (f := .meth "Guesser" "__eq__") rfl)) (List.all_eq_true.mp (Bool.and_eq_true_iff.mp c.2.1).2 "Guesser" (by decide +kernel)),
    na_Guesser_parts := He.noat_ok (c.1.fact 52 (f := .noat "Guesser" "parts") rfl),
    na_Guesser_down := He.noat_ok (c.1.fact 53 (f := .noat "Guesser" "down") rfl),
    f_is_whole := _, fd_is_whole := p0.choose, F_is_whole := p0.choose_spec, b_is_whole := p0.choose_spec.bindsN fun _ _ _ _ _ _ us hl => match us, hl with | [_], _ => rfl, g_is_whole := He.glo_ok X G (c.1.fact 0 (f := .glo "is_whole") rfl),
    f_is_between := _, fd_is_between := p1.choose, F_is_between := p1.choose_spec, b_is_between := p1.choose_spec.bindsN fun _ _ _ _ _ _ us hl => match us, hl with | [_, _, _], _ => rfl, g_is_between := He.glo_ok X G (c.1.fact 1 (f := .glo "is_between") rfl),
    f_are_wholes := _, fd_are_wholes := p2.choose, F_are_wholes := p2.choose_spec, b_are_wholes := p2.choose_spec.bindsN fun _ _ _ _ _ _ us hl => match us, hl with | [_], _ => rfl, g_are_wholes := He.glo_ok X G (c.1.fact 2 (f := .glo "are_wholes") rfl),
    f_check_depth := _, fd_check_depth := p3.choose, F_check_depth := p3.choose_spec, b_check_depth := nil_binds (p3.choose_spec.binds1 (ps := ["depth", "most"]) 2 1 (by simp [He.DefD.dvs, d_check_depth]) rfl fun _ _ _ _ _ _ _ us its h1 h2 => match us, its, h1, h2 with | [_, _], [_], _, _ => ⟨_, rfl, rfl⟩), e0_check_depth := (p3.choose_spec.binds1 (ps := ["depth", "most"]) 1 0 (by simp [He.DefD.dvs, d_check_depth]) rfl fun _ _ _ _ _ _ _ us its h1 h2 => match us, its, h1, h2 with | [_], [_], _, _ => ⟨_, rfl, rfl⟩).choose, v0_check_depth := (p3.choose_spec.binds1 (ps := ["depth", "most"]) 1 0 (by simp [He.DefD.dvs, d_check_depth]) rfl fun _ _ _ _ _ _ _ us its h1 h2 => match us, its, h1, h2 with | [_], [_], _, _ => ⟨_, rfl, rfl⟩).choose_spec.1, b0_check_depth := (p3.choose_spec.binds1 (ps := ["depth", "most"]) 1 0 (by simp [He.DefD.dvs, d_check_depth]) rfl fun _ _ _ _ _ _ _ us its h1 h2 => match us, its, h1, h2 with | [_], [_], _, _ => ⟨_, rfl, rfl⟩).choose_spec.2, g_check_depth := He.glo_ok X G (c.1.fact 3 (f := .glo "check_depth") rfl),
    f_check_guesser := _, fd_check_guesser := p4.choose, F_check_guesser := p4.choose_spec, b_check_guesser := p4.choose_spec.bindsN fun _ _ _ _ _ _ us hl => match us, hl with | [_], _ => rfl, g_check_guesser := He.glo_ok X G (c.1.fact 4 (f := .glo "check_guesser") rfl),
    f_sum_before := _, fd_sum_before := p5.choose, F_sum_before := p5.choose_spec, b_sum_before := p5.choose_spec.bindsN fun _ _ _ _ _ _ us hl => match us, hl with | [_, _], _ => rfl, g_sum_before := He.glo_ok X G (c.1.fact 5 (f := .glo "sum_before") rfl),
    f_guess_behind := _, fd_guess_behind := p6.choose, F_guess_behind := p6.choose_spec, b_guess_behind := p6.choose_spec.bindsN fun _ _ _ _ _ _ us hl => match us, hl with | [_, _], _ => rfl, g_guess_behind := He.glo_ok X G (c.1.fact 6 (f := .glo "guess_behind") rfl),
    f_steps := _, fd_steps := p7.choose, F_steps := p7.choose_spec, b_steps := p7.choose_spec.bindsN fun _ _ _ _ _ _ us hl => match us, hl with | [_], _ => rfl, g_steps := He.glo_ok X G (c.1.fact 7 (f := .glo "steps") rfl),
    f_told_rests := _, fd_told_rests := p8.choose, F_told_rests := p8.choose_spec, b_told_rests := p8.choose_spec.bindsN fun _ _ _ _ _ _ us hl => match us, hl with | [_, _], _ => rfl, g_told_rests := He.glo_ok X G (c.1.fact 8 (f := .glo "told_rests") rfl),
    f_plain_rests := _, fd_plain_rests := p9.choose, F_plain_rests := p9.choose_spec, b_plain_rests := p9.choose_spec.bindsN fun _ _ _ _ _ _ us hl => match us, hl with | [_, _], _ => rfl, g_plain_rests := He.glo_ok X G (c.1.fact 9 (f := .glo "plain_rests") rfl),
    f_times_sum := _, fd_times_sum := p10.choose, F_times_sum := p10.choose_spec, b_times_sum := p10.choose_spec.bindsN fun _ _ _ _ _ _ us hl => match us, hl with | [_, _], _ => rfl, g_times_sum := He.glo_ok X G (c.1.fact 10 (f := .glo "times_sum") rfl),
    f_sum_of := _, fd_sum_of := p11.choose, F_sum_of := p11.choose_spec, b_sum_of := p11.choose_spec.bindsN fun _ _ _ _ _ _ us hl => match us, hl with | [_], _ => rfl, g_sum_of := He.glo_ok X G (c.1.fact 11 (f := .glo "sum_of") rfl),
    f_after := _, fd_after := p12.choose, F_after := p12.choose_spec, b_after := p12.choose_spec.bindsN fun _ _ _ _ _ _ us hl => match us, hl with | [_, _], _ => rfl, g_after := He.glo_ok X G (c.1.fact 12 (f := .glo "after") rfl),
    f_leads_to := _, fd_leads_to := p13.choose, F_leads_to := p13.choose_spec, b_leads_to := p13.choose_spec.bindsN fun _ _ _ _ _ _ us hl => match us, hl with | [_, _], _ => rfl, g_leads_to := He.glo_ok X G (c.1.fact 13 (f := .glo "leads_to") rfl),
    f_parting_rests := _, fd_parting_rests := p14.choose, F_parting_rests := p14.choose_spec, b_parting_rests := p14.choose_spec.bindsN fun _ _ _ _ _ _ us hl => match us, hl with | [_, _, _], _ => rfl, g_parting_rests := He.glo_ok X G (c.1.fact 14 (f := .glo "parting_rests") rfl),
    f_same_rests := _, fd_same_rests := p15.choose, F_same_rests := p15.choose_spec, b_same_rests := p15.choose_spec.bindsN fun _ _ _ _ _ _ us hl => match us, hl with | [_, _, _], _ => rfl, g_same_rests := He.glo_ok X G (c.1.fact 15 (f := .glo "same_rests") rfl),
    f_law_cell := _, fd_law_cell := p16.choose, F_law_cell := p16.choose_spec, b_law_cell := p16.choose_spec.bindsN fun _ _ _ _ _ _ us hl => match us, hl with | [_, _], _ => rfl, g_law_cell := He.glo_ok X G (c.1.fact 16 (f := .glo "_law_cell") rfl),
    f_law_hash := _, fd_law_hash := p17.choose, F_law_hash := p17.choose_spec, b_law_hash := p17.choose_spec.bindsN fun _ _ _ _ _ _ us hl => match us, hl with | [_, _], _ => rfl, g_law_hash := He.glo_ok X G (c.1.fact 17 (f := .glo "_law_hash") rfl),
    f_law_generator := _, fd_law_generator := p18.choose, F_law_generator := p18.choose_spec, b_law_generator := p18.choose_spec.bindsN fun _ _ _ _ _ _ us hl => match us, hl with | [_, _], _ => rfl, g_law_generator := He.glo_ok X G (c.1.fact 18 (f := .glo "_law_generator") rfl),
    f_law_random := _, fd_law_random := p19.choose, F_law_random := p19.choose_spec, b_law_random := p19.choose_spec.bindsN fun _ _ _ _ _ _ us hl => match us, hl with | [_, _], _ => rfl, g_law_random := He.glo_ok X G (c.1.fact 19 (f := .glo "_law_random") rfl),
    f_law_guess := _, fd_law_guess := p20.choose, F_law_guess := p20.choose_spec, b_law_guess := p20.choose_spec.bindsN fun _ _ _ _ _ _ us hl => match us, hl with | [_, _, _], _ => rfl, g_law_guess := He.glo_ok X G (c.1.fact 20 (f := .glo "_law_guess") rfl),
    f_law_wrapped := _, fd_law_wrapped := p21.choose, F_law_wrapped := p21.choose_spec, b_law_wrapped := p21.choose_spec.bindsN fun _ _ _ _ _ _ us hl => match us, hl with | [_, _], _ => rfl, g_law_wrapped := He.glo_ok X G (c.1.fact 21 (f := .glo "_law_wrapped") rfl),
    f_law_all_rows := _, fd_law_all_rows := p22.choose, F_law_all_rows := p22.choose_spec, b_law_all_rows := p22.choose_spec.bindsN fun _ _ _ _ _ _ us hl => match us, hl with | [_, _], _ => rfl, g_law_all_rows := He.glo_ok X G (c.1.fact 22 (f := .glo "_law_all_rows") rfl),
    f_law_rests_behind := _, fd_law_rests_behind := p23.choose, F_law_rests_behind := p23.choose_spec, b_law_rests_behind := p23.choose_spec.bindsN fun _ _ _ _ _ _ us hl => match us, hl with | [_, _], _ => rfl, g_law_rests_behind := He.glo_ok X G (c.1.fact 23 (f := .glo "_law_rests_behind") rfl),
    f_law_product := _, fd_law_product := p24.choose, F_law_product := p24.choose_spec, b_law_product := p24.choose_spec.bindsN fun _ _ _ _ _ _ us hl => match us, hl with | [_, _], _ => rfl, g_law_product := He.glo_ok X G (c.1.fact 24 (f := .glo "_law_product") rfl),
    f_law_right := _, fd_law_right := p25.choose, F_law_right := p25.choose_spec, b_law_right := p25.choose_spec.bindsN fun _ _ _ _ _ _ us hl => match us, hl with | [_, _, _], _ => rfl, g_law_right := He.glo_ok X G (c.1.fact 25 (f := .glo "_law_right") rfl),
    f_law_leads_right := _, fd_law_leads_right := p26.choose, F_law_leads_right := p26.choose_spec, b_law_leads_right := p26.choose_spec.bindsN fun _ _ _ _ _ _ us hl => match us, hl with | [_, _, _], _ => rfl, g_law_leads_right := He.glo_ok X G (c.1.fact 26 (f := .glo "_law_leads_right") rfl),
    f_law_divided := _, fd_law_divided := p27.choose, F_law_divided := p27.choose_spec, b_law_divided := p27.choose_spec.bindsN fun _ _ _ _ _ _ us hl => match us, hl with | [_, _], _ => rfl, g_law_divided := He.glo_ok X G (c.1.fact 27 (f := .glo "_law_divided") rfl),
    f_law_rests_of := _, fd_law_rests_of := p28.choose, F_law_rests_of := p28.choose_spec, b_law_rests_of := p28.choose_spec.bindsN fun _ _ _ _ _ _ us hl => match us, hl with | [_, _, _, _], _ => rfl, g_law_rests_of := He.glo_ok X G (c.1.fact 28 (f := .glo "_law_rests_of") rfl),
    f_law_same_drawn := _, fd_law_same_drawn := p29.choose, F_law_same_drawn := p29.choose_spec, b_law_same_drawn := p29.choose_spec.bindsN fun _ _ _ _ _ _ us hl => match us, hl with | [_, _, _], _ => rfl, g_law_same_drawn := He.glo_ok X G (c.1.fact 29 (f := .glo "_law_same_drawn") rfl),
    f_law_same_right := _, fd_law_same_right := p30.choose, F_law_same_right := p30.choose_spec, b_law_same_right := p30.choose_spec.bindsN fun _ _ _ _ _ _ us hl => match us, hl with | [_], _ => rfl, g_law_same_right := He.glo_ok X G (c.1.fact 30 (f := .glo "_law_same_right") rfl),
    f_law_caught := _, fd_law_caught := p31.choose, F_law_caught := p31.choose_spec, b_law_caught := p31.choose_spec.bindsN fun _ _ _ _ _ _ us hl => match us, hl with | [_, _, _], _ => rfl, g_law_caught := He.glo_ok X G (c.1.fact 31 (f := .glo "_law_caught") rfl),
    f_law := _, fd_law := p32.choose, F_law := p32.choose_spec, b_law := p32.choose_spec.bindsN fun _ _ _ _ _ _ us hl => match us, hl with | [_], _ => rfl, g_law := He.glo_ok X G (c.1.fact 32 (f := .glo "law") rfl),
    f_Guesser___init__ := _, fd_Guesser___init__ := p33.choose, F_Guesser___init__ := p33.choose_spec, b_Guesser___init__ := p33.choose_spec.bindsN fun _ _ _ _ _ _ us hl => match us, hl with | [_, _, _], _ => rfl, me_Guesser___init__ := He.meth_ok (c.1.fact 55 (f := .meth "Guesser" "__init__") rfl), mk_Guesser := He.mkr_ok (c.1.fact 54 (f := .mkr "Guesser") rfl),
    f_Guesser_weights := _, fd_Guesser_weights := p34.choose, F_Guesser_weights := p34.choose_spec, b_Guesser_weights := p34.choose_spec.bindsN fun _ _ _ _ _ _ us hl => match us, hl with | [_], _ => rfl, me_Guesser_weights := He.meth_ok (c.1.fact 56 (f := .meth "Guesser" "weights") rfl),
    f_Guesser___eq__ := _, fd_Guesser___eq__ := p35.choose, F_Guesser___eq__ := p35.choose_spec, b_Guesser___eq__ := p35.choose_spec.bindsN fun _ _ _ _ _ _ us hl => match us, hl with | [_, _], _ => rfl, me_Guesser___eq__ := He.meth_ok (c.1.fact 57 (f := .meth "Guesser" "__eq__") rfl),
    n_len := He.free_ok X G (c.1.fact 33 (f := .free "len") rfl),
    n_sum := He.free_ok X G (c.1.fact 34 (f := .free "sum") rfl),
    n_max := He.free_ok X G (c.1.fact 35 (f := .free "max") rfl),
    n_min := He.free_ok X G (c.1.fact 36 (f := .free "min") rfl),
    n_int := He.free_ok X G (c.1.fact 37 (f := .free "int") rfl),
    n_bool := He.free_ok X G (c.1.fact 38 (f := .free "bool") rfl),
    n_list := He.free_ok X G (c.1.fact 39 (f := .free "list") rfl),
    n_range := He.free_ok X G (c.1.fact 40 (f := .free "range") rfl),
    n_isinstance := He.free_ok X G (c.1.fact 41 (f := .free "isinstance") rfl),
    n_abs := He.free_ok X G (c.1.fact 42 (f := .free "abs") rfl),
    n_enumerate := He.free_ok X G (c.1.fact 43 (f := .free "enumerate") rfl),
    n_super := He.free_ok X G (c.1.fact 44 (f := .free "super") rfl),
    t_MOST_DEPTH_kinds := q0.choose, m_MOST_DEPTH_kinds := q0.choose_spec,
    t_MOST_ORDER := q1.choose, m_MOST_ORDER := q1.choose_spec,
    t_MOST_WEIGHT := q2.choose, m_MOST_WEIGHT := q2.choose_spec,
    t_MOST_SHIFT := q3.choose, m_MOST_SHIFT := q3.choose_spec,
    t_MOST_DEPTH_guessers := q4.choose, m_MOST_DEPTH_guessers := q4.choose_spec }
theorem G_InvalidGuesser___init__ {P : Program} {w : World} {K : PySem.W.Frag} {mg : Str → Option Value} {base : Heap} {CX : CXT} [Sup.PF P fileS] (T : Top K mg) : FnOk P w K mg base CX 1 T.fi_InvalidGuesser T.fd_InvalidGuesser ["self", "value"] (Sup.sp_exc_init T.C_InvalidGuesser) := Sup.fn_sup nsc_InvalidGuesser (by decide +kernel) sb_InvalidGuesser T.er_InvalidGuesser.sup T.n_super
end My

namespace My
/-! ### rows by rules, modulo a number: a rule that leads another one -/
/-- a sum of the first n -/
def sumN : Nat → (Nat → Int) → Int
  | 0, _ => 0
  | n + 1, f => sumN n f + f n
theorem sumN_congr {n : Nat} {f g : Nat → Int} (h : ∀ i, i < n → f i = g i) : sumN n f = sumN n g := by
  induction n with
  | zero => rfl
  | succ n ih => rw [sumN, sumN, ih fun i hi => h i (by omega), h n (Nat.lt_succ_self n)]
theorem sumN_zero (n : Nat) : sumN n (fun _ => 0) = 0 := by
  induction n with
  | zero => rfl
  | succ n ih => rw [sumN, ih]; rfl
theorem sumN_none {n : Nat} {f : Nat → Int} (h : ∀ i, i < n → f i = 0) : sumN n f = 0 := (sumN_congr h).trans (sumN_zero n)
theorem sumN_add (n : Nat) (f g : Nat → Int) : sumN n (fun i => f i + g i) = sumN n f + sumN n g := by
  induction n with
  | zero => rfl
  | succ n ih => rw [sumN, sumN, sumN, ih]; omega
theorem sumN_mul (n : Nat) (c : Int) (f : Nat → Int) : sumN n (fun i => c * f i) = c * sumN n f := by
  induction n with
  | zero => simp [sumN]
  | succ n ih => rw [sumN, sumN, ih, Int.mul_add]
theorem sumN_front (n : Nat) (f : Nat → Int) : sumN (n + 1) f = f 0 + sumN n fun i => f (i + 1) := by
  induction n with
  | zero => simp [sumN]
  | succ n ih => rw [sumN, ih, sumN]; omega
theorem sumN_rev (n : Nat) (f : Nat → Int) : sumN n (fun i => f (n - 1 - i)) = sumN n f := by
  induction n generalizing f with
  | zero => rfl
  | succ n ih =>
    rw [sumN_front, sumN]
    have : (sumN n fun i => f (n + 1 - 1 - (i + 1))) = sumN n f := by
      rw [← ih f]
      refine sumN_congr fun i hi => ?_
      congr 1
      omega
    rw [this]
    show f n + _ = _
    omega
theorem sumN_cut {n k : Nat} (h : k ≤ n) {f : Nat → Int} (z : ∀ i, k ≤ i → i < n → f i = 0) : sumN n f = sumN k f := by
  induction n with
  | zero => obtain rfl : k = 0 := by omega
            rfl
  | succ n ih =>
    by_cases e : k = n + 1
    · rw [e]
    · rw [sumN, z n (by omega) (Nat.lt_succ_self n), ih (by omega) fun i h1 h2 => z i h1 (by omega)]
      omega
theorem sumN_swap (n m : Nat) (f : Nat → Nat → Int) : sumN n (fun i => sumN m (f i)) = sumN m fun j => sumN n fun i => f i j := by
  induction n with
  | zero => simp only [sumN]; exact (sumN_zero m).symm
  | succ n ih =>
    rw [sumN, ih, ← sumN_add]
    rfl
theorem sumN_dvd {N : Int} {n : Nat} {f : Nat → Int} (h : ∀ i, i < n → N ∣ f i) : N ∣ sumN n f := by
  induction n with
  | zero => exact Int.dvd_zero N
  | succ n ih => exact Int.dvd_add (ih fun i hi => h i (by omega)) (h n (Nat.lt_succ_self n))
theorem sumN_only {n k : Nat} (hk : k < n) {f : Nat → Int} (z : ∀ i, i < n → i ≠ k → f i = 0) : sumN n f = f k := by
  induction n with
  | zero => omega
  | succ n ih =>
    rw [sumN]
    by_cases e : k = n
    · subst e
      rw [sumN_none fun i hi => z i (by omega) (by omega)]
      omega
    · rw [ih (by omega) fun i hi ne => z i (by omega) ne, z n (Nat.lt_succ_self n) (fun q => e q.symm)]
      omega
section
variable (N : Int) (w : List Int)
/-- the row follows the rule w -/
def Fol (r : Nat → Int) : Prop := ∀ i, N ∣ r (i + w.length) - sumN w.length fun b => w.getD b 0 * r (i + w.length - 1 - b)
/-- a power led down: k weights done -/
def updW (f : Nat → Int) (top k : Nat) : Nat → Int := fun p => if p < top ∧ top - 1 - p < k then (f p + f top * w.getD (top - 1 - p) 0) % N else f p
/-- powers from the t-th on led down -/
def ledN (f : Nat → Int) (L : Nat) : Nat → Nat → Int
  | 0 => f
  | t + 1 => updW N w (ledN f L t) (L - 1 - t) w.length
/-- what is led: the rule q as powers -/
def iniP (q : List Int) : Nat → Int := fun p => q.getD p 0 % N
/-- how many powers there are at first -/
def lenP (q : List Int) : Nat := max q.length w.length
def redP (q : List Int) : Nat → Int := ledN N w (iniP N q) (lenP w q) (lenP w q - w.length)
variable {N w}
theorem upd_same_sum (hN : 0 < N) {f r : Nat → Int} (hr : Fol N w r) {top : Nat} (ht : w.length ≤ top) (i : Nat) : N ∣ sumN top (fun p => updW N w f top w.length p * r (i + p)) - sumN (top + 1) fun p => f p * r (i + p) := by
  rw [sumN]
  have h1 : N ∣ sumN top (fun p => updW N w f top w.length p * r (i + p)) - sumN top fun p => (f p + if top - 1 - p < w.length then f top * w.getD (top - 1 - p) 0 else 0) * r (i + p) := by
    have e : sumN top (fun p => updW N w f top w.length p * r (i + p)) - sumN top (fun p => (f p + if top - 1 - p < w.length then f top * w.getD (top - 1 - p) 0 else 0) * r (i + p)) = sumN top fun p => (updW N w f top w.length p - (f p + if top - 1 - p < w.length then f top * w.getD (top - 1 - p) 0 else 0)) * r (i + p) := by
      rw [Int.sub_eq_add_neg, ← Int.neg_one_mul, ← sumN_mul, ← sumN_add]
      refine sumN_congr fun p _ => ?_
      rw [Int.neg_one_mul, ← Int.sub_eq_add_neg, Int.sub_mul]
    rw [e]
    refine sumN_dvd fun p hp => ?_
    refine Int.dvd_mul_of_dvd_left ?_
    unfold updW
    by_cases c : top - 1 - p < w.length
    · rw [if_pos ⟨hp, c⟩, if_pos c]
      have := Int.dvd_self_sub_emod (x := f p + f top * w.getD (top - 1 - p) 0) (m := N)
      rw [← Int.neg_sub]
      exact Int.dvd_neg.mpr this
    · rw [if_neg fun z => c z.2, if_neg c, Int.add_zero, Int.sub_self]
      exact Int.dvd_zero N
  have h2 : sumN top (fun p => (f p + if top - 1 - p < w.length then f top * w.getD (top - 1 - p) 0 else 0) * r (i + p)) = sumN top (fun p => f p * r (i + p)) + f top * sumN w.length fun b => w.getD b 0 * r (i + top - 1 - b) := by
    have e1 : (fun p => (f p + if top - 1 - p < w.length then f top * w.getD (top - 1 - p) 0 else 0) * r (i + p)) = fun p => f p * r (i + p) + (if top - 1 - p < w.length then f top * w.getD (top - 1 - p) 0 else 0) * r (i + p) := by
      funext p
      rw [Int.add_mul]
    rw [e1, sumN_add]
    congr 1
    rw [← sumN_mul]
    have e2 : sumN top (fun p => (if top - 1 - p < w.length then f top * w.getD (top - 1 - p) 0 else 0) * r (i + p)) = sumN top fun p => (fun b => (if b < w.length then f top * w.getD b 0 else 0) * r (i + top - 1 - b)) (top - 1 - p) := by
      refine sumN_congr fun p hp => ?_
      dsimp only
      rw [show i + top - 1 - (top - 1 - p) = i + p by omega]
    refine e2.trans ((sumN_rev top fun b => (if b < w.length then f top * w.getD b 0 else 0) * r (i + top - 1 - b)).trans ?_)
    rw [sumN_cut ht fun b h1 h2 => by rw [if_neg (by omega), Int.zero_mul]]
    refine sumN_congr fun b hb => ?_
    rw [if_pos hb, Int.mul_assoc]
  have h3 : N ∣ f top * sumN w.length (fun b => w.getD b 0 * r (i + top - 1 - b)) - f top * r (i + top) := by
    rw [← Int.mul_sub]
    refine Int.dvd_mul_of_dvd_right ?_
    have := hr (i + top - w.length)
    rw [show i + top - w.length + w.length = i + top by omega] at this
    rw [← Int.neg_sub]
    exact Int.dvd_neg.mpr this
  rw [h2] at h1
  have h4 := Int.dvd_add h1 h3
  have e : ∀ a b c d : Int, (a - (b + c)) + (c - d) = a - (b + d) := fun a b c d => by omega
  rw [e] at h4
  exact h4
theorem led_sum (hN : 0 < N) {f r : Nat → Int} (hr : Fol N w r) {L : Nat} (i : Nat) : ∀ t, t + w.length ≤ L → N ∣ sumN (L - t) (fun p => ledN N w f L t p * r (i + p)) - sumN L fun p => f p * r (i + p)
  | 0, _ => by rw [Nat.sub_zero]; exact ⟨0, by rw [Int.mul_zero]; exact Int.sub_self _⟩
  | t + 1, h => by
    have ih := led_sum hN (f := f) hr (L := L) i t (by omega)
    have h1 := upd_same_sum hN (f := ledN N w f L t) hr (top := L - 1 - t) (by omega) i
    rw [show L - 1 - t + 1 = L - t by omega] at h1
    rw [show L - (t + 1) = L - 1 - t by omega]
    have := Int.dvd_add h1 ih
    rw [show ∀ a b c : Int, a - b + (b - c) = a - c from fun a b c => by omega] at this
    exact this
/-- led powers tell the same of all rows by the rule -/
theorem red_sum (hN : 0 < N) {r : Nat → Int} (hr : Fol N w r) (q : List Int) (i : Nat) : N ∣ sumN w.length (fun p => redP N w q p * r (i + p)) - sumN q.length fun p => q.getD p 0 * r (i + p) := by
  have h1 := led_sum hN (f := iniP N q) hr (L := lenP w q) i (lenP w q - w.length) (by unfold lenP; omega)
  rw [show lenP w q - (lenP w q - w.length) = w.length by unfold lenP; omega] at h1
  have h2 : N ∣ sumN (lenP w q) (fun p => iniP N q p * r (i + p)) - sumN q.length fun p => q.getD p 0 * r (i + p) := by
    rw [← sumN_cut (n := lenP w q) (k := q.length) (f := fun p => q.getD p 0 * r (i + p)) (by unfold lenP; omega) fun p h1 _ => by rw [List.getD_eq_getElem?_getD, List.getElem?_eq_none h1]; exact Int.zero_mul _]
    have e : sumN (lenP w q) (fun p => iniP N q p * r (i + p)) - sumN (lenP w q) (fun p => q.getD p 0 * r (i + p)) = sumN (lenP w q) fun p => (iniP N q p - q.getD p 0) * r (i + p) := by
      rw [Int.sub_eq_add_neg, ← Int.neg_one_mul, ← sumN_mul, ← sumN_add]
      refine sumN_congr fun p _ => ?_
      rw [Int.neg_one_mul, ← Int.sub_eq_add_neg, Int.sub_mul]
    rw [e]
    refine sumN_dvd fun p _ => Int.dvd_mul_of_dvd_left ?_
    unfold iniP
    have := Int.dvd_self_sub_emod (x := q.getD p 0) (m := N)
    rw [← Int.neg_sub]
    exact Int.dvd_neg.mpr this
  have := Int.dvd_add h1 h2
  rw [show ∀ a b c : Int, a - b + (b - c) = a - c from fun a b c => by omega] at this
  exact this
theorem led_range (hN : 0 < N) {f : Nat → Int} (hf : ∀ p, 0 ≤ f p ∧ f p < N) (L : Nat) : ∀ t p, 0 ≤ ledN N w f L t p ∧ ledN N w f L t p < N
  | 0, p => hf p
  | t + 1, p => by
    rw [ledN]
    unfold updW
    split
    · exact ⟨Int.emod_nonneg _ (by omega), Int.emod_lt_of_pos _ hN⟩
    · exact led_range hN hf L t p
theorem red_range (hN : 0 < N) (q : List Int) (p : Nat) : 0 ≤ redP N w q p ∧ redP N w q p < N := led_range hN (fun p => ⟨Int.emod_nonneg _ (by omega), Int.emod_lt_of_pos _ hN⟩) _ _ _
/-- where all is led to nought, all rows by the rule tell nought -/
theorem red_none (hN : 0 < N) {r : Nat → Int} (hr : Fol N w r) {q : List Int} (hz : ∀ p, p < w.length → redP N w q p = 0) (i : Nat) : N ∣ sumN q.length fun p => q.getD p 0 * r (i + p) := by
  have := red_sum hN hr q i
  rw [sumN_none fun p hp => by rw [hz p hp, Int.zero_mul], Int.zero_sub] at this
  exact Int.dvd_neg.mp this
/-- the last one alone -/
def Alo (m : Nat) (r : Nat → Int) : Prop := (∀ p, p + 1 < m → r p = 0) ∧ (0 < m → r (m - 1) = -1)
/-- otherwise the row from the last one alone tells where it first does not -/
theorem red_some (hN : 0 < N) {r : Nat → Int} (hr : Fol N w r) (ha : Alo w.length r) {q : List Int} {t : Nat} (ht : t < w.length) (hn : redP N w q t ≠ 0) (hz : ∀ p, t < p → p < w.length → redP N w q p = 0) :
    (∀ i, i < w.length - 1 - t → N ∣ sumN q.length fun p => q.getD p 0 * r (i + p)) ∧ ¬ N ∣ sumN q.length fun p => q.getD p 0 * r (w.length - 1 - t + p) := by
  constructor
  · intro i hi
    have := red_sum hN hr q i
    rw [sumN_none fun p hp => ?_, Int.zero_sub] at this
    · exact Int.dvd_neg.mp this
    · by_cases c : t < p
      · rw [hz p c hp, Int.zero_mul]
      · rw [ha.1 _ (by omega), Int.mul_zero]
  · intro hd
    have h1 := red_sum hN hr q (w.length - 1 - t)
    have h2 := Int.dvd_add h1 hd
    rw [show ∀ a b : Int, a - b + b = a from fun a b => by omega, sumN_only (k := t) ht fun p hp ne => ?_] at h2
    · rw [show w.length - 1 - t + t = w.length - 1 by omega, ha.2 (by omega), Int.mul_neg_one] at h2
      have h3 := Int.dvd_neg.mp h2
      obtain ⟨r1, r2⟩ := red_range (w := w) hN q t
      have := Int.le_of_dvd (by omega) h3
      omega
    · by_cases c : t < p
      · rw [hz p c hp, Int.zero_mul]
      · rw [ha.1 _ (by omega), Int.mul_zero]
end
/-- the rule as powers -/
def asP (u : List Int) : List Int := u.reverse.map (fun x => -x) ++ [1]
theorem asP_len (u : List Int) : (asP u).length = u.length + 1 := by unfold asP; rw [List.length_append, List.length_map, List.length_reverse]; rfl
/-- what the powers tell: the next one less the sum -/
theorem asP_sum (u : List Int) (r : Nat → Int) (i : Nat) : (sumN (asP u).length fun p => (asP u).getD p 0 * r (i + p)) = r (i + u.length) - sumN u.length fun b => u.getD b 0 * r (i + u.length - 1 - b) := by
  rw [asP_len, sumN]
  have e1 : (asP u).getD u.length 0 = 1 := by
    unfold asP
    rw [List.getD_eq_getElem?_getD, List.getElem?_append_right (by rw [List.length_map, List.length_reverse]; exact Nat.le_refl _), List.length_map, List.length_reverse, Nat.sub_self]
    rfl
  have e2 : (sumN u.length fun p => (asP u).getD p 0 * r (i + p)) = - sumN u.length fun b => u.getD b 0 * r (i + u.length - 1 - b) := by
    rw [← sumN_rev u.length fun b => u.getD b 0 * r (i + u.length - 1 - b), ← Int.neg_one_mul, ← sumN_mul]
    refine sumN_congr fun p hp => ?_
    have e3 : (asP u).getD p 0 = -(u.getD (u.length - 1 - p) 0) := by
      unfold asP
      rw [List.getD_eq_getElem?_getD, List.getElem?_append_left (by rw [List.length_map, List.length_reverse]; exact hp), List.getElem?_map, List.getElem?_reverse hp, List.getD_eq_getElem?_getD, List.getElem?_eq_getElem (by omega)]
      rfl
    rw [e3, show i + u.length - 1 - (u.length - 1 - p) = i + p by omega, Int.neg_mul, Int.neg_one_mul]
  rw [e1, e2, Int.one_mul]
  omega
theorem fol_asP {N : Int} {w : List Int} {r : Nat → Int} : Fol N w r ↔ ∀ i, N ∣ sumN (asP w).length fun p => (asP w).getD p 0 * r (i + p) := by
  unfold Fol
  constructor
  · intro h i; rw [asP_sum]; exact h i
  · intro h i; have := h i; rwa [asP_sum] at this
end My

namespace My
/-! ### products of rules -/
theorem sumN_split (s n : Nat) (f : Nat → Int) : sumN (s + n) f = sumN s f + sumN n fun i => f (s + i) := by
  induction n with
  | zero => simp [sumN]
  | succ n ih => rw [← Nat.add_assoc, sumN, ih, sumN]; omega
theorem sumN_shift {L s b : Nat} (h : s + b ≤ L) (g : Nat → Int) : sumN L (fun k => if s ≤ k ∧ k - s < b then g (k - s) else 0) = sumN b g := by
  obtain ⟨n, rfl⟩ := Nat.le.dest (show s ≤ L by omega)
  rw [sumN_split, sumN_none fun k hk => if_neg (by omega), Int.zero_add, sumN_cut (k := b) (by omega) fun i h1 _ => if_neg (by omega)]
  refine sumN_congr fun i hi => ?_
  rw [if_pos (by omega), show s + i - s = i by omega]
/-- the product's powers, spots below i done, places below j of the i-th -/
def cvF (A B : List Int) (i j : Nat) (k : Nat) : Int := (sumN i fun s => if s ≤ k ∧ k - s < B.length then A.getD s 0 * B.getD (k - s) 0 else 0) + if i ≤ k ∧ k - i < j then A.getD i 0 * B.getD (k - i) 0 else 0
theorem cvF_nil (A B : List Int) (k : Nat) : cvF A B 0 0 k = 0 := by
  unfold cvF
  rw [if_neg (by omega)]
  rfl
theorem cvF_step (A B : List Int) (i j k : Nat) : cvF A B i (j + 1) k = if k = i + j then cvF A B i j k + A.getD i 0 * B.getD j 0 else cvF A B i j k := by
  unfold cvF
  by_cases c : k = i + j
  · rw [if_pos c, if_pos (by omega), if_neg (by omega), show k - i = j by omega]
    omega
  · rw [if_neg c]
    congr 1
    by_cases c2 : i ≤ k ∧ k - i < j
    · rw [if_pos c2, if_pos (by omega)]
    · rw [if_neg c2, if_neg (by omega)]
theorem cvF_next (A B : List Int) (i k : Nat) : cvF A B i B.length k = cvF A B (i + 1) 0 k := by
  unfold cvF
  rw [if_neg (show ¬ (i + 1 ≤ k ∧ k - (i + 1) < 0) by omega), sumN, Int.add_zero]
/-- the product -/
def prodF (A B : List Int) (k : Nat) : Int := cvF A B A.length 0 k
theorem prodF_eq (A B : List Int) (k : Nat) : prodF A B k = sumN A.length fun s => if s ≤ k ∧ k - s < B.length then A.getD s 0 * B.getD (k - s) 0 else 0 := by
  unfold prodF cvF
  rw [if_neg (by omega), Int.add_zero]
theorem prodF_sum (A B : List Int) (hB : 0 < B.length) (r : Nat → Int) (i : Nat) : (sumN (A.length + B.length - 1) fun k => prodF A B k * r (i + k)) = sumN B.length fun t => B.getD t 0 * sumN A.length fun s => A.getD s 0 * r (i + t + s) := by
  have e1 : (sumN (A.length + B.length - 1) fun k => prodF A B k * r (i + k)) = sumN (A.length + B.length - 1) fun k => sumN A.length fun s => if s ≤ k ∧ k - s < B.length then A.getD s 0 * B.getD (k - s) 0 * r (i + s + (k - s)) else 0 := by
    refine sumN_congr fun k _ => ?_
    rw [prodF_eq, Int.mul_comm, ← sumN_mul]
    refine sumN_congr fun s _ => ?_
    by_cases c : s ≤ k ∧ k - s < B.length
    · rw [if_pos c, if_pos c, Int.mul_comm, show i + s + (k - s) = i + k by omega]
    · rw [if_neg c, if_neg c, Int.mul_zero]
  rw [e1, sumN_swap]
  have e2 : (sumN A.length fun s => sumN (A.length + B.length - 1) fun k => if s ≤ k ∧ k - s < B.length then A.getD s 0 * B.getD (k - s) 0 * r (i + s + (k - s)) else 0) = sumN A.length fun s => sumN B.length fun t => A.getD s 0 * B.getD t 0 * r (i + s + t) := by
    refine sumN_congr fun s hs => ?_
    exact sumN_shift (g := fun t => A.getD s 0 * B.getD t 0 * r (i + s + t)) (by omega)
  rw [e2, sumN_swap]
  refine sumN_congr fun t _ => ?_
  rw [← sumN_mul]
  refine sumN_congr fun s _ => ?_
  rw [Int.mul_comm (A.getD s 0), Int.mul_assoc, show i + s + t = i + t + s by omega]
/-- as a rule again -/
def prodL (A B : List Int) : List Int := (((List.range (A.length + B.length - 2)).map fun k => -prodF A B k)).reverse
theorem prodL_len (A B : List Int) : (prodL A B).length = A.length + B.length - 2 := by unfold prodL; rw [List.length_reverse, List.length_map, List.length_range]
theorem asP_last (u : List Int) : (asP u).getD u.length 0 = 1 := by
  unfold asP
  rw [List.getD_eq_getElem?_getD, List.getElem?_append_right (by rw [List.length_map, List.length_reverse]; exact Nat.le_refl _), List.length_map, List.length_reverse, Nat.sub_self]
  rfl
theorem prod_tell (w u : List Int) (r : Nat → Int) (i : Nat) : (sumN (asP (prodL (asP w) (asP u))).length fun p => (asP (prodL (asP w) (asP u))).getD p 0 * r (i + p)) = sumN (asP u).length fun t => (asP u).getD t 0 * sumN (asP w).length fun s => (asP w).getD s 0 * r (i + t + s) := by
  rw [← prodF_sum (asP w) (asP u) (by rw [asP_len]; omega), asP_len, prodL_len, asP_len, asP_len]
  rw [show w.length + 1 + (u.length + 1) - 2 + 1 = w.length + 1 + (u.length + 1) - 1 by omega]
  refine sumN_congr fun k hk => ?_
  congr 1
  by_cases c : k = w.length + u.length
  · have e : (asP (prodL (asP w) (asP u))).getD k 0 = 1 := by
      have := asP_last (prodL (asP w) (asP u))
      rw [prodL_len, asP_len, asP_len] at this
      rw [c, ← this]
      congr 1
      omega
    rw [e, prodF_eq, asP_len, sumN_only (k := w.length) (Nat.lt_succ_self _) fun s hs ne => by rw [if_neg (by rw [asP_len]; omega)], if_pos (by rw [asP_len]; omega), asP_last, show k - w.length = u.length by omega, asP_last]
    rfl
  · have hk2 : k < w.length + 1 + (u.length + 1) - 2 := by omega
    unfold asP
    rw [List.getD_eq_getElem?_getD, List.getElem?_append_left (by rw [List.length_map, List.length_reverse, prodL_len]; simp; omega), List.getElem?_map]
    unfold prodL
    rw [List.reverse_reverse, List.getElem?_map, List.getElem?_range (by simp; omega)]
    show - -(_ : Int) = _
    rw [Int.neg_neg]
theorem fol_prod {N : Int} {w u : List Int} {r : Nat → Int} (h : Fol N w r) (i : Nat) : N ∣ sumN (asP (prodL (asP w) (asP u))).length fun p => (asP (prodL (asP w) (asP u))).getD p 0 * r (i + p) := by
  rw [prod_tell]
  exact sumN_dvd fun t _ => Int.dvd_mul_of_dvd_right (fol_asP.mp h (i + t))
theorem sumN_abs {n : Nat} {f : Nat → Int} {c : Nat} (h : ∀ i, i < n → (f i).natAbs ≤ c) : (sumN n f).natAbs ≤ n * c := by
  induction n with
  | zero => simp [sumN]
  | succ n ih =>
    rw [sumN]
    have h1 := ih fun i hi => h i (by omega)
    have h2 := h n (Nat.lt_succ_self n)
    have h3 := Int.natAbs_add_le (sumN n f) (f n)
    rw [Nat.succ_mul]
    omega
theorem small_getD {A : List Int} {c : Nat} (h : ∀ x ∈ A, x.natAbs ≤ c) (i : Nat) : (A.getD i 0).natAbs ≤ c := by
  rw [List.getD_eq_getElem?_getD]
  by_cases hi : i < A.length
  · rw [List.getElem?_eq_getElem hi]
    exact h _ (List.getElem_mem hi)
  · rw [List.getElem?_eq_none (by omega)]
    exact Nat.zero_le _
theorem asP_small {u : List Int} {c : Nat} (hc : 1 ≤ c) (h : ∀ x ∈ u, x.natAbs ≤ c) : ∀ x ∈ asP u, x.natAbs ≤ c := by
  intro x hx
  unfold asP at hx
  rcases List.mem_append.mp hx with hx | hx
  · obtain ⟨y, hy, rfl⟩ := List.mem_map.mp hx
    rw [Int.natAbs_neg]
    exact h y (List.mem_reverse.mp hy)
  · rw [List.mem_singleton.mp hx]
    exact hc
theorem cvF_small {A B : List Int} (hA : ∀ x ∈ A, x.natAbs ≤ 3) (hB : ∀ x ∈ B, x.natAbs ≤ 3) {i j k : Nat} (hi : i ≤ 8) : (cvF A B i j k).natAbs ≤ 100 := by
  have one : ∀ s t, (A.getD s 0 * B.getD t 0).natAbs ≤ 9 := fun s t => by
    rw [Int.natAbs_mul]
    exact Nat.mul_le_mul (small_getD hA s) (small_getD hB t)
  unfold cvF
  have h1 : (sumN i fun s => if s ≤ k ∧ k - s < B.length then A.getD s 0 * B.getD (k - s) 0 else 0).natAbs ≤ i * 9 := sumN_abs fun s _ => by
    split
    · exact one _ _
    · exact Nat.zero_le _
  have h2 : (if i ≤ k ∧ k - i < j then A.getD i 0 * B.getD (k - i) 0 else 0).natAbs ≤ 9 := by
    split
    · exact one _ _
    · exact Nat.zero_le _
  have h3 := Int.natAbs_add_le (sumN i fun s => if s ≤ k ∧ k - s < B.length then A.getD s 0 * B.getD (k - s) 0 else 0) (if i ≤ k ∧ k - i < j then A.getD i 0 * B.getD (k - i) 0 else 0)
  omega
theorem prodL_small {A B : List Int} (hA : ∀ x ∈ A, x.natAbs ≤ 3) (hB : ∀ x ∈ B, x.natAbs ≤ 3) (h : A.length ≤ 8) : ∀ x ∈ prodL A B, x.natAbs ≤ 100 := by
  intro x hx
  unfold prodL at hx
  obtain ⟨k, _, rfl⟩ := List.mem_map.mp (List.mem_reverse.mp hx)
  rw [Int.natAbs_neg]
  exact cvF_small hA hB h
end My

namespace My
open PySem PySem.Spec PyProof.Rows L2 Pre
section
variable {P : Program} {w : World} {K : PySem.W.Frag} {mg : Str → Option Value} {base : Heap}
/-! ### is_whole, is_between, of whole numbers -/
def sp_is_whole : Sp := fun vs H Q _ => ∃ i : Int, vs = [.int i] ∧ Q (.bl true) H
theorem G_is_whole (T : Top K mg) : FnOk P w K mg base CX0 1 T.f_is_whole T.fd_is_whole ["value"] sp_is_whole := by
  refine T.F_is_whole.ok sc_is_whole (fun vs H Q E h => by obtain ⟨i, rfl, _⟩ := h; rfl) (fun cdv A outer s H vs Q E hr h => ?_)
  obtain ⟨i, rfl, q⟩ := h
  refine ⟨_, PSs.nox (pss_one (ps_ret (pe_and (pe_callB (k_isi K rfl) (by rfl) T.n_isinstance (by decide +kernel) (pa_cons (pv 0) (pa_cons (pe_bltn (v := .ty "int") (by rfl) T.n_int (by decide +kernel) rfl) pa_nil))) (pe_one (pe_not (pe_callB (k_isi K rfl) (by rfl) T.n_isinstance (by decide +kernel) (pa_cons (pv 0) (pa_cons (pe_bltn (v := .ty "bool") (by rfl) T.n_bool (by decide +kernel) rfl) pa_nil)))))))), ?_⟩
  refine ⟨_, rfl, _, _, _, _, true, rfl, .ty _, .base (.int i), kit_ty (by decide +kernel), true, rfl, iteT ?_⟩
  exact ⟨_, rfl, _, _, _, _, false, rfl, .ty _, .base (.int i), kit_ty (by decide +kernel), false, rfl, q⟩
/-- value a whole number, low one, high None or one -/
def sp_is_between : Sp := fun vs H Q _ => ∃ (i lo : Int) (hi : Option Int), vs = [.int i, .int lo, (match hi with | some j => .int j | none => .non)] ∧ Q (.bl (decide (lo ≤ i ∧ ∀ j, hi = some j → i ≤ j))) H
theorem G_is_between (T : Top K mg) : FnOk P w K mg base CX0 2 T.f_is_between T.fd_is_between ["value", "low", "high"] sp_is_between := by
  refine T.F_is_between.ok sc_is_between (fun vs H Q E h => by obtain ⟨i, lo, hi, rfl, _⟩ := h; rfl) (fun cdv A outer s H vs Q E hr h => ?_)
  obtain ⟨i, lo, hi, rfl, q⟩ := h
  refine ⟨_, PSs.nox (pss_one (ps_ret (pe_and (pe_call (G_is_whole (P := P) T) (hr.mono (by decide)) (by rfl) T.g_is_whole T.F_is_whole.kp T.b_is_whole .nil pass0 (pa_cons (pv 0) pa_nil)) (pe_and (pe_cmpR op_le (pv 1) (pv 0) (nomark _)) (pe_one (pe_or (pe_cmpR op_isN (pv 2) pe_non (nomark _)) (pe_one (pe_cmpR op_le (pv 0) (pv 2) (nomark _))))))))), ?_⟩
  refine ⟨_, rfl, i, rfl, true, rfl, iteT ?_⟩
  refine ⟨_, rfl, _, rfl, _, _, rfl, rfl, _, rfl, ite2 (fun e => ?_) (fun e => ?_)⟩
  · have e1 : lo ≤ i := of_decide_eq_true e
    cases hi with
    | none =>
      refine ⟨_, rfl, rfl, _, rfl, iteT ?_⟩
      rw [decide_eq_true ⟨e1, fun j h => nomatch h⟩] at q
      exact q
    | some j =>
      refine ⟨_, rfl, rfl, _, rfl, iteF ⟨_, rfl, _, rfl, _, _, rfl, rfl, ?_⟩⟩
      have e2 : decide (lo ≤ i ∧ ∀ j', some j = some j' → i ≤ j') = decide (i ≤ j) := by
        by_cases h : i ≤ j
        · rw [decide_eq_true h, decide_eq_true]
          exact ⟨e1, fun j' e => by cases e; exact h⟩
        · rw [decide_eq_false h, decide_eq_false]
          exact fun z => h (z.2 j rfl)
      rw [e2] at q
      exact q
  · have e1 : ¬ lo ≤ i := fun h => e (decide_eq_true h)
    rw [decide_eq_false fun z => e1 z.1] at q
    exact q
end
end My

set_option exponentiation.threshold 100000
namespace My
open PySem PySem.Spec PyProof.Rows L2 Pre
section
variable {P : Program} {w : World} {K : PySem.W.Frag} {mg : Str → Option Value} {base : Heap}
/-! ### the law's draws -/
/-- a generator: its count is at most n -/
def GenAt (H : Hp) (g : Addr) (n : Nat) : Prop := ∃ x y z : Int, H g = some (.lst [.int x, .int y, .int z]) ∧ 0 ≤ z ∧ z ≤ (n : Int)
/-- all but one thing stand as they stood -/
def But (g : Addr) (H H' : Hp) : Prop := ∀ b o, b ≠ g → H b = some o → H' b = some o
theorem But.refl {g : Addr} {H : Hp} : But g H H := fun _ _ _ h => h
theorem But.trans {g : Addr} {H H1 H2 : Hp} (a : But g H H1) (b : But g H1 H2) : But g H H2 := fun c o n h => b c o n (a c o n h)
theorem But.same {g : Addr} {H H1 H2 : Hp} (a : But g H H1) (b : Same H1 H2) : But g H H2 := fun c o n h => b c o (a c o n h)
theorem But.of {g : Addr} {H H1 : Hp} (b : Same H H1) : But g H H1 := fun c o _ h => b c o h
theorem But.upd {g : Addr} {H H1 : Hp} {o : HO} (a : But g H H1) : But g H (upd H1 g o) := fun c u n h => by
  rw [upd_ne n]
  exact a c u n h
theorem But.free {g : Addr} {H H1 : Hp} (a : But g H H1) {p : Addr} (n : p ≠ g) (h : H1 p = none) : H p = none := by
  cases e : H p with
  | none => rfl
  | some o => rw [a p o n e] at h; cases h
/-- what is changed was not there at first -/
theorem But.fresh {g : Addr} {H H1 H2 : Hp} (s : Same H H1) (n : H g = none) (b : But g H1 H2) : Same H H2 := fun c o h => b c o (ne_of_none h n) (s c o h)
theorem GenAt.mono {H : Hp} {g : Addr} {n m : Nat} (h : GenAt H g n) (l : n ≤ m) : GenAt H g m := by
  obtain ⟨x, y, z, a, b, c⟩ := h
  exact ⟨x, y, z, a, b, by omega⟩
theorem GenAt.same {H H' : Hp} {g : Addr} {n : Nat} (h : GenAt H g n) (s : Same H H') : GenAt H' g n := by
  obtain ⟨x, y, z, a, b⟩ := h
  exact ⟨x, y, z, s _ _ a, b⟩
theorem GenAt.ne {H : Hp} {g : Addr} {n : Nat} {p : Addr} (h : GenAt H g n) (np : H p = none) : p ≠ g := by
  obtain ⟨x, y, z, a, _⟩ := h
  exact (ne_of_none a np).symm
theorem small_2900 {b : Int} (h : b ≤ 2 ^ 60) : b < 2 ^ 2900 := by omega
theorem pow_pos' (w : Nat) : (0 : Int) < 2 ^ w := Int.pow_pos (by decide)
theorem pow2_le {k m : Nat} (h : k ≤ m) : (2 : Int) ^ k ≤ 2 ^ m := by
  have e := Nat.pow_le_pow_right (show 0 < 2 by decide) h
  have e2 : ((2 ^ k : Nat) : Int) ≤ ((2 ^ m : Nat) : Int) := Int.ofNat_le.mpr e
  rw [Int.natCast_pow, Int.natCast_pow] at e2
  exact e2
def sp_law_cell (K : PySem.W.Frag) : Sp := fun vs H Q _ => ∃ (a : Addr) (ns : List Int) (i : Nat), vs = [.ref a, .int i] ∧ SqL K H a (ns.map V.int) ∧ ∀ (n : Int) H', Same H H' → Q (.int n) H'
theorem G_law_cell (T : Top K mg) : FnOk P w K mg base CX0 1 T.f_law_cell T.fd_law_cell ["_law_script", "_law_index"] (sp_law_cell K) := by
  refine T.F_law_cell.ok sc_law_cell (fun vs H Q E h => by obtain ⟨a, ns, i, rfl, _⟩ := h; rfl) (fun cdv A outer s H vs Q E hr h => ?_)
  obtain ⟨a, ns, i, rfl, hS, q⟩ := h
  refine ⟨_, PSs.nox (pss_cons (ps_if (pt_cmpR op_lt (pv 1) (pe_callB (k_len K rfl) (by rfl) T.n_len (by decide +kernel) (pa_cons (pv 0) pa_nil)) (nomark _))
    (pss_one (ps_ret (pe_ix (k_ixL K rfl) (pv 0) (pv 1) (fun _ _ => rfl))))
    pss_nil)
  (pss_one (ps_ret (pe_op op_mod (pe_callB (k_sum K rfl rfl) (by rfl) T.n_sum (by decide +kernel) (pa_cons (pe_slice (k_slL K rfl) (pv 0) po_none (po_some pe_int)) pa_nil)) pe_int)))), ?_⟩
  refine ⟨_, rfl, _, rfl, a, _, rfl, .inl hS, _, _, rfl, rfl, _, rfl, ite2 (fun e => ?_) (fun e => ?_)⟩
  · have e1 : (i : Int) < (((ns.map V.int).length : Nat) : Int) := of_decide_eq_true e
    rw [List.length_map] at e1
    have hi : i < ns.length := by omega
    refine ⟨_, rfl, _, rfl, a, _, _, .int ns[i], rfl, rfl, hS, atI_nat (by rw [List.getElem?_map, List.getElem?_eq_getElem hi]; rfl), ?_⟩
    exact q _ _ (Same.refl _)
  · refine ⟨_, rfl, _, rfl, a, _, rfl, hS, fun p np => ?_⟩
    have ec : ∃ ms : List Int, cutV (ns.map V.int) none (some 1) = ms.map V.int := by
      unfold cutV
      exact ⟨(ns.drop (HT.sIx (ns.map V.int).length 0 none)).take (HT.sIx (ns.map V.int).length (ns.map V.int).length (some 1) - HT.sIx (ns.map V.int).length 0 none), by rw [List.map_take, List.map_drop]⟩
    obtain ⟨ms, em⟩ := ec
    refine ⟨p, ms, rfl, .inl (.inl (by rw [upd_same, em])), _, _, rfl, rfl, (by show (0 : Int) < 1000003; decide), ?_⟩
    exact q _ _ (same_upd np)
theorem cmul_mod (x m j : Int) (h0 : 0 < m) (h1 : m ≤ 2 ^ 60) : CMul (x % m) j := by
  have a := Int.emod_nonneg x (show m ≠ 0 by omega)
  have b := Int.emod_lt_of_pos x h0
  exact .inl ⟨by omega, by omega⟩
def sp_law_hash : Sp := fun vs H Q _ => ∃ i j : Int, vs = [.int i, .int j] ∧ 0 ≤ j ∧ j < 2 ^ 60 ∧ ∀ n : Int, Q (.int n) H
theorem G_law_hash (T : Top K mg) : FnOk P w K mg base CX0 1 T.f_law_hash T.fd_law_hash ["_law_seed", "_law_index"] sp_law_hash := by
  refine T.F_law_hash.ok sc_law_hash (fun vs H Q E h => by obtain ⟨i, j, rfl, _⟩ := h; rfl) (fun cdv A outer s H vs Q E hr h => ?_)
  obtain ⟨i, j, rfl, h0, h1, q⟩ := h
  refine ⟨_, PSs.nox (pss_cons (ps_set (i := 2) sc_law_hash.nd rfl (by first | exact Or.inl rfl | exact Or.inr rfl) (pe_op op_mod (pe_callTy call_int1 (by rfl) T.n_int (by decide +kernel) (pa_cons (pe_op op_add (pe_op op_add (pe_op op_add (pe_op op_mul (pv 0) pe_int) (pe_op op_mul (pe_op op_mul pe_int (pv 1)) (pv 1))) (pv 1)) pe_int) pa_nil)) pe_int))
  (pss_cons (ps_set (i := 2) sc_law_hash.nd rfl (by first | exact Or.inl rfl | exact Or.inr rfl) (pe_op op_mod (pe_callTy call_int1 (by rfl) T.n_int (by decide +kernel) (pa_cons (pe_op op_add (pe_op op_mul (pv 2) (pv 2)) pe_int) pa_nil)) pe_int))
  (pss_one (ps_ret (pe_op op_mod (pe_callTy call_int1 (by rfl) T.n_int (by decide +kernel) (pa_cons (pe_op op_mul (pv 2) pe_int) pa_nil)) pe_int))))), ?_⟩
  refine ⟨_, rfl, _, _, rfl, rfl, .inr ⟨by decide, by decide⟩, _, rfl, _, _, rfl, rfl, .inl ⟨by decide, by decide⟩, _, rfl, _, _, rfl, rfl, .inr ⟨by omega, by omega⟩, _, _, rfl, rfl, _, rfl, _, _, rfl, rfl, _, _, rfl, rfl,
    .inl ⟨_, rfl, _, _, rfl, rfl, (by show (0 : Int) < _; decide), ?_⟩⟩
  refine ⟨_, rfl, _, rfl, _, _, rfl, rfl, cmul_mod _ _ _ (by decide) (by decide), _, _, rfl, rfl, .inl ⟨_, rfl, _, _, rfl, rfl, (by show (0 : Int) < _; decide), ?_⟩⟩
  refine ⟨_, rfl, _, _, rfl, rfl, .inr ⟨by decide, by decide⟩, .inl ⟨_, rfl, _, _, rfl, rfl, (by show (0 : Int) < _; decide), ?_⟩⟩
  exact q _

def sp_law_generator (K : PySem.W.Frag) : Sp := fun vs H Q _ => ∃ (a : Addr) (ns : List Int) (i : Nat), vs = [.ref a, .int i] ∧ SqL K H a (ns.map V.int) ∧ ∀ H' g, Same H H' → H g = none → GenAt H' g (1000 * i) → Q (.ref g) H'
theorem G_law_generator (T : Top K mg) : FnOk P w K mg base CX0 2 T.f_law_generator T.fd_law_generator ["_law_script", "_law_index"] (sp_law_generator K) := by
  refine T.F_law_generator.ok sc_law_generator (fun vs H Q E h => by obtain ⟨a, ns, i, rfl, _⟩ := h; rfl) (fun cdv A outer s H vs Q E hr h => ?_)
  obtain ⟨a, ns, i, rfl, hS, q⟩ := h
  refine ⟨_, PSs.nox (pss_cons (ps_set (i := 2) sc_law_generator.nd rfl (by first | exact Or.inl rfl | exact Or.inr rfl) (pe_call (G_law_cell (P := P) T) (hr.mono (by decide)) (by rfl) T.g_law_cell T.F_law_cell.kp T.b_law_cell .nil pass0 (pa_cons (pv 0) (pa_cons (pv 1) pa_nil))))
  (pss_one (ps_ret (pe_lst (pa_cons (pe_op op_mod (pe_callTy call_int1 (by rfl) T.n_int (by decide +kernel) (pa_cons (pe_callB (call_max2 rfl) (by rfl) T.n_max (by decide +kernel) (pa_cons (pe_op op_sub (pv 2) (pe_op op_powW pe_int pe_int)) (pa_cons pe_int pa_nil))) pa_nil)) (pe_op op_powW (pe_op op_powW pe_int pe_int) pe_int)) (pa_cons (pe_op op_mod (pe_callTy call_int1 (by rfl) T.n_int (by decide +kernel) (pa_cons (pv 2) pa_nil)) pe_int) (pa_cons (pe_op op_mul pe_int (pv 1)) pa_nil))))))), ?_⟩
  refine ⟨_, rfl, _, rfl, a, ns, i, rfl, hS, fun n H1 s1 => ?_⟩
  refine ⟨_, rfl, _, _, rfl, rfl, ⟨by decide, by decide +kernel⟩, _, _, rfl, rfl, _, _, rfl, .inl ⟨_, rfl, _, _, rfl, rfl, ⟨by decide, by decide +kernel⟩, _, _, rfl, rfl, ⟨by decide, by decide +kernel⟩, _, _, rfl, rfl, (by show (0 : Int) < _; decide +kernel), ?_⟩⟩
  refine ⟨_, rfl, .inl ⟨_, rfl, _, _, rfl, rfl, (by show (0 : Int) < _; decide), ?_⟩⟩
  refine ⟨_, rfl, _, _, rfl, rfl, .inl ⟨by decide, by decide⟩, (show 3 ≤ sizeLine by decide), fun g ng => ?_⟩
  exact q _ g (s1.trans (same_upd ng)) (s1.free ng) ⟨_, _, _, upd_same, by omega, by omega⟩
def sp_law_random : Sp := fun vs H Q _ => ∃ (g : Addr) (b : Int) (n : Nat), vs = [.ref g, .int b] ∧ GenAt H g n ∧ n ≤ 10 ^ 12 ∧ 0 < b ∧ b < 2 ^ 2900 ∧ ∀ (d : Int) H', 0 ≤ d → d < b → GenAt H' g (n + 100) → But g H H' → Q (.int d) H'
theorem G_law_random (T : Top K mg) : FnOk P w K mg base CX0 2 T.f_law_random T.fd_law_random ["_law_generator_here", "_law_bound"] sp_law_random := by
  refine T.F_law_random.ok sc_law_random (fun vs H Q E h => by obtain ⟨g, b, n, rfl, _⟩ := h; rfl) (fun cdv A outer s H vs Q E hr h => ?_)
  obtain ⟨g, b, n, rfl, ⟨x, y, z, hg, z0, z1⟩, hn, b0, b1, q⟩ := h
  refine ⟨_, PSs.nox (pss_cons (ps_if (pt_cmpR op_gt (pe_ix (k_ixL K rfl) (pv 0) pe_int (fun _ _ => rfl)) pe_int (nomark _))
    (pss_cons (ps_set (i := 2) sc_law_random.nd rfl (by first | exact Or.inl rfl | exact Or.inr rfl) (pe_op op_mod (pe_callTy call_int1 (by rfl) T.n_int (by decide +kernel) (pa_cons (pe_ix (k_ixL K rfl) (pv 0) pe_int (fun _ _ => rfl)) pa_nil)) (pv 1)))
  (pss_cons (ps_asg (pe_op op_fdivW (pe_ix (k_ixL K rfl) (pv 0) pe_int (fun _ _ => rfl)) (pv 1)) (pg_sub (pv 0) pe_int set_list))
  (pss_one (ps_ret (pv 2)))))
    pss_nil)
  (pss_cons (ps_set (i := 2) sc_law_random.nd rfl (by first | exact Or.inl rfl | exact Or.inr rfl) pe_int)
  (pss_cons (ps_for PassesOwn.never rfl (pi_range1 (by rfl) T.n_range (pa_cons (pe_op op_add pe_int (pe_op op_fdivW (pe_bits (pv 1)) pe_int)) pa_nil)) (pg_name (i := 3) sc_law_random.nd rfl (by first | exact Or.inl rfl | exact Or.inr rfl))
    (pss_cons (ps_asg (pe_op op_add (pe_ix (k_ixL K rfl) (pv 0) pe_int (fun _ _ => rfl)) pe_int) (pg_sub (pv 0) pe_int set_list))
  (pss_one (ps_set (i := 2) sc_law_random.nd rfl (by first | exact Or.inl rfl | exact Or.inr rfl) (pe_op op_add (pe_op op_mul (pv 2) pe_int) (pe_call (G_law_hash (P := P) T) (hr.mono (by decide)) (by rfl) T.g_law_hash T.F_law_hash.kp T.b_law_hash .nil pass0 (pa_cons (pe_ix (k_ixL K rfl) (pv 0) pe_int (fun _ _ => rfl)) (pa_cons (pe_ix (k_ixL K rfl) (pv 0) pe_int (fun _ _ => rfl)) pa_nil))))))))
  (pss_one (ps_ret (pe_op op_mod (pe_callTy call_int1 (by rfl) T.n_int (by decide +kernel) (pa_cons (pv 2) pa_nil)) (pv 1))))))), ?_⟩
  have a0 : ∀ x y z : Int, atI [V.int x, .int y, .int z] 0 = some (.int x) := fun _ _ _ => rfl
  have a1 : ∀ x y z : Int, atI [V.int x, .int y, .int z] 1 = some (.int y) := fun _ _ _ => rfl
  have a2 : ∀ x y z : Int, atI [V.int x, .int y, .int z] 2 = some (.int z) := fun _ _ _ => rfl
  have hS : SqL K H g [.int x, .int y, .int z] := .inl (.inl hg)
  have nb : b.natAbs < 2 ^ 2900 := by
    have e : ((b.natAbs : Nat) : Int) < ((2 ^ 2900 : Nat) : Int) := by
      rw [Int.natCast_pow]
      omega
    exact Int.ofNat_lt.mp e
  refine ⟨_, rfl, g, _, 0, _, rfl, rfl, hS, a0 x y z, _, _, rfl, rfl, _, rfl, ite2 (fun e => ?_) (fun e => ?_)⟩
  · refine ⟨_, rfl, g, _, 0, _, rfl, rfl, hS, a0 x y z, .inl ⟨_, rfl, _, rfl, _, _, rfl, rfl, b0, ?_⟩⟩
    refine ⟨_, rfl, g, _, 0, _, rfl, rfl, hS, a0 x y z, _, rfl, _, _, rfl, rfl, wide_div b0 nb (by decide) (by decide), _, rfl, g, _, 0, 0, rfl, rfl, hg, rfl, _, rfl, ?_⟩
    exact q _ _ (Int.emod_nonneg _ (by omega)) (Int.emod_lt_of_pos _ b0) ⟨_, _, _, upd_same, z0, by omega⟩ (But.upd But.refl)
  · have hb : Builtin.Int.intBits b ≤ 2900 := PyProof.Rows.intBits_le nb
    have hq0 : (0 : Int) ≤ ((Builtin.Int.intBits b : Nat) : Int) / 30 := Int.ediv_nonneg (Int.natCast_nonneg _) (by decide)
    have hq1 : ((Builtin.Int.intBits b : Nat) : Int) / 30 ≤ 97 := by omega
    refine ⟨_, rfl, _, rfl, _, _, rfl, rfl, ⟨by decide, by decide +kernel⟩, _, _, rfl, rfl, _, rfl, by omega, by omega, ?_⟩
    refine for_range (lo := 0) (n := (1 + ((Builtin.Int.intBits b : Nat) : Int) / 30).toNat) (fun i σ H1 => ∃ (d z' : Int) (v : Option V), σ = [some (.ref g), some (.int b), some (.int d), v] ∧ H1 g = some (.lst [.int x, .int y, .int z']) ∧ 0 ≤ z' ∧ z' ≤ (n : Int) + (i : Int) ∧ But g H H1)
      ⟨0, z, none, rfl, hg, z0, by omega, But.refl⟩ ?_ ?_
    · rintro i σ H1 hi ⟨d, z', v, rfl, hg1, y0, y1, b1⟩
      have hS1 : SqL K H1 g [.int x, .int y, .int z'] := .inl (.inl hg1)
      refine ⟨_, rfl, g, _, 2, _, rfl, rfl, hS1, a2 x y z', _, _, rfl, rfl, _, rfl, g, _, 2, 2, rfl, rfl, hg1, rfl, ?_⟩
      have hS2 : SqL K (upd H1 g (.lst [.int x, .int y, .int (z' + 1)])) g [.int x, .int y, .int (z' + 1)] := .inl (.inl upd_same)
      refine ⟨_, rfl, _, _, rfl, rfl, .inr ⟨by decide, by decide⟩, _, rfl, g, _, 1, _, rfl, rfl, hS2, a1 _ _ _, _, rfl, g, _, 2, _, rfl, rfl, hS2, a2 _ _ _, _, _, rfl, by omega, by omega, fun r => ?_⟩
      exact ⟨_, _, rfl, rfl, _, z' + 1, _, rfl, upd_same, by omega, by omega, But.upd b1⟩
    · rintro σ H1 ⟨d, z', v, rfl, hg1, y0, y1, b1⟩
      refine ⟨_, rfl, .inl ⟨_, rfl, _, rfl, _, _, rfl, rfl, b0, ?_⟩⟩
      exact q _ _ (Int.emod_nonneg _ (by omega)) (Int.emod_lt_of_pos _ b0) ⟨_, _, _, hg1, y0, by omega⟩ b1
/-- a comprehension over a range that draws whole numbers -/
theorem lc_drawR {lo : Int} {n : Nat} {j : Nat} {te : TE} {vs : List Nat} {σ : L2.St} {H1 : Hp} {D : Addr} {Qd : Hp → Prop} (g : Addr) (m step : Nat) (P : Int → Prop) (nD : H1 D = none) (hG : GenAt H1 g m) (hz : n < sizeLine)
    (hw : ∀ x, wipe ((wipe σ vs).set j (some x)) vs = wipe σ vs)
    (hs : ∀ (i : Nat) (H' : Hp), i < n → But g H1 H' → GenAt H' g (m + step * i) → ∀ Qt : V → Hp → Prop, (∀ (y : Int) H'', P y → But g H' H'' → GenAt H'' g (m + step * (i + 1)) → Qt (.int y) H'') → te ((wipe σ vs).set j (some (.int (lo + (i : Int))))) H' Qt)
    (hd : ∀ H' (ys : List Int), But g H1 H' → GenAt H' g (m + step * n) → H' D = some (.lst (ys.map V.int)) → ys.length = n → (∀ y ∈ ys, P y) → Qd H') :
    ∃ W : Nat → Nat → Hp → Prop, (∃ m, W 0 m (upd H1 D (.lst []))) ∧ ∀ i m H, W i m H →
      ((Itr lo n).stop i H ∧ Qd H) ∨ ((Itr lo n).go i H ∧ ∃ Nx : Hp → Prop, (∀ H', Nx H' → ∃ m', m' < m ∧ W (i + 1) m' H') ∧ ∀ x H', (Itr lo n).yld i H x H' → gName j x (wipe σ vs) H' fun σ2 H2 => wipe σ2 vs = wipe σ vs ∧ tYes σ2 H2 fun b H3 =>
        if b = true then te σ2 H3 fun y H4 => ∃ acc, H4 D = some (.lst acc) ∧ acc.length < sizeLine ∧ Nx (upd H4 D (.lst (acc ++ [y]))) else Nx H3) := by
  have nDg : D ≠ g := hG.ne nD
  refine lc_range (lo := lo) (n := n) (fun i H => ∃ ys : List Int, But g H1 H ∧ GenAt H g (m + step * i) ∧ H D = some (.lst (ys.map V.int)) ∧ ys.length = i ∧ ∀ y ∈ ys, P y)
    ⟨[], But.of (same_upd nD), hG.same (same_upd nD), upd_same, rfl, (fun _ h => nomatch h)⟩ ?_ ?_
  · rintro i H hi ⟨ys, b, hg, hD, hl, hP⟩
    refine ⟨hw _, ?_⟩
    unfold tYes
    dsimp only
    rw [if_pos (show true = true from rfl)]
    refine hs i H hi b hg _ fun y H2 py b2 hg2 => ?_
    refine ⟨_, b2 _ _ nDg hD, by rw [List.length_map]; omega, ys ++ [y], ?_, ?_, ?_, ?_, ?_⟩
    · intro c o nc hc
      rw [upd_ne (ne_of_none hc nD)]
      exact b2 _ _ nc (b _ _ nc hc)
    · obtain ⟨x1, x2, x3, e1, e2⟩ := hg2
      exact ⟨x1, x2, x3, by rw [upd_ne nDg.symm]; exact e1, e2⟩
    · rw [upd_same, List.map_append]
      rfl
    · rw [List.length_append, hl]
      rfl
    · intro z hz
      rcases List.mem_append.mp hz with hz | hz
      · exact hP z hz
      · rw [List.mem_singleton.mp hz]
        exact py
  · rintro H ⟨ys, b, hg, hD, hl, hP⟩
    exact hd H ys b hg hD hl hP
end
end My

namespace My
open PySem PySem.Spec PyProof.Rows L2 Pre
/-- a comprehension over a list of whole numbers that draws whole numbers -/
theorem lc_drawL {K : PySem.W.Frag} {a : Addr} {xs : List Int} {j : Nat} {te : TE} {vs : List Nat} {σ : L2.St} {H1 : Hp} {D : Addr} {Qd : Hp → Prop} (g : Addr) (m step : Nat) (P : Int → Prop) (nD : H1 D = none) (hG : GenAt H1 g m) (hA : H1 a = some (.lst (xs.map V.int))) (ag : a ≠ g) (hz : xs.length < sizeLine)
    (hw : ∀ x, wipe ((wipe σ vs).set j (some x)) vs = wipe σ vs)
    (hs : ∀ (i : Nat) (x : Int) (H' : Hp), xs[i]? = some x → But g H1 H' → GenAt H' g (m + step * i) → ∀ Qt : V → Hp → Prop, (∀ (y : Int) H'', P y → But g H' H'' → GenAt H'' g (m + step * (i + 1)) → Qt (.int y) H'') → te ((wipe σ vs).set j (some (.int x))) H' Qt)
    (hd : ∀ H' (ys : List Int), But g H1 H' → GenAt H' g (m + step * xs.length) → H' D = some (.lst (ys.map V.int)) → ys.length = xs.length → (∀ y ∈ ys, P y) → Qd H') :
    ∃ W : Nat → Nat → Hp → Prop, (∃ m, W 0 m (upd H1 D (.lst []))) ∧ ∀ i m H, W i m H →
      ((Itl K a).stop i H ∧ Qd H) ∨ ((Itl K a).go i H ∧ ∃ Nx : Hp → Prop, (∀ H', Nx H' → ∃ m', m' < m ∧ W (i + 1) m' H') ∧ ∀ x H', (Itl K a).yld i H x H' → gName j x (wipe σ vs) H' fun σ2 H2 => wipe σ2 vs = wipe σ vs ∧ tYes σ2 H2 fun b H3 =>
        if b = true then te σ2 H3 fun y H4 => ∃ acc, H4 D = some (.lst acc) ∧ acc.length < sizeLine ∧ Nx (upd H4 D (.lst (acc ++ [y]))) else Nx H3) := by
  have nDg : D ≠ g := hG.ne nD
  have aD : a ≠ D := ne_of_none hA nD
  refine lc_list (K := K) (a := a) (xs := xs.map V.int) (fun i H => ∃ ys : List Int, But g H1 H ∧ GenAt H g (m + step * i) ∧ H D = some (.lst (ys.map V.int)) ∧ ys.length = i ∧ ∀ y ∈ ys, P y)
    ⟨[], But.of (same_upd nD), hG.same (same_upd nD), upd_same, rfl, (fun _ h => nomatch h)⟩ (fun i H _ ⟨_, b, _⟩ => .inl (.inl (b _ _ ag hA))) ?_ ?_
  · rintro i v H hi ⟨ys, b, hg, hD, hl, hP⟩
    obtain ⟨x, hx, rfl⟩ := int_at hi
    have hil := (List.getElem?_eq_some_iff.mp hx).1
    refine ⟨hw _, ?_⟩
    unfold tYes
    dsimp only
    rw [if_pos (show true = true from rfl)]
    refine hs i x H hx b hg _ fun y H2 py b2 hg2 => ?_
    refine ⟨_, b2 _ _ nDg hD, by rw [List.length_map]; omega, ys ++ [y], ?_, ?_, ?_, ?_, ?_⟩
    · intro c o nc hc
      rw [upd_ne (ne_of_none hc nD)]
      exact b2 _ _ nc (b _ _ nc hc)
    · obtain ⟨x1, x2, x3, e1, e2⟩ := hg2
      exact ⟨x1, x2, x3, by rw [upd_ne nDg.symm]; exact e1, e2⟩
    · rw [upd_same, List.map_append]
      rfl
    · rw [List.length_append, hl]
      rfl
    · intro z hz
      rcases List.mem_append.mp hz with hz | hz
      · exact hP z hz
      · rw [List.mem_singleton.mp hz]
        exact py
  · rintro H ⟨ys, b, hg, hD, hl, hP⟩
    rw [List.length_map] at hg hl
    exact hd H ys b hg hD hl hP
end My

namespace My
open PySem PySem.Spec PyProof.Rows L2 Pre
/-- a comprehension over a list that makes new things: R tells what is known of the i-th -/
theorem lc_relL {K : PySem.W.Frag} {a : Addr} {xs : List V} {j : Nat} {te : TE} {vs : List Nat} {σ : L2.St} {H1 : Hp} {D : Addr} {Qd : Hp → Prop} (R : Nat → V → Hp → Prop) (nD : H1 D = none) (hS : SqL K H1 a xs) (hz : xs.length < sizeLine)
    (mono : ∀ (i : Nat) (y : V) (H H' : Hp), Pre.Off D H H' → R i y H → R i y H') (hw : ∀ x, wipe ((wipe σ vs).set j (some x)) vs = wipe σ vs)
    (hs : ∀ (i : Nat) (x : V) (H' : Hp) (zs : List V), xs[i]? = some x → Same H1 H' → H' D = some (.lst zs) → ∀ Qt : V → Hp → Prop, (∀ y H'', Same H' H'' → R i y H'' → Qt y H'') → te ((wipe σ vs).set j (some x)) H' Qt)
    (hd : ∀ H' ys, Same H1 H' → H' D = some (.lst ys) → ys.length = xs.length → (∀ (i : Nat) (y : V), ys[i]? = some y → R i y H') → Qd H') :
    ∃ W : Nat → Nat → Hp → Prop, (∃ m, W 0 m (upd H1 D (.lst []))) ∧ ∀ i m H, W i m H →
      ((Itl K a).stop i H ∧ Qd H) ∨ ((Itl K a).go i H ∧ ∃ Nx : Hp → Prop, (∀ H', Nx H' → ∃ m', m' < m ∧ W (i + 1) m' H') ∧ ∀ x H', (Itl K a).yld i H x H' → gName j x (wipe σ vs) H' fun σ2 H2 => wipe σ2 vs = wipe σ vs ∧ tYes σ2 H2 fun b H3 =>
        if b = true then te σ2 H3 fun y H4 => ∃ acc, H4 D = some (.lst acc) ∧ acc.length < sizeLine ∧ Nx (upd H4 D (.lst (acc ++ [y]))) else Nx H3) := by
  refine lc_list (K := K) (a := a) (xs := xs) (RelPv R H1 D) ⟨[], same_upd nD, upd_same, rfl, fun k y h => by simp at h⟩ (fun i H _ ⟨_, s, _⟩ => s.seq hS) ?_ ?_
  · rintro i x H hx ⟨ys, s, hD, hl, hR⟩
    have hi : i < xs.length := (List.getElem?_eq_some_iff.mp hx).1
    refine ⟨hw _, ?_⟩
    unfold tYes
    dsimp only
    rw [if_pos (show true = true from rfl)]
    refine hs i x H ys hx s hD _ fun y H4 s4 r4 => ?_
    refine ⟨ys, s4 _ _ hD, by omega, ys ++ [y], same_over nD (s.trans s4), upd_same, by rw [List.length_append, hl]; rfl, fun k z hz => ?_⟩
    have off : Pre.Off D H4 (upd H4 D (.lst (ys ++ [y]))) := fun b o nb h => by rw [upd_ne nb]; exact h
    by_cases hk : k < ys.length
    · rw [List.getElem?_append_left hk] at hz
      exact mono k z H _ (fun b o nb h => off b o nb (s4 b o h)) (hR k z hz)
    · rw [List.getElem?_append_right (by omega)] at hz
      have hk2 : k - ys.length = 0 := by
        have h2 := (List.getElem?_eq_some_iff.mp hz).1
        rw [List.length_singleton] at h2
        omega
      rw [hk2] at hz
      cases hz
      have ek : k = i := by omega
      rw [ek]
      exact mono i y H4 _ off r4
  · rintro H ⟨ys, s, hD, hl, hR⟩
    exact hd H ys s hD hl hR
/-- a list of lists of whole numbers -/
def RowsIn (H : Hp) (p : Addr) (rows : List (List Int)) : Prop := ∃ as : List Addr, H p = some (.lst (as.map V.ref)) ∧ as.length = rows.length ∧ ∀ (i : Nat) (a : Addr) (r : List Int), as[i]? = some a → rows[i]? = some r → H a = some (.lst (r.map V.int))
theorem RowsIn.same {H H' : Hp} {p : Addr} {rows : List (List Int)} (h : RowsIn H p rows) (s : Same H H') : RowsIn H' p rows := by
  obtain ⟨as, h1, h2, h3⟩ := h
  exact ⟨as, s _ _ h1, h2, fun i a r ha hr => s _ _ (h3 i a r ha hr)⟩
section
variable {X : Cx}
theorem huD {k : Nat} {A : Around} (r : Room k A) : A.units + 65 < cLine := by have := r.un; omega
theorem k_inD (K : PySem.W.Frag) (h : X.K = K) (hu : X.A.units + 65 < cLine) : OpR X (compareOp .In) (rInD K) := by subst h; exact op_inD hu
theorem k_notInD (K : PySem.W.Frag) (h : X.K = K) (hu : X.A.units + 65 < cLine) : OpR X (compareOp .NotIn) (rNotInD K) := by subst h; exact op_notInD hu
theorem k_indexD (K : PySem.W.Frag) (h : X.K = K) (hu : X.A.units + 65 < cLine) : MtR X "list.index" (rIndexD K) := by subst h; exact mt_indexD hu
end
/-- rows as data -/
def rowD (r : List Int) : PyData := .list (r.map PyData.int)
theorem rows_dp {K : PySem.W.Frag} {H : Hp} : ∀ {as : List Addr} {rows : List (List Int)}, as.length = rows.length → (∀ (i : Nat) (a : Addr) (r : List Int), as[i]? = some a → rows[i]? = some r → H a = some (.lst (r.map V.int))) → DpAll K H (as.map V.ref) (rows.map rowD)
  | [], [], _, _ => .nil
  | [], _ :: _, h, _ => by simp at h
  | _ :: _, [], h, _ => by simp at h
  | a :: as, r :: rows, h, k => .cons (.lst (.inl (.inl (k 0 a r rfl rfl))) (Pre.dp_ints r)) (rows_dp (by simpa using h) fun i t q ht hq => k (i + 1) t q (by simpa using ht) (by simpa using hq))
theorem rowD_eqv (r q : List Int) : PyData.eqv (rowD r) (rowD q) = decide (r = q) := by
  unfold rowD
  rw [PyData.eqv, eqv_ints]
theorem rows_shaped (rows : List (List Int)) : SeqAt.shaped (.list (rows.map rowD)) = true := by
  have h1 : ∀ l : List (List Int), PyData.canLayAll0 (l.map rowD) = true := fun l => by
    induction l with
    | nil => rfl
    | cons r l ih =>
      show (PyData.canLay0 (rowD r) && PyData.canLayAll0 (l.map rowD)) = true
      rw [ih]
      unfold rowD
      rw [PyData.canLay0, lay_ints]
      rfl
  have h2 : ∀ l : List (List Int), PyData.depthAll (l.map rowD) ≤ 1 := fun l => by
    induction l with
    | nil => simp [PyData.depthAll]
    | cons r l ih =>
      show PyData.depthAll (rowD r :: l.map rowD) ≤ 1
      rw [PyData.depthAll]
      unfold rowD at *
      rw [PyData.depth, depth_ints]
      omega
  show (PyData.canLay0 (.list (rows.map rowD)) && decide (PyData.depth (.list (rows.map rowD)) ≤ 64)) = true
  rw [Bool.and_eq_true]
  have := h2 rows
  exact ⟨by rw [PyData.canLay0]; exact h1 rows, decide_eq_true (by rw [PyData.depth]; omega)⟩
end My

namespace My
open PySem PySem.Spec PyProof.Rows L2 Pre
/-! ### min and max of a list of pairs of whole numbers -/
def pairD (p : Int × Int) : PyData := .tuple [.int p.1, .int p.2]
def ltP2 (p q : Int × Int) : Prop := p.1 < q.1 ∨ (p.1 = q.1 ∧ p.2 < q.2)
instance (p q : Int × Int) : Decidable (ltP2 p q) := by unfold ltP2; infer_instance
theorem pair_lt (p q : Int × Int) : PySem.W.dataLt (pairD p) (pairD q) = decide (ltP2 p q) := PySem.W.dataLt_ii p.1 p.2 q.1 q.2
theorem ltP2_trans {p q r : Int × Int} (h : ¬ ltP2 q p) (k : ¬ ltP2 r q) : ¬ ltP2 r p := by
  unfold ltP2 at *
  omega
def minP (p : Int × Int) (ps : List (Int × Int)) : Int × Int := ps.foldl (fun a y => if ltP2 y a then y else a) p
def maxP (p : Int × Int) (ps : List (Int × Int)) : Int × Int := ps.foldl (fun a y => if ltP2 a y then y else a) p
theorem minP_data : ∀ (ps : List (Int × Int)) (p : Int × Int), PySem.W.minD (pairD p) (ps.map pairD) = pairD (minP p ps)
  | [], _ => rfl
  | q :: ps, p => by
    show PySem.W.minD (if PySem.W.dataLt (pairD q) (pairD p) = true then pairD q else pairD p) (ps.map pairD) = pairD (minP (if ltP2 q p then q else p) ps)
    rw [pair_lt]
    by_cases h : ltP2 q p
    · rw [decide_eq_true h, if_pos rfl, if_pos h, minP_data ps q]
    · rw [decide_eq_false h, if_neg (by decide), if_neg h, minP_data ps p]
theorem maxP_data : ∀ (ps : List (Int × Int)) (p : Int × Int), PySem.W.maxD (pairD p) (ps.map pairD) = pairD (maxP p ps)
  | [], _ => rfl
  | q :: ps, p => by
    show PySem.W.maxD (if PySem.W.dataLt (pairD p) (pairD q) = true then pairD q else pairD p) (ps.map pairD) = pairD (maxP (if ltP2 p q then q else p) ps)
    rw [pair_lt]
    by_cases h : ltP2 p q
    · rw [decide_eq_true h, if_pos rfl, if_pos h, maxP_data ps q]
    · rw [decide_eq_false h, if_neg (by decide), if_neg h, maxP_data ps p]
theorem minP_spec : ∀ (ps : List (Int × Int)) (p : Int × Int), minP p ps ∈ p :: ps ∧ ∀ q ∈ p :: ps, ¬ ltP2 q (minP p ps)
  | [], p => ⟨List.mem_cons_self, fun q hq => by
      rw [List.mem_singleton.mp hq]
      show ¬ ltP2 p p
      unfold ltP2
      omega⟩
  | r :: ps, p => by
    show minP (if ltP2 r p then r else p) ps ∈ _ ∧ ∀ q ∈ p :: r :: ps, ¬ ltP2 q (minP (if ltP2 r p then r else p) ps)
    by_cases h : ltP2 r p
    · rw [if_pos h]
      obtain ⟨h1, h2⟩ := minP_spec ps r
      refine ⟨List.mem_cons_of_mem _ h1, fun q hq => ?_⟩
      rcases List.mem_cons.mp hq with rfl | hq
      · have := h2 r List.mem_cons_self
        exact fun z => this (by unfold ltP2 at *; omega)
      · exact h2 q hq
    · rw [if_neg h]
      obtain ⟨h1, h2⟩ := minP_spec ps p
      refine ⟨?_, fun q hq => ?_⟩
      · rcases List.mem_cons.mp h1 with e | e
        · rw [e]; exact List.mem_cons_self
        · exact List.mem_cons_of_mem _ (List.mem_cons_of_mem _ e)
      · rcases List.mem_cons.mp hq with rfl | hq
        · exact h2 q List.mem_cons_self
        · rcases List.mem_cons.mp hq with rfl | hq
          · have := h2 p List.mem_cons_self
            exact fun z => this (by unfold ltP2 at *; omega)
          · exact h2 q (List.mem_cons_of_mem _ hq)
theorem maxP_spec : ∀ (ps : List (Int × Int)) (p : Int × Int), maxP p ps ∈ p :: ps ∧ ∀ q ∈ p :: ps, ¬ ltP2 (maxP p ps) q
  | [], p => ⟨List.mem_cons_self, fun q hq => by
      rw [List.mem_singleton.mp hq]
      show ¬ ltP2 p p
      unfold ltP2
      omega⟩
  | r :: ps, p => by
    show maxP (if ltP2 p r then r else p) ps ∈ _ ∧ ∀ q ∈ p :: r :: ps, ¬ ltP2 (maxP (if ltP2 p r then r else p) ps) q
    by_cases h : ltP2 p r
    · rw [if_pos h]
      obtain ⟨h1, h2⟩ := maxP_spec ps r
      refine ⟨List.mem_cons_of_mem _ h1, fun q hq => ?_⟩
      rcases List.mem_cons.mp hq with rfl | hq
      · have := h2 r List.mem_cons_self
        exact fun z => this (by unfold ltP2 at *; omega)
      · exact h2 q hq
    · rw [if_neg h]
      obtain ⟨h1, h2⟩ := maxP_spec ps p
      refine ⟨?_, fun q hq => ?_⟩
      · rcases List.mem_cons.mp h1 with e | e
        · rw [e]; exact List.mem_cons_self
        · exact List.mem_cons_of_mem _ (List.mem_cons_of_mem _ e)
      · rcases List.mem_cons.mp hq with rfl | hq
        · exact h2 q List.mem_cons_self
        · rcases List.mem_cons.mp hq with rfl | hq
          · have := h2 p List.mem_cons_self
            exact fun z => this (by unfold ltP2 at *; omega)
          · exact h2 q (List.mem_cons_of_mem _ hq)
theorem pairs_alike (ps : List (Int × Int)) : PySem.W.AlikeAll (ps.map pairD) := by
  refine ⟨fun x hx y hy => ?_, fun x hx => ?_⟩
  · obtain ⟨p, _, rfl⟩ := List.mem_map.mp hx
    obtain ⟨q, _, rfl⟩ := List.mem_map.mp hy
    rfl
  · obtain ⟨p, _, rfl⟩ := List.mem_map.mp hx
    exact fun z => nomatch z
theorem pairs_lay : ∀ ps : List (Int × Int), PyData.canLayAll0 (ps.map pairD) = true
  | [] => rfl
  | p :: ps => by simp [PyData.canLayAll0, PyData.canLay0, pairD, pairs_lay ps]
theorem pairs_depth : ∀ ps : List (Int × Int), PyData.depthAll (ps.map pairD) ≤ 2
  | [] => by simp [PyData.depthAll]
  | p :: ps => by
    have := pairs_depth ps
    simp only [List.map_cons, PyData.depthAll, pairD, PyData.depth]
    omega
/-- a list of pairs, at a -/
def PairsAt (K : PySem.W.Frag) (H : Hp) (a : Addr) (ps : List (Int × Int)) : Prop := ∃ as : List Addr, SqL K H a (as.map V.ref) ∧ as.length = ps.length ∧ ∀ (i : Nat) (t : Addr) (p : Int × Int), as[i]? = some t → ps[i]? = some p → SqT K H t [.int p.1, .int p.2]
theorem pairs_dp {K : PySem.W.Frag} {H : Hp} : ∀ {as : List Addr} {ps : List (Int × Int)}, as.length = ps.length → (∀ (i : Nat) (t : Addr) (p : Int × Int), as[i]? = some t → ps[i]? = some p → SqT K H t [.int p.1, .int p.2]) → DpAll K H (as.map V.ref) (ps.map pairD)
  | [], [], _, _ => .nil
  | [], _ :: _, h, _ => by simp at h
  | _ :: _, [], h, _ => by simp at h
  | a :: as, p :: ps, h, k => .cons (.tup (k 0 a p rfl rfl) (.cons (.int _) (.cons (.int _) .nil))) (pairs_dp (by simpa using h) fun i t q ht hq => k (i + 1) t q (by simpa using ht) (by simpa using hq))
def rMnP (K : PySem.W.Frag) (best : Int × Int → List (Int × Int) → Int × Int) : List V → Hp → VK → Prop := fun xs H Q => ∃ (a : Addr) (p : Int × Int) (ps : List (Int × Int)), xs = [.ref a] ∧ PairsAt K H a (p :: ps) ∧ ∀ t, SqT K H t [.int (best p ps).1, .int (best p ps).2] → Q (.ref t) H
section
variable {X : Cx} {K : PySem.W.Frag}
theorem pick {H : Hp} {s : Shared} {as : List Addr} {ps : List (Int × Int)} {its : List Value} {i : Nat} {v : Value} {h' : Heap} {bs cs : List Addr} {b : Int × Int} (hl : as.length = ps.length)
    (hT : ∀ (i : Nat) (t : Addr) (p : Int × Int), as[i]? = some t → ps[i]? = some p → SqT K H t [.int p.1, .int p.2]) (rv : Vals (as.map V.ref) its) (hr : ReadsAll s.heap its (ps.map pairD) cs) (hv : its.toArray[i]? = some v) (rd : Reads h' v (pairD b) bs)
    (hk : ∀ b o, s.heap.get? b = some o → h'.get? b = some o) : ∃ t, v = .ref t ∧ SqT K H t [.int b.1, .int b.2] := by
  have hv' : its[i]? = some v := by simpa using hv
  have hil : i < its.length := (List.getElem?_eq_some_iff.mp hv').1
  have hvl := rv.length
  rw [List.length_map] at hvl
  obtain ⟨u, hu, ru⟩ := rv.get (show (as.map V.ref)[i]? = some (.ref (as[i]'(by omega))) by rw [List.getElem?_map, List.getElem?_eq_getElem (by omega)]; rfl)
  rw [hv'] at hu
  cases hu
  have hp : ps[i]? = some (ps[i]'(by omega)) := List.getElem?_eq_getElem (by omega)
  obtain ⟨ds, r1, _, _, _⟩ := PySem.W.readsAll_at hr i v hv'
  have e1 : (ps.map pairD).getD i .none = pairD (ps[i]'(by omega)) := by
    rw [List.getD_eq_getElem?_getD, List.getElem?_map, hp]
    rfl
  rw [e1] at r1
  have e2 := PySem.SeqAt.Reads.unique (pairD b) _ v _ _ (by simp [pairD, PyData.canLay0, PyData.canLayAll0]) rd (Reads.keeps hk r1)
  have e3 : b = ps[i]'(by omega) := by
    unfold pairD at e2
    injection e2 with e2
    injection e2 with e4 e5
    injection e5 with e5 _
    injection e4 with e4
    injection e5 with e5
    exact Prod.ext e4 e5
  refine ⟨as[i]'(by omega), ru, ?_⟩
  rw [e3]
  exact hT i _ _ (List.getElem?_eq_getElem (by omega)) hp
theorem k_minP (K : PySem.W.Frag) (h : X.K = K) (hc : X.calm = true) (hu : X.A.units + 65 < cLine) : CallR X (.builtin "min") (rMnP K minP) := by
  subst h
  intro pins s σ H xs us Q I r h
  obtain ⟨a, p, ps, rfl, ⟨as, hS, hl, hT⟩, q⟩ := h
  obtain ⟨its, rv, hL, _⟩ := I.list hS
  rw [Vals.ref1 r]
  obtain ⟨cs, hr⟩ := Dp.readsAll I _ _ its (pairs_dp hl hT) rv
  have hd := pairs_depth (p :: ps)
  refine PySem.W.min_list_data (I.ok.hd hc) hL.isList (show ReadsAll s.heap its.toArray.toList (pairD p :: ps.map pairD) cs by simpa using hr) (pairs_alike (p :: ps)) (by rw [List.map_cons] at hd; omega) fun i v h' tk bs hv rd hk => ?_
  rw [minP_data] at rd
  obtain ⟨t, rfl, ht⟩ := pick hl hT rv hr hv rd hk
  exact ⟨.ref t, H, I.kept hk, rfl, q t ht⟩
theorem k_maxP (K : PySem.W.Frag) (h : X.K = K) (hc : X.calm = true) (hu : X.A.units + 65 < cLine) : CallR X (.builtin "max") (rMnP K maxP) := by
  subst h
  intro pins s σ H xs us Q I r h
  obtain ⟨a, p, ps, rfl, ⟨as, hS, hl, hT⟩, q⟩ := h
  obtain ⟨its, rv, hL, _⟩ := I.list hS
  rw [Vals.ref1 r]
  obtain ⟨cs, hr⟩ := Dp.readsAll I _ _ its (pairs_dp hl hT) rv
  have hd := pairs_depth (p :: ps)
  refine PySem.W.max_list_data (I.ok.hd hc) hL.isList (show ReadsAll s.heap its.toArray.toList (pairD p :: ps.map pairD) cs by simpa using hr) (pairs_alike (p :: ps)) (by rw [List.map_cons] at hd; omega) fun i v h' tk bs hv rd hk => ?_
  rw [maxP_data] at rd
  obtain ⟨t, rfl, ht⟩ := pick hl hT rv hr hv rd hk
  exact ⟨.ref t, H, I.kept hk, rfl, q t ht⟩
theorem huM {k : Nat} {A : Around} (r : Room k A) : A.units + 65 < cLine := by have := r.un; omega
end
end My

namespace My
open PySem PySem.Spec PyProof.Rows L2 Pre
/-! ### data in a heap: what is told of a value by lists and tuples that stand there (none of them frozen) -/
mutual
inductive Dt (H : Hp) : V → PyData → Prop
  | non : Dt H .non .none
  | bl (b : Bool) : Dt H (.bl b) (.bool b)
  | int (n : Int) : Dt H (.int n) (.int n)
  | str (x : Str) : Dt H (.str x) (.str x)
  | lst {a : Addr} {xs : List V} {ds : List PyData} : H a = some (.lst xs) → DtA H xs ds → Dt H (.ref a) (.list ds)
  | tup {a : Addr} {xs : List V} {ds : List PyData} : H a = some (.tup xs) → DtA H xs ds → Dt H (.ref a) (.tuple ds)
inductive DtA (H : Hp) : List V → List PyData → Prop
  | nil : DtA H [] []
  | cons {v : V} {vs : List V} {d : PyData} {ds : List PyData} : Dt H v d → DtA H vs ds → DtA H (v :: vs) (d :: ds)
end
mutual
theorem Dt.same {H H' : Hp} (s : Same H H') : ∀ {d : PyData} {v : V}, Dt H v d → Dt H' v d
  | .none, _, h => by cases h; exact .non
  | .bool _, _, h => by cases h; exact .bl _
  | .int _, _, h => by cases h; exact .int _
  | .str _, _, h => by cases h; exact .str _
  | .list _, _, h => by cases h with | lst a b => exact .lst (s _ _ a) (DtA.same s b)
  | .tuple _, _, h => by cases h with | tup a b => exact .tup (s _ _ a) (DtA.same s b)
  | .dict _, _, h => nomatch h
theorem DtA.same {H H' : Hp} (s : Same H H') : ∀ {ds : List PyData} {vs : List V}, DtA H vs ds → DtA H' vs ds
  | [], _, h => by cases h; exact .nil
  | _ :: _, _, h => by cases h with | cons a b => exact .cons (Dt.same s a) (DtA.same s b)
end
mutual
theorem Dt.dp {K : PySem.W.Frag} {H : Hp} : ∀ {d : PyData} {v : V}, Dt H v d → Dp K H v d
  | .none, _, h => by cases h; exact .non
  | .bool _, _, h => by cases h; exact .bl _
  | .int _, _, h => by cases h; exact .int _
  | .str _, _, h => by cases h; exact .str _
  | .list _, _, h => by cases h with | lst a b => exact .lst (.inl (.inl a)) (DtA.dp b)
  | .tuple _, _, h => by cases h with | tup a b => exact .tup (.inl (.inl a)) (DtA.dp b)
  | .dict _, _, h => nomatch h
theorem DtA.dp {K : PySem.W.Frag} {H : Hp} : ∀ {ds : List PyData} {vs : List V}, DtA H vs ds → DpAll K H vs ds
  | [], _, h => by cases h; exact .nil
  | _ :: _, _, h => by cases h with | cons a b => exact .cons (Dt.dp a) (DtA.dp b)
end
theorem DtA.len {H : Hp} : ∀ {ds : List PyData} {vs : List V}, DtA H vs ds → vs.length = ds.length
  | [], _, h => by cases h; rfl
  | _ :: _, _, h => by cases h with | cons a b => rw [List.length_cons, List.length_cons, DtA.len b]
theorem DtA.app {H : Hp} : ∀ {ds : List PyData} {vs : List V} {es : List PyData} {us : List V}, DtA H vs ds → DtA H us es → DtA H (vs ++ us) (ds ++ es)
  | [], _, _, _, h, k => by cases h; exact k
  | _ :: _, _, _, _, h, k => by cases h with | cons a b => exact .cons a (DtA.app b k)
theorem DtA.get {H : Hp} : ∀ {ds : List PyData} {vs : List V} {i : Nat} {d : PyData}, DtA H vs ds → ds[i]? = some d → ∃ v, vs[i]? = some v ∧ Dt H v d
  | [], _, _, _, _, k => by simp at k
  | _ :: _, _, 0, _, h, k => by
    cases h with
    | cons a b => rw [List.getElem?_cons_zero] at k; cases k; exact ⟨_, rfl, a⟩
  | _ :: _, _, i + 1, _, h, k => by
    cases h with
    | cons a b => rw [List.getElem?_cons_succ] at k; rw [List.getElem?_cons_succ]; exact DtA.get b k
theorem DtA.got {H : Hp} {ds : List PyData} {vs : List V} {i : Nat} {v : V} (h : DtA H vs ds) (k : vs[i]? = some v) : ∃ d, ds[i]? = some d ∧ Dt H v d := by
  have hi := (List.getElem?_eq_some_iff.mp k).1
  have hl := h.len
  obtain ⟨u, hu, d⟩ := h.get (List.getElem?_eq_getElem (show i < ds.length by omega))
  rw [k] at hu
  cases hu
  exact ⟨_, List.getElem?_eq_getElem (by omega), d⟩
theorem DtA.take {H : Hp} : ∀ {ds : List PyData} {vs : List V} (n : Nat), DtA H vs ds → DtA H (vs.take n) (ds.take n)
  | _, _, 0, _ => .nil
  | [], _, _ + 1, h => by cases h; exact .nil
  | _ :: _, _, n + 1, h => by cases h with | cons a b => exact .cons a (DtA.take n b)
theorem DtA.drop {H : Hp} : ∀ {ds : List PyData} {vs : List V} (n : Nat), DtA H vs ds → DtA H (vs.drop n) (ds.drop n)
  | _, _, 0, h => h
  | [], _, _ + 1, h => by cases h; exact .nil
  | _ :: _, _, n + 1, h => by cases h with | cons a b => exact DtA.drop n b
theorem DtA.rev {H : Hp} : ∀ {ds : List PyData} {vs : List V}, DtA H vs ds → DtA H vs.reverse ds.reverse
  | [], _, h => by cases h; exact .nil
  | _ :: _, _, h => by
    cases h with
    | cons a b => rw [List.reverse_cons, List.reverse_cons]; exact DtA.app (DtA.rev b) (.cons a .nil)
theorem DtA.ints {H : Hp} : ∀ ns : List Int, DtA H (ns.map V.int) (ns.map PyData.int)
  | [] => .nil
  | n :: r => .cons (.int n) (DtA.ints r)
theorem DtA.intsE {H : Hp} : ∀ {ns : List Int} {vs : List V}, DtA H vs (ns.map PyData.int) → vs = ns.map V.int
  | [], _, h => by cases h; rfl
  | n :: r, _, h => by
    cases h with
    | cons a b => cases a; rw [DtA.intsE b]; rfl
/-- a list of whole numbers -/
theorem Dt.ints {H : Hp} {a : Addr} {ns : List Int} (h : H a = some (.lst (ns.map V.int))) : Dt H (.ref a) (rowD ns) := .lst h (DtA.ints ns)
theorem Dt.intsE {H : Hp} {v : V} {ns : List Int} (h : Dt H v (rowD ns)) : ∃ a, v = .ref a ∧ H a = some (.lst (ns.map V.int)) := by
  unfold rowD at h
  cases h with
  | lst a b => rw [DtA.intsE b] at a; exact ⟨_, rfl, a⟩
theorem Dt.listE {H : Hp} {v : V} {ds : List PyData} (h : Dt H v (.list ds)) : ∃ a xs, v = .ref a ∧ H a = some (.lst xs) ∧ DtA H xs ds := by
  cases h with
  | lst a b => exact ⟨_, _, rfl, a, b⟩
theorem Dt.tupE {H : Hp} {v : V} {ds : List PyData} (h : Dt H v (.tuple ds)) : ∃ a xs, v = .ref a ∧ H a = some (.tup xs) ∧ DtA H xs ds := by
  cases h with
  | tup a b => exact ⟨_, _, rfl, a, b⟩
/-! ### what is owned (and changes) is left out -/
def rs (S : List Addr) (H : Hp) : Hp := fun a => if a ∈ S then none else H a
theorem rs_nil (H : Hp) : rs [] H = H := by funext a; simp [rs]
theorem rs_in {S : List Addr} {H : Hp} {a : Addr} (h : a ∈ S) : rs S H a = none := if_pos h
theorem rs_out {S : List Addr} {H : Hp} {a : Addr} (h : a ∉ S) : rs S H a = H a := if_neg h
theorem rs_some {S : List Addr} {H : Hp} {a : Addr} {o : HO} (h : rs S H a = some o) : a ∉ S ∧ H a = some o := by
  by_cases m : a ∈ S
  · rw [rs_in m] at h; cases h
  · rw [rs_out m] at h; exact ⟨m, h⟩
theorem rs_le {S : List Addr} {H : Hp} : Same (rs S H) H := fun _ _ h => (rs_some h).2
theorem rs_same {S : List Addr} {H H' : Hp} (s : Same H H') : Same (rs S H) (rs S H') := fun b o h => by
  obtain ⟨m, e⟩ := rs_some h
  rw [rs_out m]
  exact s b o e
theorem rs_upd {S : List Addr} {H : Hp} {p : Addr} {o : HO} (h : p ∈ S) : rs S (L2.upd H p o) = rs S H := by
  funext a
  by_cases m : a ∈ S
  · rw [rs_in m, rs_in m]
  · rw [rs_out m, rs_out m, upd_ne (fun e => m (by rw [e]; exact h))]
/-- all of them stand -/
def Has (S : List Addr) (H : Hp) : Prop := ∀ a ∈ S, ∃ o, H a = some o
theorem Has.nil {H : Hp} : Has [] H := fun _ h => nomatch h
theorem Has.same {S : List Addr} {H H' : Hp} (h : Has S H) (s : Same H H') : Has S H' := fun a m => by
  obtain ⟨o, e⟩ := h a m
  exact ⟨o, s a o e⟩
theorem Has.cons {S : List Addr} {H : Hp} {p : Addr} {o : HO} (h : Has S H) (e : H p = some o) : Has (p :: S) H := fun a m => by
  rcases List.mem_cons.mp m with rfl | m
  · exact ⟨o, e⟩
  · exact h a m
theorem Has.upd {S : List Addr} {H : Hp} {p : Addr} {o : HO} (h : Has S H) : Has S (L2.upd H p o) := fun a m => by
  by_cases e : a = p
  · subst e; exact ⟨o, upd_same⟩
  · rw [upd_ne e]; exact h a m
theorem Has.out {S : List Addr} {H : Hp} {p : Addr} (h : Has S H) (n : H p = none) : p ∉ S := fun m => by
  obtain ⟨o, e⟩ := h p m
  rw [n] at e
  cases e
theorem GenAt.has {H : Hp} {g : Addr} {n : Nat} (h : GenAt H g n) : Has [g] H := by
  obtain ⟨x, y, z, e, _⟩ := h
  exact Has.nil.cons e
/-- all but what is owned stays -/
def Sta (S : List Addr) (H H' : Hp) : Prop := Same (rs S H) (rs S H')
theorem Sta.of {S : List Addr} {H H' : Hp} (s : Same H H') : Sta S H H' := rs_same s
theorem Sta.trans {S : List Addr} {H H1 H2 : Hp} (a : Sta S H H1) (b : Sta S H1 H2) : Sta S H H2 := fun c o h => b c o (a c o h)
theorem Sta.at_ {S : List Addr} {H H' : Hp} (s : Sta S H H') {a : Addr} {o : HO} (m : a ∉ S) (h : H a = some o) : H' a = some o := (rs_some (s a o (by rw [rs_out m]; exact h))).2
theorem Sta.upd {S : List Addr} {H : Hp} {p : Addr} {o : HO} (h : p ∈ S) : Sta S H (L2.upd H p o) := fun c u e => by rw [rs_upd h]; exact e
theorem Sta.more {S : List Addr} {H H' : Hp} {p : Addr} (s : Sta S H H') : Sta (p :: S) H H' := fun c o h => by
  obtain ⟨m, e⟩ := rs_some h
  have m2 : c ∉ S := fun z => m (List.mem_cons_of_mem _ z)
  rw [rs_out m]
  exact s.at_ m2 e
theorem But.sta {g : Addr} {H H' : Hp} (b : But g H H') : Sta [g] H H' := fun c o h => by
  obtain ⟨m, e⟩ := rs_some h
  rw [rs_out m]
  exact b c o (fun z => m (by rw [z]; exact List.mem_cons_self)) e
/-- what was there ahead of a new thing does not speak of it -/
theorem under {S : List Addr} {H H' : Hp} {p : Addr} (n : H p = none) (s : Same H H') : Same (rs S H) (rs (p :: S) H') := fun c o h => by
  obtain ⟨m, e⟩ := rs_some h
  rw [rs_out (fun z => by
    rcases List.mem_cons.mp z with rfl | z
    · rw [n] at e; cases e
    · exact m z)]
  exact s c o e
theorem over {S : List Addr} {H : Hp} {p : Addr} : Same (rs (p :: S) H) (rs S H) := fun c o h => by
  obtain ⟨m, e⟩ := rs_some h
  rw [rs_out (fun z => m (List.mem_cons_of_mem _ z))]
  exact e
/-! ### a new list, a new tuple, a sum of lists -/
theorem dt_new {S : List Addr} {H : Hp} {p : Addr} {xs : List V} {ds : List PyData} (hS : Has S H) (n : H p = none) (h : DtA (rs S H) xs ds) : Dt (rs S (upd H p (.lst xs))) (.ref p) (.list ds) :=
  .lst (by rw [rs_out (hS.out n)]; exact upd_same) (h.same (rs_same (same_upd n)))
theorem dt_newT {S : List Addr} {H : Hp} {p : Addr} {xs : List V} {ds : List PyData} (hS : Has S H) (n : H p = none) (h : DtA (rs S H) xs ds) : Dt (rs S (upd H p (.tup xs))) (.ref p) (.tuple ds) :=
  .tup (by rw [rs_out (hS.out n)]; exact upd_same) (h.same (rs_same (same_upd n)))
theorem d_lst {S : List Addr} {H : Hp} {xs : List V} {ds : List PyData} {Q : VK} (hS : Has S H) (h : DtA (rs S H) xs ds) (hz : xs.length ≤ sizeLine) (k : ∀ p H', Same H H' → H p = none → H' p = some (.lst xs) → Dt (rs S H') (.ref p) (.list ds) → Q (.ref p) H') : xs.length ≤ sizeLine ∧ ∀ p, H p = none → Q (.ref p) (upd H p (.lst xs)) :=
  ⟨hz, fun p n => k p _ (same_upd n) n upd_same (dt_new hS n h)⟩
theorem d_tup {S : List Addr} {H : Hp} {xs : List V} {ds : List PyData} {Q : VK} (hS : Has S H) (h : DtA (rs S H) xs ds) (hz : xs.length ≤ sizeLine) (k : ∀ p H', Same H H' → H p = none → H' p = some (.tup xs) → Dt (rs S H') (.ref p) (.tuple ds) → Q (.ref p) H') : xs.length ≤ sizeLine ∧ ∀ p, H p = none → Q (.ref p) (upd H p (.tup xs)) :=
  ⟨hz, fun p n => k p _ (same_upd n) n upd_same (dt_newT hS n h)⟩
theorem d_cat {S : List Addr} {H : Hp} {v w : V} {ds es : List PyData} {Q : VK} (hS : Has S H) (hv : Dt (rs S H) v (.list ds)) (hw : Dt (rs S H) w (.list es)) (hz : ds.length + es.length ≤ sizeLine) (k : ∀ p H', Same H H' → H p = none → Dt (rs S H') (.ref p) (.list (ds ++ es)) → Q (.ref p) H') : rCat v w H Q := by
  obtain ⟨a, xs, rfl, ha, hx⟩ := hv.listE
  obtain ⟨b, ys, rfl, hb, hy⟩ := hw.listE
  exact ⟨a, b, xs, ys, rfl, rfl, (rs_some ha).2, (rs_some hb).2, by rw [hx.len, hy.len]; exact hz, fun p n => k p _ (same_upd n) n (dt_new hS n (hx.app hy))⟩
theorem d_eq {K : PySem.W.Frag} {H : Hp} {v w : V} {d e : PyData} {Q : VK} (hv : Dt H v d) (hw : Dt H w e) (sd : SeqAt.shaped d = true) (se : SeqAt.shaped e = true) (q : Q (.bl (PyData.eqv d e)) H) : rEqD K v w H Q := ⟨d, e, hv.dp, hw.dp, sd, se, q⟩
theorem d_ne {K : PySem.W.Frag} {H : Hp} {v w : V} {d e : PyData} {Q : VK} (hv : Dt H v d) (hw : Dt H w e) (sd : SeqAt.shaped d = true) (se : SeqAt.shaped e = true) (q : Q (.bl (!PyData.eqv d e)) H) : rNeD K v w H Q := ⟨d, e, hv.dp, hw.dp, sd, se, q⟩
/-! ### comprehensions -/
/-- what comes of an item: nothing, or data -/
def Out (S : List Addr) (H : Hp) : Option PyData → Option V → Prop
  | some d, some v => Dt (rs S H) v d
  | none, none => True
  | _, _ => False
def accP (S : List Addr) (H1 : Hp) (D : Addr) (ds : List PyData) (H : Hp) : Prop := Same H1 H ∧ ∃ ys, H D = some (.lst ys) ∧ DtA (rs (D :: S) H) ys ds
theorem acc_step {S : List Addr} {H1 : Hp} {D : Addr} {sel : List (Option PyData)} {i : Nat} {o : Option PyData} {H H4 : Hp} (nD : H1 D = none) (ho : sel[i]? = some o) (hz : sel.length < sizeLine) (h : accP S H1 D ((sel.take i).filterMap id) H) (s4 : Same H H4) :
    ∀ y : Option V, Out (D :: S) H4 o y → match y with
      | some v => ∃ acc, H4 D = some (.lst acc) ∧ acc.length < sizeLine ∧ accP S H1 D ((sel.take (i + 1)).filterMap id) (upd H4 D (.lst (acc ++ [v])))
      | none => accP S H1 D ((sel.take (i + 1)).filterMap id) H4 := by
  obtain ⟨s, ys, hD, hy⟩ := h
  intro y hO
  rw [take_fm ho]
  cases o with
  | none =>
    cases y with
    | none => exact ⟨s.trans s4, ys, s4 _ _ hD, by simpa using hy.same (rs_same s4)⟩
    | some v => exact absurd hO (fun z => z)
  | some d =>
    cases y with
    | none => exact absurd hO (fun z => z)
    | some v =>
      refine ⟨ys, s4 _ _ hD, ?_, same_over nD (s.trans s4), ys ++ [v], upd_same, ?_⟩
      · rw [hy.len]
        exact Nat.lt_of_le_of_lt (fm_len sel i) hz
      · rw [rs_upd List.mem_cons_self]
        exact (hy.same (rs_same s4)).app (.cons hO .nil)
theorem acc_end {S : List Addr} {H1 : Hp} {D : Addr} {ds : List PyData} {H : Hp} (hS : Has S H1) (nD : H1 D = none) (h : accP S H1 D ds H) : Dt (rs S H) (.ref D) (.list ds) := by
  obtain ⟨s, ys, hD, hy⟩ := h
  exact .lst (by rw [rs_out (hS.out nD)]; exact hD) (hy.same over)
theorem lc_dR {lo : Int} {n : Nat} {j : Nat} {tt : TT} {te : TE} {vs : List Nat} {σ : L2.St} {H1 : Hp} {D : Addr} {Qd : Hp → Prop} {S : List Addr} (hS : Has S H1) (sel : List (Option PyData)) (nD : H1 D = none) (hlen : sel.length = n) (hz : n < sizeLine)
    (hw : ∀ x, wipe ((wipe σ vs).set j (some x)) vs = wipe σ vs)
    (hs : ∀ (i : Nat) (o : Option PyData) (H' : Hp), i < n → sel[i]? = some o → Same H1 H' → Has (D :: S) H' → ∀ Qt : Option V → Hp → Prop, (∀ y H'', Same H' H'' → Out (D :: S) H'' o y → Qt y H'') →
      tt ((wipe σ vs).set j (some (.int (lo + (i : Int))))) H' fun b H3 => if b = true then te ((wipe σ vs).set j (some (.int (lo + (i : Int))))) H3 fun y H4 => Qt (some y) H4 else Qt none H3)
    (hd : ∀ H', Same H1 H' → H' D ≠ none → Dt (rs S H') (.ref D) (.list (sel.filterMap id)) → Qd H') :
    ∃ W : Nat → Nat → Hp → Prop, (∃ m, W 0 m (upd H1 D (.lst []))) ∧ ∀ i m H, W i m H →
      ((Itr lo n).stop i H ∧ Qd H) ∨ ((Itr lo n).go i H ∧ ∃ Nx : Hp → Prop, (∀ H', Nx H' → ∃ m', m' < m ∧ W (i + 1) m' H') ∧ ∀ x H', (Itr lo n).yld i H x H' → gName j x (wipe σ vs) H' fun σ2 H2 => wipe σ2 vs = wipe σ vs ∧ tt σ2 H2 fun b H3 =>
        if b = true then te σ2 H3 fun y H4 => ∃ acc, H4 D = some (.lst acc) ∧ acc.length < sizeLine ∧ Nx (upd H4 D (.lst (acc ++ [y]))) else Nx H3) := by
  refine lc_range (lo := lo) (n := n) (fun i H => accP S H1 D ((sel.take i).filterMap id) H) ⟨same_upd nD, [], upd_same, .nil⟩ ?_ ?_
  · rintro i H hi h
    refine ⟨hw _, ?_⟩
    have ho : sel[i]? = some (sel[i]'(by omega)) := List.getElem?_eq_getElem (by omega)
    obtain ⟨s, ys, hD, hy⟩ := id h
    exact hs i _ H hi ho s ((hS.same s).cons hD) (fun o H4 => match o with
      | some y => ∃ acc, H4 D = some (.lst acc) ∧ acc.length < sizeLine ∧ accP S H1 D ((sel.take (i + 1)).filterMap id) (upd H4 D (.lst (acc ++ [y])))
      | none => accP S H1 D ((sel.take (i + 1)).filterMap id) H4) fun y H4 s4 hO => acc_step nD ho (by omega) h s4 y hO
  · rintro H h
    rw [← hlen, List.take_length] at h
    refine hd H h.1 ?_ (acc_end hS nD h)
    obtain ⟨_, ys, hD, _⟩ := h
    rw [hD]
    exact fun z => nomatch z
theorem lc_dL {K : PySem.W.Frag} {a : Addr} {xs : List V} {j : Nat} {tt : TT} {te : TE} {vs : List Nat} {σ : L2.St} {H1 : Hp} {D : Addr} {Qd : Hp → Prop} {S : List Addr} (hS : Has S H1) (sel : List (Option PyData)) (nD : H1 D = none) (hA : SqL K H1 a xs) (hlen : sel.length = xs.length) (hz : xs.length < sizeLine)
    (hw : ∀ x, wipe ((wipe σ vs).set j (some x)) vs = wipe σ vs)
    (hs : ∀ (i : Nat) (x : V) (o : Option PyData) (H' : Hp), xs[i]? = some x → sel[i]? = some o → Same H1 H' → Has (D :: S) H' → ∀ Qt : Option V → Hp → Prop, (∀ y H'', Same H' H'' → Out (D :: S) H'' o y → Qt y H'') →
      tt ((wipe σ vs).set j (some x)) H' fun b H3 => if b = true then te ((wipe σ vs).set j (some x)) H3 fun y H4 => Qt (some y) H4 else Qt none H3)
    (hd : ∀ H', Same H1 H' → H' D ≠ none → Dt (rs S H') (.ref D) (.list (sel.filterMap id)) → Qd H') :
    ∃ W : Nat → Nat → Hp → Prop, (∃ m, W 0 m (upd H1 D (.lst []))) ∧ ∀ i m H, W i m H →
      ((Itl K a).stop i H ∧ Qd H) ∨ ((Itl K a).go i H ∧ ∃ Nx : Hp → Prop, (∀ H', Nx H' → ∃ m', m' < m ∧ W (i + 1) m' H') ∧ ∀ x H', (Itl K a).yld i H x H' → gName j x (wipe σ vs) H' fun σ2 H2 => wipe σ2 vs = wipe σ vs ∧ tt σ2 H2 fun b H3 =>
        if b = true then te σ2 H3 fun y H4 => ∃ acc, H4 D = some (.lst acc) ∧ acc.length < sizeLine ∧ Nx (upd H4 D (.lst (acc ++ [y]))) else Nx H3) := by
  refine lc_list (K := K) (a := a) (xs := xs) (fun i H => accP S H1 D ((sel.take i).filterMap id) H) ⟨same_upd nD, [], upd_same, .nil⟩ (fun i H _ p => p.1.seq hA) ?_ ?_
  · rintro i x H hx h
    refine ⟨hw _, ?_⟩
    have hi := (List.getElem?_eq_some_iff.mp hx).1
    have ho : sel[i]? = some (sel[i]'(by omega)) := List.getElem?_eq_getElem (by omega)
    obtain ⟨s, ys, hD, hy⟩ := id h
    exact hs i x _ H hx ho s ((hS.same s).cons hD) (fun o H4 => match o with
      | some y => ∃ acc, H4 D = some (.lst acc) ∧ acc.length < sizeLine ∧ accP S H1 D ((sel.take (i + 1)).filterMap id) (upd H4 D (.lst (acc ++ [y])))
      | none => accP S H1 D ((sel.take (i + 1)).filterMap id) H4) fun y H4 s4 hO => acc_step nD ho (by omega) h s4 y hO
  · rintro H h
    rw [← hlen, List.take_length] at h
    refine hd H h.1 ?_ (acc_end hS nD h)
    obtain ⟨_, ys, hD, _⟩ := h
    rw [hD]
    exact fun z => nomatch z
/-- maps: each item's data -/
theorem sel_map {α : Type} (l : List α) (f : α → PyData) : (l.map fun x => some (f x)).filterMap id = l.map f := by
  induction l with
  | nil => rfl
  | cons x l ih =>
    show f x :: (l.map fun x => some (f x)).filterMap id = _
    rw [ih]
    rfl
/-- over any walk -/
theorem lc_dW {J : It} {n : Nat} {G : Hp → Prop} {Y : Nat → Hp → V → Hp → Prop} (w : Walk J n G Y) {g : TG} {tt : TT} {te : TE} {vs : List Nat} {σ : L2.St} {H1 : Hp} {D : Addr} {Qd : Hp → Prop} {S : List Addr} (hS : Has S H1) (sel : List (Option PyData)) (nD : H1 D = none) (hlen : sel.length = n) (hz : n < sizeLine)
    (hG : ∀ H', Same H1 H' → G H')
    (hs : ∀ (i : Nat) (o : Option PyData) (H0 : Hp) (x : V) (H' : Hp), i < n → sel[i]? = some o → Same H1 H0 → Has (D :: S) H0 → Y i H0 x H' → ∀ Qt : Option V → Hp → Prop, (∀ y H'', Same H0 H'' → Out (D :: S) H'' o y → Qt y H'') →
      g x (wipe σ vs) H' fun σ2 H2 => wipe σ2 vs = wipe σ vs ∧ tt σ2 H2 fun b H3 => if b = true then te σ2 H3 fun y H4 => Qt (some y) H4 else Qt none H3)
    (hd : ∀ H', Same H1 H' → H' D ≠ none → Dt (rs S H') (.ref D) (.list (sel.filterMap id)) → Qd H') :
    ∃ W : Nat → Nat → Hp → Prop, (∃ m, W 0 m (upd H1 D (.lst []))) ∧ ∀ i m H, W i m H →
      (J.stop i H ∧ Qd H) ∨ (J.go i H ∧ ∃ Nx : Hp → Prop, (∀ H', Nx H' → ∃ m', m' < m ∧ W (i + 1) m' H') ∧ ∀ x H', J.yld i H x H' → g x (wipe σ vs) H' fun σ2 H2 => wipe σ2 vs = wipe σ vs ∧ tt σ2 H2 fun b H3 =>
        if b = true then te σ2 H3 fun y H4 => ∃ acc, H4 D = some (.lst acc) ∧ acc.length < sizeLine ∧ Nx (upd H4 D (.lst (acc ++ [y]))) else Nx H3) := by
  refine lc_it w (fun i H => accP S H1 D ((sel.take i).filterMap id) H) ⟨same_upd nD, [], upd_same, .nil⟩ (fun i H _ p => hG H p.1) ?_ ?_
  · rintro i x H H' hi h y
    have ho : sel[i]? = some (sel[i]'(by omega)) := List.getElem?_eq_getElem (by omega)
    obtain ⟨s, ys, hD, hy⟩ := id h
    exact hs i _ H x H' hi ho s ((hS.same s).cons hD) y (fun o H4 => match o with
      | some y => ∃ acc, H4 D = some (.lst acc) ∧ acc.length < sizeLine ∧ accP S H1 D ((sel.take (i + 1)).filterMap id) (upd H4 D (.lst (acc ++ [y])))
      | none => accP S H1 D ((sel.take (i + 1)).filterMap id) H4) fun y H4 s4 hO => acc_step nD ho (by omega) h s4 y hO
  · rintro H h
    rw [← hlen, List.take_length] at h
    refine hd H h.1 ?_ (acc_end hS nD h)
    obtain ⟨_, ys, hD, _⟩ := h
    rw [hD]
    exact fun z => nomatch z
theorem dt_pairs {K : PySem.W.Frag} {H : Hp} {a : Addr} {ps : List (Int × Int)} (h : Dt H (.ref a) (.list (ps.map pairD))) : PairsAt K H a ps := by
  cases h with
  | lst ha hx =>
    rename_i xs
    have key : ∀ (ps : List (Int × Int)) (xs : List V), DtA H xs (ps.map pairD) → ∃ as : List Addr, xs = as.map V.ref ∧ as.length = ps.length ∧ ∀ (i : Nat) (t : Addr) (p : Int × Int), as[i]? = some t → ps[i]? = some p → SqT K H t [.int p.1, .int p.2] := fun ps => by
      induction ps with
      | nil => intro xs h; cases h; exact ⟨[], rfl, rfl, fun i t p ht => by simp at ht⟩
      | cons p ps ih =>
        intro xs h
        cases h with
        | cons b c =>
          obtain ⟨as, rfl, hl, k⟩ := ih _ c
          obtain ⟨t, ys, rfl, ht, hy⟩ := (show Dt H _ (.tuple [.int p.1, .int p.2]) from b).tupE
          rw [DtA.intsE (ns := [p.1, p.2]) hy] at ht
          refine ⟨t :: as, rfl, by rw [List.length_cons, List.length_cons, hl], fun i u q hu hq => ?_⟩
          cases i with
          | zero =>
            rw [List.getElem?_cons_zero] at hu hq
            cases hu
            cases hq
            exact .inl (.inl ht)
          | succ i =>
            rw [List.getElem?_cons_succ] at hu hq
            exact k i u q hu hq
    obtain ⟨as, rfl, hl, k⟩ := key ps xs hx
    exact ⟨as, .inl (.inl ha), hl, k⟩
end My

namespace My
theorem getD_of {l : List Int} {i : Nat} (h : i < l.length) : l.getD i 0 = l[i] := by
  rw [List.getD_eq_getElem?_getD, List.getElem?_eq_getElem h]
  rfl
/-! ### guesses, rests, in plain terms -/
def dot : List Int → List Int → Int
  | w :: ws, b :: bs => w * b + dot ws bs
  | _, _ => 0
theorem dot_nil (ws : List Int) : dot ws [] = 0 := by cases ws <;> rfl
theorem dot_take : ∀ (i : Nat) (ws bs : List Int), i < ws.length → i < bs.length → dot (ws.take (i + 1)) bs = dot (ws.take i) bs + ws.getD i 0 * bs.getD i 0
  | 0, w :: ws, b :: bs, _, _ => by simp [dot]
  | i + 1, w :: ws, b :: bs, h1, h2 => by
    have ih := dot_take i ws bs (by simpa using h1) (by simpa using h2)
    show w * b + dot (ws.take (i + 1)) bs = w * b + dot (ws.take i) bs + ws.getD i 0 * bs.getD i 0
    rw [ih]
    omega
  | _, [], _, h, _ => by simp at h
  | _, _ :: _, [], _, h => by simp at h
/-- only as many items as there are weights count -/
theorem dot_long : ∀ (ws bs cs : List Int), ws.length ≤ bs.length → dot ws (bs ++ cs) = dot ws bs
  | [], _, _, _ => rfl
  | w :: ws, b :: bs, cs, h => by
    show w * b + dot ws (bs ++ cs) = w * b + dot ws bs
    rw [dot_long ws bs cs (by simpa using h)]
  | _ :: _, [], _, h => by simp at h
def guessF (ws : List Int) (sh : Nat) (pre : List Int) : Int := dot ws pre.reverse / 2 ^ sh
theorem guess_end (ws : List Int) (sh : Nat) (pre : List Int) (k : Nat) (h : k + ws.length ≤ pre.length) : guessF ws sh (pre.drop k) = guessF ws sh pre := by
  unfold guessF
  have e : pre.reverse = (pre.drop k).reverse ++ (pre.take k).reverse := by rw [← List.reverse_append, List.take_append_drop]
  rw [e, dot_long]
  rw [List.length_reverse, List.length_drop]
  omega
/-- the rest at a place -/
def restAt (ws : List Int) (sh : Nat) (row : List Int) (p : Nat) : Int := row.getD p 0 - (if p < ws.length then 0 else guessF ws sh (row.take p))
def toldR (ws : List Int) (sh : Nat) (row : List Int) : List Int := (List.range row.length).map (restAt ws sh row)
theorem toldR_len (ws : List Int) (sh : Nat) (row : List Int) : (toldR ws sh row).length = row.length := by
  unfold toldR
  rw [List.length_map, List.length_range]
theorem toldR_firsts (ws : List Int) (sh : Nat) (row : List Int) (k : Nat) (hk : k ≤ ws.length) : (toldR ws sh row).take k = row.take k := by
  apply List.ext_getElem?
  intro i
  rw [List.getElem?_take, List.getElem?_take]
  by_cases h : i < k
  · rw [if_pos h, if_pos h]
    unfold toldR
    rw [List.getElem?_map]
    by_cases h2 : i < row.length
    · rw [List.getElem?_range h2]
      show some (row.getD i 0 - if i < ws.length then 0 else _) = row[i]?
      rw [if_pos (by omega), Int.sub_zero, List.getElem?_eq_getElem h2, getD_of h2]
    · rw [List.getElem?_eq_none (by rw [List.length_range]; omega), List.getElem?_eq_none (by omega)]
      rfl
  · rw [if_neg h, if_neg h]
theorem toldR_next (ws : List Int) (sh : Nat) (row : List Int) (p : Nat) (h1 : ws.length ≤ p) (h2 : p < row.length) : (toldR ws sh row).take (p + 1) = (toldR ws sh row).take p ++ [row.getD p 0 - guessF ws sh (row.take p)] := by
  rw [List.take_add_one]
  congr 1
  unfold toldR
  rw [List.getElem?_map, List.getElem?_range h2]
  show [restAt ws sh row p] = _
  unfold restAt
  rw [if_neg (by omega)]
def wrapI (n : Int) (d : Nat) : Int := (n + 2 ^ (d - 1)) % (2 * 2 ^ (d - 1)) - 2 ^ (d - 1)
def restsF (ws : List Int) (sh : Nat) (d : Nat) (row : List Int) : List Int := (toldR ws sh row).map fun n => wrapI n d
def Samples (d : Nat) (row : List Int) : Prop := ∀ n ∈ row, -(2 ^ (d - 1)) ≤ n ∧ n ≤ 2 ^ (d - 1) - 1
def Weights (ws : List Int) : Prop := ws.length ≤ 8 ∧ ∀ n ∈ ws, -32768 ≤ n ∧ n ≤ 32768
end My

namespace My
open PySem PySem.Spec PyProof.Rows L2 Pre
/-- an instance: isinstance of its class -/
theorem tyx_ins {K : PySem.W.Frag} {H : Hp} {a C dx : Addr} {fs : List (Str × V)} (c : C8.InsC K C) (h : H a = some (.ins C dx fs)) : TyX K H (.ref a) (.ref C) := .base (.ins h c.cl c.ha c.hn c.htk c.hm)
theorem rd_list {K : PySem.W.Frag} {H : Hp} {a : Addr} {xs : List V} (h : Rd H a (.lst xs)) : TyX K H (.ref a) (.type "list") := by
  rcases h with h | ⟨o, h⟩
  · exact .base (.lst h)
  · exact .base (.frz h)
theorem Rd.same {H H' : Hp} {a : Addr} {u : HO} (h : Rd H a u) (s : Same H H') : Rd H' a u := by
  rcases h with h | ⟨o, h⟩
  · exact .inl (s _ _ h)
  · exact .inr ⟨o, s _ _ h⟩
theorem small_row {ns : List Int} (h : ns.length ≤ 1000) : (ns.map V.int).length < sizeLine := by
  rw [List.length_map]
  exact small1000 h
section
variable {P : Program} {w : World} {K : PySem.W.Frag} {mg : Str → Option Value} {base : Heap}
/-! ### checks -/
def sp_check_depth : Sp := fun vs H Q _ => ∃ d m : Int, vs = [.int d, .int m] ∧ 1 ≤ d ∧ d ≤ m ∧ Q .non H
theorem G_check_depth (T : Top K mg) : FnOk P w K mg base CX0 3 T.f_check_depth T.fd_check_depth ["depth", "most"] sp_check_depth := by
  refine T.F_check_depth.ok sc_check_depth (fun vs H Q E h => by obtain ⟨d, m, rfl, _⟩ := h; rfl) (fun cdv A outer s H vs Q E hr h => ?_)
  obtain ⟨d, m, rfl, h0, h1, q⟩ := h
  refine ⟨_, PSs.nox (pss_one (ps_if (pt_not (pt_val (pe_call (G_is_between (P := P) T) (hr.mono (by decide)) (by rfl) T.g_is_between T.F_is_between.kp T.b_is_between .nil pass0 (pa_cons (pv 0) (pa_cons pe_int (pa_cons (pv 1) pa_nil))))))
    (pss_one ps_never)
    pss_nil)), ?_⟩
  refine ⟨_, rfl, _, rfl, d, 1, some m, rfl, _, rfl, ?_⟩
  rw [decide_eq_true ⟨h0, fun j h => by cases h; exact h1⟩]
  exact iteF q
def sp_is_sample : Sp := fun vs H Q _ => ∃ (n : Int) (d : Nat), vs = [.int n, .int d] ∧ 1 ≤ d ∧ d ≤ 1000 ∧ Q (.bl (decide (-(2 ^ (d - 1)) ≤ n ∧ n ≤ 2 ^ (d - 1) - 1))) H
theorem pred_toNat {d : Nat} (h : 1 ≤ d) : ((d : Int) - 1).toNat = d - 1 := by omega
/-- a list of samples of a depth -/
def sp_are_samples (K : PySem.W.Frag) : Sp := fun vs H Q _ => ∃ (a : Addr) (ns : List Int) (d : Nat), vs = [.ref a, .int d] ∧ Rd H a (.lst (ns.map V.int)) ∧ Samples d ns ∧ ns.length ≤ 1000 ∧ 1 ≤ d ∧ d ≤ 1000 ∧ ∀ H', Same H H' → Q (.bl true) H'
theorem fm_none {α β : Type} (l : List α) : (l.map fun _ => (none : Option β)).filterMap id = [] := by
  induction l with
  | nil => rfl
  | cons n r ih => simp
def sp_wrapped : Sp := fun vs H Q _ => ∃ (n : Int) (d : Nat), vs = [.int n, .int d] ∧ 1 ≤ d ∧ d ≤ 64 ∧ Q (.int (wrapI n d)) H
/-! ### guessers -/
/-- a guesser of the weights ws and the shift sh -/
def GuesserAt (C : Addr) (H : Hp) (a : Addr) (ws : List Int) (sh : Nat) : Prop := Weights ws ∧ sh ≤ 15 ∧ ∃ dx p, H a = some (.ins C dx [("parts", .ref p), ("down", .int sh)]) ∧ H p = some (.lst (ws.map V.int))
theorem GuesserAt.same {C : Addr} {H H' : Hp} {a : Addr} {ws : List Int} {sh : Nat} (h : GuesserAt C H a ws sh) (s : Same H H') : GuesserAt C H' a ws sh := by
  obtain ⟨h1, h2, dx, p, h3, h4⟩ := h
  exact ⟨h1, h2, dx, p, s _ _ h3, s _ _ h4⟩
def sp_Guesser___init__ (C : Addr) (K : PySem.W.Frag) : Sp := fun vs H Q _ => ∃ (x a dx : Addr) (ws : List Int) (sh : Nat), vs = [.ref x, .ref a, .int sh] ∧ H x = some (.ins C dx []) ∧ Rd H a (.lst (ws.map V.int)) ∧ Weights ws ∧ sh ≤ 15 ∧
  ∀ H', (∀ b o, b ≠ x → H b = some o → H' b = some o) → GuesserAt C H' x ws sh → (∃ dx p, H' x = some (.ins C dx [("parts", .ref p), ("down", .int sh)]) ∧ H p = none) → Q .non H'
theorem G_Guesser___init__ (T : Top K mg) : FnOk P w K mg base CX0 3 T.f_Guesser___init__ T.fd_Guesser___init__ ["self", "weights", "shift"] (sp_Guesser___init__ T.C_Guesser K) := by
  refine T.F_Guesser___init__.ok sc_Guesser___init__ (fun vs H Q E h => by obtain ⟨x, a, dx, ws, sh, rfl, _⟩ := h; rfl) (fun cdv A outer s H vs Q E hr h => ?_)
  obtain ⟨x, a, dx, ws, sh, rfl, hx, hA, hW, hsh, q⟩ := h
  refine ⟨_, PSs.nox (pss_cons (ps_if (PW.pt (pw_or (pt_not (pt_val (pe_callB (k_isi K rfl) (by rfl) T.n_isinstance (by decide +kernel) (pa_cons (pv 1) (pa_cons (pe_bltn (v := .ty "list") (by rfl) T.n_list (by decide +kernel) rfl) pa_nil))))) (pw_or1 (pt_cmpR op_gt (pe_callB (k_len K rfl) (by rfl) T.n_len (by decide +kernel) (pa_cons (pv 1) pa_nil)) (pe_glob (v := .int 8) rfl T.m_MOST_ORDER ⟨_, rfl⟩) (nomark _)))))
    (pss_one ps_never)
    pss_nil)
  (pss_cons (ps_for PassesOwn.never rfl (k_piL K rfl (pv 1)) (pg_name (i := 3) sc_Guesser___init__.nd rfl (by first | exact Or.inl rfl | exact Or.inr rfl))
    (pss_one (ps_if (pt_not (pt_val (pe_call (G_is_between (P := P) T) (hr.mono (by decide)) (by rfl) T.g_is_between T.F_is_between.kp T.b_is_between .nil pass0 (pa_cons (pv 3) (pa_cons (pe_un un_neg (pe_glob (v := .int 32768) rfl T.m_MOST_WEIGHT ⟨_, rfl⟩)) (pa_cons (pe_glob (v := .int 32768) rfl T.m_MOST_WEIGHT ⟨_, rfl⟩) pa_nil))))))
    (pss_one ps_never)
    pss_nil)))
  (pss_cons (ps_if (pt_not (pt_val (pe_call (G_is_between (P := P) T) (hr.mono (by decide)) (by rfl) T.g_is_between T.F_is_between.kp T.b_is_between .nil pass0 (pa_cons (pv 2) (pa_cons pe_int (pa_cons (pe_glob (v := .int 15) rfl T.m_MOST_SHIFT ⟨_, rfl⟩) pa_nil))))))
    (pss_one ps_never)
    pss_nil)
  (pss_cons (ps_fld (pv 0) (pe_callTy (k_listOf K rfl) (by rfl) T.n_list (by decide +kernel) (pa_cons (pv 1) pa_nil)) rfl)
  (pss_one (ps_fld (pv 0) (pv 2) rfl)))))), ?_⟩
  have hS : SqL K H a (ws.map V.int) := .inl hA
  refine ⟨_, rfl, _, _, _, _, true, rfl, .ty _, rd_list hA, kit_ty (by decide +kernel), true, rfl, iteF ?_⟩
  refine ⟨_, rfl, a, _, rfl, .inl hS, _, _, rfl, rfl, _, rfl, ?_⟩
  rw [List.length_map, decide_eq_false (show ¬ (ws.length : Int) > 8 by have := hW.1; omega)]
  refine iteF ?_
  -- for weight in weights
  refine ⟨_, rfl, a, rfl, ⟨_, hS⟩, for_list (K := K) (a := a) (xs := ws.map V.int) (fun i σ H1 => ∃ v, σ = [some (.ref x), some (.ref a), some (.int sh), v] ∧ H1 = H) ⟨none, rfl, rfl⟩ (fun i σ H1 _ ⟨_, _, e⟩ => by rw [e]; exact hS) ?_ ?_⟩
  · rintro i v σ H1 hv ⟨v3, rfl, rfl⟩
    obtain ⟨n, hn, rfl⟩ := int_at hv
    have hb := hW.2 n (List.mem_of_getElem? hn)
    refine ⟨_, rfl, _, rfl, n, -32768, some 32768, rfl, _, rfl, ?_⟩
    rw [decide_eq_true ⟨hb.1, fun j h => by cases h; exact hb.2⟩]
    exact iteF ⟨_, rfl, rfl⟩
  · rintro σ H1 ⟨v3, rfl, rfl⟩
    refine ⟨_, rfl, (sh : Int), 0, some 15, rfl, _, rfl, ?_⟩
    rw [decide_eq_true ⟨by omega, fun j h => by cases h; omega⟩]
    refine iteF ?_
    -- self.parts = list(weights)
    refine ⟨_, rfl, a, _, rfl, .inl hS, fun p np => ?_⟩
    have npx : p ≠ x := (ne_of_none hx np).symm
    have hx1 : (upd H1 p (.lst (ws.map V.int))) x = some (.ins T.C_Guesser dx []) := same_upd np _ _ hx
    refine ⟨_, rfl, x, T.C_Guesser, dx, [], rfl, hx1, T.cl_Guesser, T.na_Guesser_parts, by decide, ?_⟩
    refine ⟨_, rfl, _, rfl, x, T.C_Guesser, dx, _, rfl, upd_same, T.cl_Guesser, T.na_Guesser_down, (by show 1 < 1000; decide), ?_⟩
    refine q _ (fun b o nb hb => ?_) ⟨hW, hsh, dx, p, ?_, ?_⟩ ⟨dx, p, ?_, np⟩
    · rw [upd_ne nb, upd_ne nb]
      exact same_upd np _ _ hb
    · rw [upd_same]
      rfl
    · rw [upd_ne npx, upd_ne npx, upd_same]
    · rw [upd_same]
      rfl
/-- a guesser that no change of g touches -/
def GuesserBut (C g : Addr) (H : Hp) (a : Addr) (ws : List Int) (sh : Nat) : Prop := ∀ H', But g H H' → GuesserAt C H' a ws sh
theorem GuesserBut.of {C g x : Addr} {H H' : Hp} {ws : List Int} {sh n : Nat} (hG : GenAt H g n) (nx : x ≠ g) (h : GuesserAt C H' x ws sh) (k : ∃ dx p, H' x = some (.ins C dx [("parts", .ref p), ("down", .int sh)]) ∧ H p = none) : GuesserBut C g H' x ws sh := by
  obtain ⟨hW, hs, dx, p, h1, h2⟩ := h
  obtain ⟨dx', p', h3, h4⟩ := k
  rw [h1] at h3
  cases h3
  exact fun H2 b => ⟨hW, hs, dx, p, b _ _ nx h1, b _ _ (hG.ne h4) h2⟩
theorem GuesserBut.but {C g x : Addr} {H H' : Hp} {ws : List Int} {sh : Nat} (h : GuesserBut C g H x ws sh) (b : But g H H') : GuesserBut C g H' x ws sh := fun H2 b2 => h H2 (b.trans b2)
def sp_check_guesser (C : Addr) : Sp := fun vs H Q _ => ∃ (a : Addr) (ws : List Int) (sh : Nat), vs = [.ref a] ∧ GuesserAt C H a ws sh ∧ Q .non H
theorem G_check_guesser (T : Top K mg) : FnOk P w K mg base CX0 1 T.f_check_guesser T.fd_check_guesser ["value"] (sp_check_guesser T.C_Guesser) := by
  refine T.F_check_guesser.ok sc_check_guesser (fun vs H Q E h => by obtain ⟨a, ws, sh, rfl, _⟩ := h; rfl) (fun cdv A outer s H vs Q E hr h => ?_)
  obtain ⟨a, ws, sh, rfl, hG, q⟩ := h
  refine ⟨_, PSs.nox (pss_one (ps_if (pt_not (pt_val (pe_callB (k_isi K rfl) (by rfl) T.n_isinstance (by decide +kernel) (pa_cons (pv 0) (pa_cons (pe_glob (v := .ref T.C_Guesser) rfl T.gc_Guesser rfl) pa_nil)))))
    (pss_one ps_never)
    pss_nil)), ?_⟩
  obtain ⟨_, _, dx, p, ha, _⟩ := hG
  refine ⟨_, rfl, _, _, _, _, true, rfl, .own _, tyx_ins T.ic_Guesser ha, T.ic_Guesser.me, true, rfl, iteF ?_⟩
  exact q
def sp_check_row (K : PySem.W.Frag) : Sp := fun vs H Q _ => ∃ (a : Addr) (ns : List Int) (d : Nat), vs = [.int d, .ref a] ∧ Rd H a (.lst (ns.map V.int)) ∧ Samples d ns ∧ ns.length ≤ 1000 ∧ 1 ≤ d ∧ d ≤ 1000 ∧ ∀ H', Same H H' → Q .non H'
theorem cut_get {bs : List Int} {i n : Nat} (h : i < n) (hn : n = bs.length) : (bs.map V.int)[n - 1 - i]? = some (.int (bs.reverse.getD i 0)) := by
  subst hn
  rw [List.getElem?_map, List.getElem?_eq_getElem (show bs.length - 1 - i < bs.length by omega)]
  have h2 : i < bs.reverse.length := by rw [List.length_reverse]; exact h
  rw [getD_of h2, List.getElem_reverse]
  rfl
def sp_sum_before (C : Addr) (K : PySem.W.Frag) : Sp := fun vs H Q _ => ∃ (a b : Addr) (ws : List Int) (sh : Nat) (bs : List Int), vs = [.ref a, .ref b] ∧ GuesserAt C H a ws sh ∧ SqL K H b (bs.map V.int) ∧ ws.length ≤ bs.length ∧ ∀ H', Same H H' → Q (.int (dot ws bs.reverse)) H'
theorem G_sum_before (T : Top K mg) : FnOk P w K mg base CX0 1 T.f_sum_before T.fd_sum_before ["guesser", "before"] (sp_sum_before T.C_Guesser K) := by
  refine T.F_sum_before.ok sc_sum_before (fun vs H Q E h => by obtain ⟨a, b, ws, sh, bs, rfl, _⟩ := h; rfl) (fun cdv A outer s H vs Q E hr h => ?_)
  obtain ⟨a, b, ws, sh, bs, rfl, hG, hB, hl, q⟩ := h
  refine ⟨_, PSs.nox (pss_cons (ps_set (i := 2) sc_sum_before.nd rfl (by first | exact Or.inl rfl | exact Or.inr rfl) pe_int)
  (pss_cons (ps_for PassesOwn.never rfl (k_piE K rfl (by rfl) T.n_enumerate (pa_cons (pe_fld (pv 0) rfl) pa_nil)) (k_pgT K rfl (by rfl) (pgs_cons (pg_name (i := 3) sc_sum_before.nd rfl (by first | exact Or.inl rfl | exact Or.inr rfl)) (pgs_cons (pg_name (i := 4) sc_sum_before.nd rfl (by first | exact Or.inl rfl | exact Or.inr rfl)) pgs_nil)))
    (pss_one (ps_set (i := 2) sc_sum_before.nd rfl (by first | exact Or.inl rfl | exact Or.inr rfl) (pe_op op_add (pv 2) (pe_op op_mul (pv 4) (pe_ix (k_ixL K rfl) (pv 1) (pe_op op_sub (pe_op op_sub (pe_callB (k_len K rfl) (by rfl) T.n_len (by decide +kernel) (pa_cons (pv 1) pa_nil)) pe_int) (pv 3)) (fun _ _ => rfl)))))))
  (pss_one (ps_ret (pv 2))))), ?_⟩
  obtain ⟨hW, _, dx, p, ha, hp⟩ := id hG
  have hP : SqL K H p (ws.map V.int) := .inl (.inl hp)
  refine ⟨_, rfl, a, T.C_Guesser, dx, _, _, rfl, ha, T.cl_Guesser, T.na_Guesser_parts, rfl, p, _, rfl, hP, ?_⟩
  refine for_it (walk_enum (K := K) (a := p) (xs := ws.map V.int)) (fun i σ H1 => ∃ v3 v4, σ = [some (.ref a), some (.ref b), some (.int (dot (ws.take i) bs.reverse)), v3, v4] ∧ Same H H1) ⟨none, none, ?_, Same.refl _⟩ (fun i σ H1 _ ⟨_, _, _, s⟩ => s.seq hP) ?_ ?_
  · show _ = [some (V.ref a), some (V.ref b), some (V.int (dot [] bs.reverse)), none, none]
    rfl
  · rintro i x σ H1 H2 hi ⟨v3, v4, rfl, s1⟩ ⟨t, y, z, rfl, nt, rfl, ey, ez⟩
    cases ey
    obtain ⟨n, hn, rfl⟩ := int_at ez
    rw [List.length_map] at hi
    have s2 : Same H1 (upd H1 t (.tup [.int (i : Nat), .int n])) := same_upd nt
    have hB2 := (s1.trans s2).seq hB
    refine ⟨t, _, rfl, .inl (.inl upd_same), rfl, _, _, rfl, _, _, rfl, rfl, ?_⟩
    have hb := hW.2 n (List.mem_of_getElem? hn)
    have en : n = ws.getD i 0 := by rw [List.getD_eq_getElem?_getD, hn]; rfl
    refine ⟨_, rfl, _, rfl, _, rfl, _, rfl, b, _, rfl, .inl hB2, _, _, rfl, rfl, _, rfl, _, _, rfl, rfl, b, _, _, .int (bs.reverse.getD i 0), rfl, rfl, hB2, at_of (j := bs.length - 1 - i) (by rw [List.length_map]; omega) (cut_get (show i < bs.length by omega) rfl), _, _, rfl, rfl, .inl ⟨by omega, by omega⟩, _, _, rfl, rfl, ?_⟩
    refine ⟨some (.int (i : Nat)), some (.int n), ?_, s1.trans s2⟩
    rw [dot_take i ws bs.reverse hi (by rw [List.length_reverse]; omega), ← en]
    rfl
  · rintro σ H1 ⟨v3, v4, rfl, s1⟩
    rw [List.length_map, List.take_length]
    exact ⟨_, rfl, q _ s1⟩
def sp_guess_behind (C : Addr) (K : PySem.W.Frag) : Sp := fun vs H Q _ => ∃ (a b : Addr) (ws : List Int) (sh : Nat) (bs : List Int), vs = [.ref a, .ref b] ∧ GuesserAt C H a ws sh ∧ SqL K H b (bs.map V.int) ∧ ws.length ≤ bs.length ∧ ∀ H', Same H H' → Q (.int (guessF ws sh bs)) H'
theorem G_guess_behind (T : Top K mg) : FnOk P w K mg base CX0 2 T.f_guess_behind T.fd_guess_behind ["guesser", "before"] (sp_guess_behind T.C_Guesser K) := by
  refine T.F_guess_behind.ok sc_guess_behind (fun vs H Q E h => by obtain ⟨a, b, ws, sh, bs, rfl, _⟩ := h; rfl) (fun cdv A outer s H vs Q E hr h => ?_)
  obtain ⟨a, b, ws, sh, bs, rfl, hG, hB, hl, q⟩ := h
  refine ⟨_, PSs.nox (pss_one (ps_ret (pe_op op_shr (pe_call (G_sum_before (P := P) T) (hr.mono (by decide)) (by rfl) T.g_sum_before T.F_sum_before.kp T.b_sum_before .nil pass0 (pa_cons (pv 0) (pa_cons (pv 1) pa_nil))) (pe_fld (pv 0) rfl)))), ?_⟩
  refine ⟨_, rfl, _, rfl, a, b, ws, sh, bs, rfl, hG, hB, hl, fun H1 s1 => ?_⟩
  obtain ⟨hW, _, dx, p, ha, hp⟩ := hG.same s1
  refine ⟨_, rfl, a, T.C_Guesser, dx, _, _, rfl, ha, T.cl_Guesser, T.na_Guesser_down, rfl, _, _, rfl, rfl, by omega, ?_⟩
  dsimp only
  rw [Int.toNat_natCast]
  exact q _ s1
theorem cut_mid (xs : List V) (i j : Nat) (h1 : i ≤ j) (h2 : j ≤ xs.length) : cutV xs (some (i : Int)) (some (j : Int)) = (xs.take j).drop i := by
  unfold cutV
  rw [HT.sIx_nat, HT.sIx_nat, Nat.min_eq_left h2, Nat.min_eq_left (Nat.le_trans h1 h2), List.drop_take]
def sp_told_rests (C : Addr) (K : PySem.W.Frag) : Sp := fun vs H Q _ => ∃ (a b : Addr) (ws : List Int) (sh : Nat) (row : List Int), vs = [.ref a, .ref b] ∧ GuesserAt C H a ws sh ∧ SqL K H b (row.map V.int) ∧ row.length ≤ 1000 ∧
  ∀ H' p, Same H H' → H p = none → H' p = some (.lst ((toldR ws sh row).map V.int)) → Q (.ref p) H'
theorem G_told_rests (T : Top K mg) : FnOk P w K mg base CX0 3 T.f_told_rests T.fd_told_rests ["guesser", "row"] (sp_told_rests T.C_Guesser K) := by
  refine T.F_told_rests.ok sc_told_rests (fun vs H Q E h => by obtain ⟨a, b, ws, sh, row, rfl, _⟩ := h; rfl) (fun cdv A outer s H vs Q E hr h => ?_)
  obtain ⟨a, b, ws, sh, row, rfl, hG, hB, hl, q⟩ := h
  refine ⟨_, PSs.nox (pss_cons (ps_set (i := 2) sc_told_rests.nd rfl (by first | exact Or.inl rfl | exact Or.inr rfl) (pe_callB (k_len K rfl) (by rfl) T.n_len (by decide +kernel) (pa_cons (pe_fld (pv 0) rfl) pa_nil)))
  (pss_cons (ps_set (i := 3) sc_told_rests.nd rfl (by first | exact Or.inl rfl | exact Or.inr rfl) (pe_callTy (k_listOf K rfl) (by rfl) T.n_list (by decide +kernel) (pa_cons (pe_slice (k_slL K rfl) (pv 1) po_none (po_some (pv 2))) pa_nil)))
  (pss_cons (ps_for PassesOwn.never rfl (pi_range2 (by rfl) T.n_range (pa_cons (pv 2) (pa_cons (pe_callB (k_len K rfl) (by rfl) T.n_len (by decide +kernel) (pa_cons (pv 1) pa_nil)) pa_nil))) (pg_name (i := 4) sc_told_rests.nd rfl (by first | exact Or.inl rfl | exact Or.inr rfl))
    (pss_one (ps_expr (pe_bm PySem.F.plainAttrs_list PySem.F.slot_list_append PySem.F.type_list_append mt_append (pv 3) (pa_cons (pe_op op_sub (pe_ix (k_ixL K rfl) (pv 1) (pv 4) (fun _ _ => rfl)) (pe_call (G_guess_behind (P := P) T) (hr.mono (by decide)) (by rfl) T.g_guess_behind T.F_guess_behind.kp T.b_guess_behind .nil pass0 (pa_cons (pv 0) (pa_cons (pe_slice (k_slL K rfl) (pv 1) (po_some (pe_op op_sub (pv 4) (pv 2))) (po_some (pv 4))) pa_nil)))) pa_nil)))))
  (pss_one (ps_ret (pv 3)))))), ?_⟩
  obtain ⟨hW, _, dx, p, ha, hp⟩ := id hG
  have hP : SqL K H p (ws.map V.int) := .inl (.inl hp)
  refine ⟨_, rfl, a, T.C_Guesser, dx, _, _, rfl, ha, T.cl_Guesser, T.na_Guesser_parts, rfl, p, _, rfl, .inl hP, ?_⟩
  rw [List.length_map]
  refine ⟨_, rfl, _, rfl, _, rfl, b, _, rfl, hB, fun c nc => ?_⟩
  rw [cut_take, ← List.map_take]
  obtain ⟨H1, e1, s1, h1⟩ := fresh (.lst ((row.take ws.length).map V.int)) nc
  rw [e1]
  refine ⟨c, _, rfl, .inl (.inl (.inl h1)), fun f nf => ?_⟩
  obtain ⟨H2, e2, s2, h2⟩ := fresh (.lst ((row.take ws.length).map V.int)) nf
  rw [e2]
  have s12 := s1.trans s2
  have hw8 := hW.1
  refine ⟨_, rfl, _, rfl, b, _, rfl, .inl (s12.seq hB), _, _, rfl, ⟨by omega, by omega, by rw [List.length_map]; omega, by rw [List.length_map]; omega⟩, ?_⟩
  rw [List.length_map]
  have nHf : H f = none := s1.free nf
  refine for_range (lo := (ws.length : Int)) (n := ((row.length : Int) - (ws.length : Int)).toNat) (fun i σ H3 => ∃ v4, σ = [some (.ref a), some (.ref b), some (.int ws.length), some (.ref f), v4] ∧ Same H H3 ∧ H3 f = some (.lst (((toldR ws sh row).take (ws.length + i)).map V.int))) ⟨none, rfl, s12, ?_⟩ ?_ ?_
  · rw [h2, Nat.add_zero, toldR_firsts ws sh row ws.length (Nat.le_refl _)]
  · rintro i σ H3 hi ⟨v4, rfl, s3, h3⟩
    have hpl : ws.length + i < row.length := by omega
    have hB3 := s3.seq hB
    have rowAt : atI (row.map V.int) ((ws.length : Int) + (i : Int)) = some (.int (row.getD (ws.length + i) 0)) := by
      refine at_of (j := ws.length + i) (by omega) ?_
      rw [List.getElem?_map, List.getElem?_eq_getElem hpl, getD_of hpl]
      rfl
    refine ⟨_, rfl, .inl ⟨rfl, _, .inl (.inl h3)⟩, _, rfl, _, rfl, b, _, _, _, rfl, rfl, hB3, rowAt, ?_⟩
    refine ⟨_, rfl, _, rfl, _, rfl, _, rfl, _, _, rfl, rfl, _, rfl, _, rfl, _, rfl, b, _, rfl, hB3, fun c2 nc2 => ?_⟩
    have ec : cutV (row.map V.int) (some ((ws.length : Int) + (i : Int) - (ws.length : Int))) (some ((ws.length : Int) + (i : Int))) = (((row.take (ws.length + i)).drop i)).map V.int := by
      rw [show (ws.length : Int) + (i : Int) - (ws.length : Int) = (i : Int) by omega, show (ws.length : Int) + (i : Int) = ((ws.length + i : Nat) : Int) by omega, cut_mid _ _ _ (by omega) (by rw [List.length_map]; omega), List.map_drop, List.map_take]
    rw [ec]
    obtain ⟨H4, e4, s4, h4⟩ := fresh (.lst (((row.take (ws.length + i)).drop i).map V.int)) nc2
    rw [e4]
    refine ⟨a, c2, ws, sh, _, rfl, (hG.same s3).same s4, .inl (.inl h4), by rw [List.length_drop, List.length_take]; omega, fun H5 s5 => ?_⟩
    rw [guess_end ws sh (row.take (ws.length + i)) i (by rw [List.length_take]; omega)]
    have h35 := s5 _ _ (s4 _ _ h3)
    refine ⟨_, _, rfl, rfl, f, _, _, rfl, rfl, h35, ?_, ?_⟩
    · rw [List.length_map, List.length_take]
      exact Nat.lt_of_le_of_lt (Nat.min_le_right _ _) (by rw [toldR_len]; exact small1000 hl)
    · refine ⟨_, rfl, ?_, ?_⟩
      · intro z o hz
        rw [upd_ne (ne_of_none hz nHf)]
        exact s5 _ _ (s4 _ _ (s3 _ _ hz))
      · rw [upd_same, ← Nat.add_assoc, toldR_next ws sh row (ws.length + i) (by omega) hpl, List.map_append]
        rfl
  · rintro σ H3 ⟨v4, rfl, s3, h3⟩
    refine ⟨_, rfl, q _ f s3 nHf ?_⟩
    rw [h3, List.take_of_length_le]
    rw [toldR_len]
    omega
def sp_rests (C : Addr) (K : PySem.W.Frag) : Sp := fun vs H Q _ => ∃ (a b : Addr) (ws : List Int) (sh : Nat) (row : List Int) (d : Nat), vs = [.ref a, .int d, .ref b] ∧ GuesserAt C H a ws sh ∧ Rd H b (.lst (row.map V.int)) ∧ row.length ≤ 1000 ∧ Samples d row ∧ 1 ≤ d ∧ d ≤ 32 ∧
  ∀ H' p, Same H H' → H p = none → H' p = some (.lst ((restsF ws sh d row).map V.int)) → Q (.ref p) H'
end
end My

namespace My
/-! ### rests lead back to rows -/
theorem pw (d : Nat) : (0 : Int) < 2 ^ (d - 1) := Int.pow_pos (by decide)
theorem wrap_id {d : Nat} {n : Int} (h1 : -(2 ^ (d - 1)) ≤ n) (h2 : n ≤ 2 ^ (d - 1) - 1) : wrapI n d = n := by
  have hp := pw d
  unfold wrapI
  rw [Int.emod_eq_of_lt (by omega) (by omega)]
  omega
theorem wrap_lo (n : Int) (d : Nat) : -(2 ^ (d - 1)) ≤ wrapI n d := by
  have hp := pw d
  have := Int.emod_nonneg (n + 2 ^ (d - 1)) (show (2 * 2 ^ (d - 1) : Int) ≠ 0 by omega)
  unfold wrapI
  omega
theorem wrap_hi (n : Int) (d : Nat) : wrapI n d ≤ 2 ^ (d - 1) - 1 := by
  have hp := pw d
  have := Int.emod_lt_of_pos (n + 2 ^ (d - 1)) (show (0 : Int) < 2 * 2 ^ (d - 1) by omega)
  unfold wrapI
  omega
/-- a multiple of the depth's power is not seen -/
theorem wrap_add (n k : Int) (d : Nat) : wrapI (n + k * (2 * 2 ^ (d - 1))) d = wrapI n d := by
  unfold wrapI
  rw [show n + k * (2 * 2 ^ (d - 1)) + 2 ^ (d - 1) = (n + 2 ^ (d - 1)) + k * (2 * 2 ^ (d - 1)) by omega, Int.add_mul_emod_self_right]
theorem wrap_eq (n : Int) (d : Nat) : ∃ k, wrapI n d = n + k * (2 * 2 ^ (d - 1)) := by
  refine ⟨-((n + 2 ^ (d - 1)) / (2 * 2 ^ (d - 1))), ?_⟩
  unfold wrapI
  have e := Int.emod_def (n + 2 ^ (d - 1)) (2 * 2 ^ (d - 1))
  rw [e, Int.neg_mul, Int.mul_comm]
  omega
theorem wrap_sub_add {d : Nat} {n g : Int} (h1 : -(2 ^ (d - 1)) ≤ n) (h2 : n ≤ 2 ^ (d - 1) - 1) : wrapI (wrapI (n - g) d + g) d = n := by
  obtain ⟨k, e⟩ := wrap_eq (n - g) d
  rw [e, show n - g + k * (2 * 2 ^ (d - 1)) + g = n + k * (2 * 2 ^ (d - 1)) by omega, wrap_add, wrap_id h1 h2]
theorem wrap_add_sub {d : Nat} {n g : Int} (h1 : -(2 ^ (d - 1)) ≤ n) (h2 : n ≤ 2 ^ (d - 1) - 1) : wrapI (wrapI (n + g) d - g) d = n := by
  obtain ⟨k, e⟩ := wrap_eq (n + g) d
  rw [e, show n + g + k * (2 * 2 ^ (d - 1)) - g = n + k * (2 * 2 ^ (d - 1)) by omega, wrap_add, wrap_id h1 h2]
/-- what is guessed behind a beginning: nothing within the firsts -/
def told0 (ws : List Int) (sh : Nat) (pre : List Int) : Int := if pre.length < ws.length then 0 else guessF ws sh pre
def restsGo (ws : List Int) (sh d : Nat) : List Int → List Int → List Int
  | _, [] => []
  | pre, x :: xs => wrapI (x - told0 ws sh pre) d :: restsGo ws sh d (pre ++ [x]) xs
def backGo (ws : List Int) (sh d : Nat) : List Int → List Int → List Int
  | _, [] => []
  | pre, r :: rs => wrapI (r + told0 ws sh pre) d :: backGo ws sh d (pre ++ [wrapI (r + told0 ws sh pre) d]) rs
theorem restsF_go (ws : List Int) (sh d : Nat) (row : List Int) : restsF ws sh d row = restsGo ws sh d [] row := by
  have key : ∀ (xs pre : List Int), ((List.range xs.length).map fun i => wrapI (restAt ws sh (pre ++ xs) (pre.length + i)) d) = restsGo ws sh d pre xs := by
    intro xs
    induction xs with
    | nil => intro pre; rfl
    | cons x xs ih =>
      intro pre
      rw [List.length_cons, List.range_succ_eq_map, List.map_cons, List.map_map]
      show _ = wrapI (x - told0 ws sh pre) d :: restsGo ws sh d (pre ++ [x]) xs
      rw [← ih (pre ++ [x])]
      congr 1
      · rw [Nat.add_zero]
        unfold restAt told0
        rw [List.getD_eq_getElem?_getD, List.getElem?_append_right (Nat.le_refl _), Nat.sub_self, List.take_left']
        · rfl
        · rfl
      · refine List.map_congr_left fun i _ => ?_
        show wrapI (restAt ws sh (pre ++ x :: xs) (pre.length + (i + 1))) d = wrapI (restAt ws sh (pre ++ [x] ++ xs) ((pre ++ [x]).length + i)) d
        rw [List.append_assoc, List.length_append, List.length_singleton]
        show _ = wrapI (restAt ws sh (pre ++ x :: xs) (pre.length + 1 + i)) d
        rw [show pre.length + 1 + i = pre.length + (i + 1) by omega]
  have := key row []
  unfold restsF toldR
  rw [List.map_map, ← this]
  refine List.map_congr_left fun i _ => ?_
  show wrapI (restAt ws sh row i) d = wrapI (restAt ws sh ([] ++ row) (0 + i)) d
  rw [List.nil_append, Nat.zero_add]
theorem rests_len (ws : List Int) (sh d : Nat) : ∀ (row pre : List Int), (restsGo ws sh d pre row).length = row.length
  | [], _ => rfl
  | x :: xs, pre => by
    show (restsGo ws sh d (pre ++ [x]) xs).length + 1 = xs.length + 1
    rw [rests_len ws sh d xs]
theorem back_len (ws : List Int) (sh d : Nat) : ∀ (row pre : List Int), (backGo ws sh d pre row).length = row.length
  | [], _ => rfl
  | x :: xs, pre => by
    show (backGo ws sh d _ xs).length + 1 = xs.length + 1
    rw [back_len ws sh d xs]
theorem rests_samples (ws : List Int) (sh d : Nat) : ∀ (row pre : List Int), Samples d (restsGo ws sh d pre row)
  | [], _ => fun _ h => nomatch h
  | x :: xs, pre => fun n hn => by
    rcases List.mem_cons.mp hn with rfl | hn
    · exact ⟨wrap_lo _ _, wrap_hi _ _⟩
    · exact rests_samples ws sh d xs _ n hn
theorem back_samples (ws : List Int) (sh d : Nat) : ∀ (row pre : List Int), Samples d (backGo ws sh d pre row)
  | [], _ => fun _ h => nomatch h
  | x :: xs, pre => fun n hn => by
    rcases List.mem_cons.mp hn with rfl | hn
    · exact ⟨wrap_lo _ _, wrap_hi _ _⟩
    · exact back_samples ws sh d xs _ n hn
theorem Samples.cons {d : Nat} {x : Int} {xs : List Int} (h : Samples d (x :: xs)) : (-(2 ^ (d - 1)) ≤ x ∧ x ≤ 2 ^ (d - 1) - 1) ∧ Samples d xs := ⟨h x List.mem_cons_self, fun n hn => h n (List.mem_cons_of_mem _ hn)⟩
theorem back_rests (ws : List Int) (sh d : Nat) : ∀ (row pre : List Int), Samples d row → backGo ws sh d pre (restsGo ws sh d pre row) = row
  | [], _, _ => rfl
  | x :: xs, pre, h => by
    obtain ⟨h1, h2⟩ := h.cons
    show wrapI (wrapI (x - told0 ws sh pre) d + told0 ws sh pre) d :: backGo ws sh d (pre ++ [wrapI (wrapI (x - told0 ws sh pre) d + told0 ws sh pre) d]) (restsGo ws sh d (pre ++ [x]) xs) = x :: xs
    rw [wrap_sub_add h1.1 h1.2, back_rests ws sh d xs _ h2]
theorem rests_back (ws : List Int) (sh d : Nat) : ∀ (row pre : List Int), Samples d row → restsGo ws sh d pre (backGo ws sh d pre row) = row
  | [], _, _ => rfl
  | x :: xs, pre, h => by
    obtain ⟨h1, h2⟩ := h.cons
    show wrapI (wrapI (x + told0 ws sh pre) d - told0 ws sh pre) d :: restsGo ws sh d (pre ++ [wrapI (x + told0 ws sh pre) d]) (backGo ws sh d (pre ++ [wrapI (x + told0 ws sh pre) d]) xs) = x :: xs
    rw [wrap_add_sub h1.1 h1.2, rests_back ws sh d xs _ h2]
/-! ### all rows of a depth -/
def smp (d : Nat) : List Int := (List.range (2 * 2 ^ (d - 1))).map fun (i : Nat) => -(2 ^ (d - 1)) + (i : Int)
def allRows (d : Nat) : Nat → List (List Int)
  | 0 => [[]]
  | m + 1 => (allRows d m).flatMap fun r => (smp d).map fun s => r ++ [s]
theorem mem_smp {d : Nat} {x : Int} : x ∈ smp d ↔ -(2 ^ (d - 1)) ≤ x ∧ x ≤ 2 ^ (d - 1) - 1 := by
  have hp := pw d
  have e : ((2 * 2 ^ (d - 1) : Nat) : Int) = 2 * 2 ^ (d - 1) := by rw [Int.natCast_mul, Int.natCast_pow]; rfl
  unfold smp
  constructor
  · intro h
    obtain ⟨i, hi, rfl⟩ := List.mem_map.mp h
    have hi := List.mem_range.mp hi
    have : (i : Int) < ((2 * 2 ^ (d - 1) : Nat) : Int) := Int.ofNat_lt.mpr hi
    omega
  · rintro ⟨h1, h2⟩
    refine List.mem_map.mpr ⟨(x + 2 ^ (d - 1)).toNat, List.mem_range.mpr ?_, by omega⟩
    have : ((x + 2 ^ (d - 1)).toNat : Int) < ((2 * 2 ^ (d - 1) : Nat) : Int) := by omega
    exact Int.ofNat_lt.mp this
theorem mem_rows {d : Nat} : ∀ {m : Nat} {r : List Int}, r ∈ allRows d m ↔ r.length = m ∧ Samples d r
  | 0, r => by
    show r ∈ [[]] ↔ _
    constructor
    · intro h
      rw [List.mem_singleton.mp h]
      exact ⟨rfl, fun _ h => nomatch h⟩
    · rintro ⟨h, _⟩
      rw [List.length_eq_zero_iff.mp h]
      exact List.mem_singleton.mpr rfl
  | m + 1, r => by
    show r ∈ (allRows d m).flatMap _ ↔ _
    constructor
    · intro h
      obtain ⟨q, hq, hr⟩ := List.mem_flatMap.mp h
      obtain ⟨s, hs, rfl⟩ := List.mem_map.mp hr
      obtain ⟨h1, h2⟩ := mem_rows.mp hq
      refine ⟨by rw [List.length_append, h1]; rfl, fun n hn => ?_⟩
      rcases List.mem_append.mp hn with hn | hn
      · exact h2 n hn
      · rw [List.mem_singleton.mp hn]
        exact mem_smp.mp hs
    · rintro ⟨h1, h2⟩
      have hne : r ≠ [] := fun e => by rw [e] at h1; cases h1
      refine List.mem_flatMap.mpr ⟨r.dropLast, mem_rows.mpr ⟨by rw [List.length_dropLast, h1]; rfl, fun n hn => h2 n (List.dropLast_subset r hn)⟩, List.mem_map.mpr ⟨r.getLast hne, mem_smp.mpr (h2 _ (List.getLast_mem hne)), List.dropLast_concat_getLast hne⟩⟩
theorem smp_nodup (d : Nat) : (smp d).Nodup := by
  unfold smp
  refine List.Pairwise.map _ (fun a b h => ?_) List.nodup_range
  intro e
  exact h (by omega)
theorem rows_nodup (d : Nat) : ∀ m, (allRows d m).Nodup
  | 0 => by simp [allRows]
  | m + 1 => by
    show ((allRows d m).flatMap fun r => (smp d).map fun s => r ++ [s]).Nodup
    have h := rows_nodup d m
    unfold List.Nodup at h ⊢
    rw [List.pairwise_flatMap]
    refine ⟨fun r _ => ?_, ?_⟩
    · refine List.Pairwise.map _ (fun a b h => ?_) (smp_nodup d)
      intro e
      have := List.append_cancel_left e
      exact h (by injection this)
    · refine List.Pairwise.imp (fun {a b} h => ?_) h
      intro x hx y hy e
      obtain ⟨s, _, rfl⟩ := List.mem_map.mp hx
      obtain ⟨t, _, rfl⟩ := List.mem_map.mp hy
      have := congrArg List.dropLast e
      rw [List.dropLast_concat, List.dropLast_concat] at this
      exact h this
/-- the rests of all rows are all rows -/
theorem rests_perm (ws : List Int) (sh d m : Nat) : ((allRows d m).map (restsF ws sh d)).Perm (allRows d m) := by
  have inj : ∀ a ∈ allRows d m, ∀ b ∈ allRows d m, restsF ws sh d a = restsF ws sh d b → a = b := fun a ha b hb e => by
    rw [restsF_go, restsF_go] at e
    rw [← back_rests ws sh d a [] (mem_rows.mp ha).2, e, back_rests ws sh d b [] (mem_rows.mp hb).2]
  have nd : ((allRows d m).map (restsF ws sh d)).Nodup := by
    have h := rows_nodup d m
    unfold List.Nodup at h ⊢
    rw [List.pairwise_map]
    refine List.Pairwise.imp_of_mem (fun {a b} ha hb hne e => ?_) h
    exact hne (inj a ha b hb e)
  refine (List.perm_ext_iff_of_nodup nd (rows_nodup d m)).mpr fun x => ⟨fun h => ?_, fun h => ?_⟩
  · obtain ⟨r, hr, rfl⟩ := List.mem_map.mp h
    obtain ⟨h1, h2⟩ := mem_rows.mp hr
    rw [restsF_go]
    exact mem_rows.mpr ⟨by rw [rests_len, h1], rests_samples ws sh d r []⟩
  · obtain ⟨h1, h2⟩ := mem_rows.mp h
    refine List.mem_map.mpr ⟨backGo ws sh d [] x, mem_rows.mpr ⟨by rw [back_len, h1], back_samples ws sh d x []⟩, ?_⟩
    rw [restsF_go, rests_back ws sh d x [] h2]
end My

namespace My
open PySem PySem.Spec PyProof.Rows L2 Pre
theorem pow_pred {d : Nat} (h : 1 ≤ d) : (1 : Int) * 2 ^ ((d : Int) - 1).toNat = 2 ^ (d - 1) := by rw [pred_toNat h, Int.one_mul]
/-- a list of lists of whole numbers -/
def RowsAt (H : Hp) (p : Addr) (rows : List (List Int)) : Prop := ∃ as : List Addr, H p = some (.lst (as.map V.ref)) ∧ as.length = rows.length ∧ ∀ (i : Nat) (a : Addr) (r : List Int), as[i]? = some a → rows[i]? = some r → H a = some (.lst (r.map V.int))
theorem RowsAt.same {H H' : Hp} {p : Addr} {rows : List (List Int)} (h : RowsAt H p rows) (s : Same H H') : RowsAt H' p rows := by
  obtain ⟨as, h1, h2, h3⟩ := h
  exact ⟨as, s _ _ h1, h2, fun i a r ha hr => s _ _ (h3 i a r ha hr)⟩
theorem flat_take {α β : Type} (f : α → List β) {l : List α} {i : Nat} {x : α} (h : l[i]? = some x) : (l.take (i + 1)).flatMap f = (l.take i).flatMap f ++ f x := by
  rw [List.take_add_one, h, List.flatMap_append]
  simp
theorem rows_len (d : Nat) (h : d ≤ 3) : ∀ m, m ≤ 3 → (allRows d m).length ≤ 8 ^ m
  | 0, _ => by simp [allRows]
  | m + 1, hm => by
    have ih := rows_len d h m (by omega)
    have hs : (smp d).length ≤ 8 := by
      unfold smp
      rw [List.length_map, List.length_range]
      have : 2 ^ (d - 1) ≤ 2 ^ 2 := Nat.pow_le_pow_right (by decide) (by omega)
      omega
    have e : ∀ l : List (List Int), (l.flatMap fun r => (smp d).map fun s => r ++ [s]).length = l.length * (smp d).length := fun l => by
      induction l with
      | nil => simp
      | cons x r ih => rw [List.flatMap_cons, List.length_append, List.length_map, ih, List.length_cons, Nat.succ_mul]; omega
    show ((allRows d m).flatMap _).length ≤ 8 ^ (m + 1)
    rw [e, Nat.pow_succ]
    exact Nat.mul_le_mul ih hs
section
variable {P : Program} {w : World} {K : PySem.W.Frag} {mg : Str → Option Value} {base : Heap}
def sp_law_weights : Sp := fun vs H Q _ => ∃ (g : Addr) (m : Nat) (n : Nat), vs = [.ref g, .int m] ∧ GenAt H g n ∧ n ≤ 10 ^ 9 ∧ m ≤ 8 ∧
  ∀ H' p ws, But g H H' → H p = none → H' p = some (.lst (ws.map V.int)) → GenAt H' g (n + 10000) → Weights ws → ws.length = m → Q (.ref p) H'
/-! ### all rows -/
def sp_law_all_rows : Sp := fun vs H Q _ => ∃ d m : Nat, vs = [.int d, .int m] ∧ 1 ≤ d ∧ d ≤ 3 ∧ m ≤ 3 ∧ ∀ H' p, Same H H' → RowsAt H' p (allRows d m) → Q (.ref p) H'
theorem G_law_all_rows (T : Top K mg) : FnOk P w K mg base CX0 1 T.f_law_all_rows T.fd_law_all_rows ["_law_depth", "_law_many"] sp_law_all_rows := by
  refine T.F_law_all_rows.ok sc_law_all_rows (fun vs H Q E h => by obtain ⟨d, m, rfl, _⟩ := h; rfl) (fun cdv A outer s H vs Q E hr h => ?_)
  obtain ⟨d, m, rfl, h0, h1, hm, q⟩ := h
  refine ⟨_, PSs.nox (pss_cons (ps_set (i := 2) sc_law_all_rows.nd rfl (by first | exact Or.inl rfl | exact Or.inr rfl) (pe_lst (pa_cons (pe_lst pa_nil) pa_nil)))
  (pss_cons (ps_for PassesOwn.never rfl (pi_range1 (by rfl) T.n_range (pa_cons (pv 1) pa_nil)) (pg_name (i := 3) sc_law_all_rows.nd rfl (by first | exact Or.inl rfl | exact Or.inr rfl))
    (pss_cons (ps_set (i := 4) sc_law_all_rows.nd rfl (by first | exact Or.inl rfl | exact Or.inr rfl) (pe_lst pa_nil))
  (pss_cons (ps_for PassesOwn.never rfl (k_piL K rfl (pv 2)) (pg_name (i := 5) sc_law_all_rows.nd rfl (by first | exact Or.inl rfl | exact Or.inr rfl))
    (pss_one (ps_set (i := 4) sc_law_all_rows.nd rfl (by first | exact Or.inl rfl | exact Or.inr rfl) (pe_op op_cat (pv 4) (pe_lc (own := [("_law_sample", 6)]) (g := gName 6) (tt := tYes) (by rfl) sc_law_all_rows.nd (pi_range2 (by rfl) T.n_range (pa_cons (pe_un un_neg (pe_op op_shl pe_int (pe_op op_sub (pv 0) pe_int))) (pa_cons (pe_op op_shl pe_int (pe_op op_sub (pv 0) pe_int)) pa_nil))) (blkOk_by (own := [("_law_sample", 6)]) (N := N_law_all_rows) (sc := defScope s_law_all_rows) (by decide +kernel)) (fun _ _ _ _ _ => (pg_name (i := 6) sc_law_all_rows.nd rfl (by first | exact Or.inl rfl | exact Or.inr rfl))) (fun _ _ _ _ _ => pts_nil) (fun _ _ _ _ _ => (pe_op op_cat (pv 5) (pe_lst (pa_cons (pv 6) pa_nil)))))))))
  (pss_one (ps_set (i := 2) sc_law_all_rows.nd rfl (by first | exact Or.inl rfl | exact Or.inr rfl) (pv 4))))))
  (pss_one (ps_ret (pv 2))))), ?_⟩
  have hp := pow_pos' (d - 1)
  have hp2 : (2 : Int) ^ (d - 1) ≤ 2 ^ 2 := pow2_le (by omega)
  refine ⟨Nat.zero_le _, fun c nc => ?_⟩
  obtain ⟨H1, e1, s1, h1'⟩ := fresh (.lst []) nc
  rw [e1]
  refine ⟨(show 1 ≤ sizeLine by decide), fun pf npf => ?_⟩
  obtain ⟨H2, e2, s2, h2⟩ := fresh (.lst [V.ref c]) npf
  rw [e2]
  refine ⟨_, rfl, _, rfl, by omega, by omega, ?_⟩
  rw [Int.toNat_natCast]
  refine for_range (lo := 0) (n := m) (fun i σ H3 => ∃ (v3 v4 v5 v6 : Option V) (pf : Addr), σ = [some (.int d), some (.int m), some (.ref pf), v3, v4, v5, v6] ∧ Same H H3 ∧ RowsAt H3 pf (allRows d i)) ⟨none, none, none, none, pf, rfl, s1.trans s2, ?_⟩ ?_ ?_
  · refine ⟨[c], h2, rfl, fun i a r ha hr => ?_⟩
    have hi : i = 0 := by
      have := (List.getElem?_eq_some_iff.mp ha).1
      rw [List.length_singleton] at this
      omega
    subst hi
    cases ha
    cases hr
    exact s2 _ _ h1'
  · rintro i σ H3 hi ⟨v3, v4, v5, v6, pf, rfl, s3, hR⟩
    have hrl := rows_len d h1 i (by omega)
    have h8 : 8 ^ i ≤ 8 ^ 2 := Nat.pow_le_pow_right (by decide) (by omega)
    refine ⟨Nat.zero_le _, fun pl npl => ?_⟩
    obtain ⟨H4, e4, s4, h4⟩ := fresh (.lst []) npl
    rw [e4]
    obtain ⟨as, ha, hal, hat⟩ := hR.same s4
    have hA : SqL K H4 pf (as.map V.ref) := .inl (.inl ha)
    refine ⟨_, rfl, pf, rfl, ⟨_, hA⟩, for_list (K := K) (a := pf) (xs := as.map V.ref) (fun j σ H5 => ∃ (v5 v6 : Option V) (pl : Addr), σ = [some (.int d), some (.int m), some (.ref pf), some (.int (0 + (i : Int))), some (.ref pl), v5, v6] ∧ Same H4 H5 ∧ RowsAt H5 pl (((allRows d i).take j).flatMap fun r => (smp d).map fun s => r ++ [s])) ⟨_, _, pl, rfl, Same.refl _, [], h4, rfl, fun i a r ha hr => by simp at ha⟩ (fun j σ H5 _ ⟨_, _, _, _, s, _⟩ => s.seq hA) ?_ ?_⟩
    · rintro j x σ H5 hx ⟨v5, v6, pl, rfl, s5, hL⟩
      rw [List.getElem?_map] at hx
      obtain ⟨a, ha', rfl⟩ := Option.map_eq_some_iff.mp hx
      have hj : j < as.length := (List.getElem?_eq_some_iff.mp ha').1
      obtain ⟨r, hr⟩ : ∃ r, (allRows d i)[j]? = some r := ⟨_, List.getElem?_eq_getElem (by omega)⟩
      have hra : H5 a = some (.lst (r.map V.int)) := s5 _ _ (hat j a r ha' hr)
      have hrm := (mem_rows.mp (List.mem_of_getElem? hr)).1
      obtain ⟨bs, hb, hbl, hbt⟩ := hL
      -- the comprehension
      refine ⟨_, rfl, ?_⟩
      refine ⟨_, rfl, _, _, rfl, rfl, _, _, rfl, rfl, ⟨by omega, by omega, by decide⟩, _, rfl, _, rfl, _, _, rfl, rfl, _, _, rfl, rfl, ⟨by omega, by omega, by decide⟩, ?_⟩
      refine ⟨-(1 * 2 ^ ((d : Int) - 1).toNat), 1 * 2 ^ ((d : Int) - 1).toNat, rfl, ?_⟩
      rw [pow_pred h0]
      refine ⟨⟨by omega, by omega, by omega, by omega⟩, fun D nD => ?_⟩
      have en : ((2 : Int) ^ (d - 1) - -(2 ^ (d - 1))).toNat = 2 * 2 ^ (d - 1) := by
        have e : ((2 * 2 ^ (d - 1) : Nat) : Int) = 2 * 2 ^ (d - 1) := by rw [Int.natCast_mul, Int.natCast_pow]; rfl
        omega
      rw [en]
      have hn4 : 2 * 2 ^ (d - 1) ≤ 8 := by
        have : 2 ^ (d - 1) ≤ 2 ^ 2 := Nat.pow_le_pow_right (by decide) (by omega)
        omega
      refine lc_relR (lo := -(2 ^ (d - 1))) (n := 2 * 2 ^ (d - 1)) (fun k y H' => ∃ c, y = .ref c ∧ c ≠ D ∧ H' c = some (.lst ((r ++ [-(2 ^ (d - 1)) + (k : Int)]).map V.int))) nD (by rw [sizeLine_eq]; omega) ?_ (fun x => rfl) ?_ ?_
      · rintro k y Ha Hb off ⟨c, e, nc, hc⟩
        exact ⟨c, e, nc, off _ _ nc hc⟩
      · intro k H6 xs hk s6 hD6 Qt qt
        refine ⟨_, rfl, _, rfl, (show 1 ≤ sizeLine by decide), fun c1 nc1 => ?_⟩
        obtain ⟨H7, e7, s7, h7⟩ := fresh (.lst [V.int (-(2 ^ (d - 1)) + (k : Int))]) nc1
        rw [e7]
        refine ⟨a, c1, _, _, rfl, rfl, s7 _ _ (s6 _ _ hra), h7, by rw [List.length_map, sizeLine_eq]; simp; omega, fun c2 nc2 => ?_⟩
        refine qt _ _ (s7.trans (same_upd nc2)) ⟨c2, rfl, ?_, ?_⟩
        · exact (ne_of_none (s7 _ _ hD6) nc2).symm
        · rw [upd_same, List.map_append]
          rfl
      · intro H6 ys s6 hD6 hyl hyR
        have hb6 := s6 _ _ hb
        have hbn : bs.length ≤ 512 := by
          rw [hbl]
          have e : ∀ l : List (List Int), (l.flatMap fun r => (smp d).map fun s => r ++ [s]).length = l.length * (smp d).length := fun l => by
            induction l with
            | nil => simp
            | cons x r ih => rw [List.flatMap_cons, List.length_append, List.length_map, ih, List.length_cons, Nat.succ_mul]; omega
          have hsm : (smp d).length ≤ 8 := by unfold smp; rw [List.length_map, List.length_range]; exact hn4
          rw [e, List.length_take]
          exact Nat.le_trans (Nat.mul_le_mul (show min j (allRows d i).length ≤ 64 by omega) hsm) (by decide)
        refine ⟨pl, D, _, _, rfl, rfl, hb6, hD6, by rw [List.length_map, hyl, sizeLine_eq]; omega, fun p2 np2 => ?_⟩
        obtain ⟨cs, rfl, hcs⟩ : ∃ cs : List Addr, ys = cs.map V.ref ∧ ∀ (k : Nat) (c : Addr), cs[k]? = some c → H6 c = some (.lst ((r ++ [-(2 ^ (d - 1)) + (k : Int)]).map V.int)) := by
          have key : ∀ (ys : List V) (o : Nat), (∀ (i : Nat) (y : V), ys[i]? = some y → ∃ c, y = .ref c ∧ c ≠ D ∧ H6 c = some (.lst ((r ++ [-(2 ^ (d - 1)) + ((o + i : Nat) : Int)]).map V.int))) → ∃ cs : List Addr, ys = cs.map V.ref ∧ ∀ (k : Nat) (c : Addr), cs[k]? = some c → H6 c = some (.lst ((r ++ [-(2 ^ (d - 1)) + ((o + k : Nat) : Int)]).map V.int)) := by
            intro ys
            induction ys with
            | nil => intro o _; exact ⟨[], rfl, fun k c h => by simp at h⟩
            | cons y r' ih =>
              intro o h
              obtain ⟨c, e, _, hc⟩ := h 0 y rfl
              obtain ⟨cs, e2, h2⟩ := ih (o + 1) fun i y hy => by
                obtain ⟨c, a, b, d⟩ := h (i + 1) y hy
                exact ⟨c, a, b, by rw [show o + 1 + i = o + (i + 1) by omega]; exact d⟩
              refine ⟨c :: cs, by rw [e, e2]; rfl, fun k c' hk => ?_⟩
              cases k with
              | zero => cases hk; exact hc
              | succ k =>
                have := h2 k c' hk
                rw [show o + 1 + k = o + (k + 1) by omega] at this
                exact this
          obtain ⟨cs, a, b⟩ := key ys 0 fun i y hy => by
            obtain ⟨c, e, nc, hc⟩ := hyR i y hy
            exact ⟨c, e, nc, by rw [Nat.zero_add]; exact hc⟩
          exact ⟨cs, a, fun k c hk => by have := b k c hk; rw [Nat.zero_add] at this; exact this⟩
        have hcl : cs.length = 2 * 2 ^ (d - 1) := by rw [List.length_map] at hyl; exact hyl
        refine ⟨_, _, p2, rfl, (s5.trans s6).trans (same_upd np2), bs ++ cs, ?_, ?_, ?_⟩
        · rw [upd_same, List.map_append]
        · rw [List.length_append, hbl, flat_take _ hr, List.length_append, hcl, List.length_map]
          unfold smp
          rw [List.length_map, List.length_range]
        · intro k c row hc hrow
          rw [flat_take _ hr] at hrow
          have s6' := s6.trans (same_upd (o := .lst (bs.map V.ref ++ cs.map V.ref)) np2)
          by_cases hk : k < bs.length
          · rw [List.getElem?_append_left hk] at hc
            rw [List.getElem?_append_left (by omega)] at hrow
            exact s6' _ _ (hbt k c row hc hrow)
          · rw [List.getElem?_append_right (by omega)] at hc
            rw [List.getElem?_append_right (by omega), ← hbl, List.getElem?_map] at hrow
            obtain ⟨sm, hsm, rfl⟩ := Option.map_eq_some_iff.mp hrow
            have h6 := hcs _ _ hc
            unfold smp at hsm
            rw [List.getElem?_map] at hsm
            obtain ⟨z, hz, rfl⟩ := Option.map_eq_some_iff.mp hsm
            have ez : z = k - bs.length := by
              have hlt := (List.getElem?_eq_some_iff.mp hz).1
              rw [List.length_range] at hlt
              rw [List.getElem?_range hlt] at hz
              exact (Option.some.inj hz).symm
            rw [ez]
            exact same_upd np2 _ _ h6
    · rintro σ H5 ⟨v5, v6, pl, rfl, s5, hL⟩
      rw [List.length_map, hal, List.take_length] at hL
      exact ⟨_, rfl, _, _, _, _, pl, rfl, (s3.trans s4).trans s5, hL⟩
  · rintro σ H3 ⟨v3, v4, v5, v6, pf, rfl, s3, hR⟩
    exact ⟨_, rfl, q _ pf s3 hR⟩
end
end My

namespace My
open PySem PySem.Spec PyProof.Rows L2 Pre
/-! ### promises for callers that stand in no repr: within them repr of lists shows its items -/
structure FnG (P : Program) (w : World) (K : PySem.W.Frag) (mg : Str → Option Value) (base : Heap) (CX : CXT) (k : Nat) (f : Addr) (fd : FuncData) (ps : List Str) (sp : Sp) : Prop where
  many : ∀ xs H Q E, sp xs H Q E → xs.length = ps.length
  does : ∀ (A : Around), A.guards = some [] → Room k A → ∀ (fr : List Env) (t : Shared) (H : Hp), Env0 P w K mg base A fr t H → ∀ (ar : Args) (us : List Value) (xs : List V), BindsTo t fd ar (ps.zip us) → Vals xs us →
    ∀ (Q : VK) (E : XK), sp xs H Q E → codeAny (model P w) A (.call (.ref f) ar) (CR CX fr P w H t Q E) t
section
variable {P : Program} {w : World} {K : PySem.W.Frag} {mg : Str → Option Value} {base : Heap} {CX : CXT} {k : Nat} {f : Addr} {fd : FuncData} {ps : List Str} {sp : Sp}
theorem FnG.of (F : FnOk P w K mg base CX k f fd ps sp) : FnG P w K mg base CX k f fd ps sp :=
  ⟨F.len, fun A _ hr fr t H e ar us xs b v Q E h => F.run A fr t H ar us xs Q E hr e b v h⟩
/-- a body makes a promise -/
theorem FnG.body {x qual : Str} {pr : Arguments} {bd : List Stmt} {sc : Scope} {dvs : List V} {kws : List (Str × V)} {N : List Str} (F : FunD K x qual pr bd sc dvs kws f fd) (S : FnScope N ps sc) (hm : ∀ xs H Q E, sp xs H Q E → xs.length = ps.length)
    (go : ∀ (cv : Value) (A : Around) (fr : List Env) (t : Shared) (H : Hp) (xs : List V) (Q : VK) (E : XK), A.guards = some [] → Room k (A.deeper (envOfC qual sc t.heap.objs.size f cv)) → sp xs H Q E →
      ∃ τ, PSs (cxOf CX P w K mg base N qual sc f cv A fr t H E) bd τ ∧ τ { nx := fun _ H1 => Q .non H1, rt := Q } (start N xs) H) : FnG P w K mg base CX (k + 1) f fd ps sp := by
  obtain ⟨c0, d0, dv, kv, dc, pm, an, cv, ct, sl, rfl, lk, hcode, _, _⟩ := F.ex
  refine ⟨hm, fun A gd hr fr t H e0 ar us xs hb rv Q E hs => ?_⟩
  have hin : K.In t.heap := e0.mod.kin.keeps fun b o z => (e0.bs b o z).1
  have hno : t.heap.NoLimit := e0.mod.nolimit.keeps fun b o z => (e0.bs b o z).1
  refine codeAny_call_function hr.depth (hin _ _ lk) rfl S.co S.gen rfl (PySem.W.codeRec_of hin hcode) (hb _ _ _ _ ?_)
  refine wpAny_newFunctionEnv_cells S.kind (fun y hy => ?_) fun env he t1 hx => ?_
  · obtain ⟨n, u⟩ := y
    rcases S.par n (List.of_mem_zip hy).1 with z | z
    · exact Or.inl z
    · exact Or.inr ⟨z, PySem.W.cellsFrom_some _ _ _ (Or.inl z)⟩
  · subst he
    refine ⟨hno.keeps hx.toInCall.keep, codeAny_func ?_⟩
    obtain ⟨τ, hτ, hq⟩ := go cv A fr t H xs Q E gd (hr.deeper _) hs
    have J := inv_start (CX := CX) (E := E) S hr.hd e0 (hm _ _ _ _ hs) rv hx
    refine wpAny_mono (hτ.run [] t1 (start N xs) H _ J hq) (fun fl t2 h2 => ?_) fun _ _ z => z
    cases fl with
    | brk => exact False.elim h2.choose_spec.choose_spec.2
    | cont => exact False.elim h2.choose_spec.choose_spec.2
    | next =>
      obtain ⟨σ2, H2, J2, q2⟩ := h2
      exact ⟨V.non, H2, J2.os, J2.bare, J2.base, J2.hok, rfl, q2⟩
    | ret u =>
      obtain ⟨v2, σ2, H2, J2, r2, q2⟩ := h2
      exact ⟨v2, H2, J2.os, J2.bare, J2.base, J2.hok, r2, q2⟩
end
section
variable {X : Cx} {CX : CXT} {k : Nat} {f : Addr} {fd : FuncData} {ps : List Str} {sp : Sp} {dvs : List V} {ds : List Value} {E : XK} {x : Str} {p pos : Pos} {e : Expr} {es : List Expr} {t : TA}
theorem go_g {pins : List (Addr × Obj)} {σ : L2.St} {H : Hp} {s : Shared} {Q : VK} {us : List Value} {xs : List V} (F : FnG X.prog X.w X.K X.mg X.base CX k f fd ps sp) (gd : X.A.guards = some []) (hr : Room k X.A) (hb : Binds X.K fd ps ds) (hd : Vals dvs ds)
    (hx : Passes CX X E) (I : Inv X pins σ H s) (r : Vals xs us) (h : sp (xs ++ dvs) H Q E) : wpAny (model X.prog X.w) X.A (call (.ref f) us) (EP X pins σ Q) X.xe s := by
  have rr := Vals.append r hd
  refine wpAny_call (codeAny_mono (F.does X.A gd hr X.stack s H I.env0 ⟨us, []⟩ (us ++ ds) (xs ++ dvs) (hb s us I.kIn (by rw [← rr.length]; exact F.many _ _ _ _ h)) rr Q E h) fun z s2 hz => ?_)
  match z, hz with
  | .error e, hz => exact hx pins σ H s e s2 I hz
  | .ok (.ret u), hz => exact I.after hz
theorem pe_callG (F : FnG X.prog X.w X.K X.mg X.base CX k f fd ps sp) (gd : X.A.guards = some []) (hr : Room k X.A) (hg : Gl X x) (hm : X.mg x = some (.ref f)) (hk : PySem.W.keepIn X.K (.ref f) = true) (hb : Binds X.K fd ps ds) (hd : Vals dvs ds) (hx : Passes CX X E)
    (ha : PA X (e :: es) t) (hdb : (x == ("__debug__" : Str)) = false := by decide) (he : starEach (e :: es) X.env = (false, eval e X.env) :: starEach es X.env := by rfl) (hpl : (backTo pos (starEach es X.env)).any (·.1) = false := by rfl) :
    PE X (.Call (.Name x p) (e :: es) [] pos) (tCall sp dvs E t) :=
  ⟨fun pins s σ H Q I h => wpAny_Call_Name_kw (ld_glob I hg hm (PySem.W.callWith_K (h₀ := X.base) I.ok.mod.kin hk (thn (ha.run pos pins s σ H _ I h) fun us s1 ⟨vs, H1, J, r, q⟩ => ⟨J.kIn, go_g F gd hr hb hd hx J r q⟩) he hpl) hdb)⟩
theorem pe_callG0 (F : FnG X.prog X.w X.K X.mg X.base CX k f fd ps sp) (gd : X.A.guards = some []) (hr : Room k X.A) (hg : Gl X x) (hm : X.mg x = some (.ref f)) (hk : PySem.W.keepIn X.K (.ref f) = true) (hb : Binds X.K fd ps ds) (hd : Vals dvs ds) (hx : Passes CX X E)
    (hdb : (x == ("__debug__" : Str)) = false := by decide) : PE X (.Call (.Name x p) [] [] pos) (tCall sp dvs E tNil) :=
  ⟨fun pins s σ H Q I h => wpAny_Call_Name_kw (ld_glob I hg hm (PySem.W.callWith_K0 I.kIn hk (go_g (us := []) F gd hr hb hd hx I .nil h)) hdb)⟩
end
/-! ### repr -/
def rRepr (K : PySem.W.Frag) : List V → Hp → VK → Prop := fun xs H Q => ∃ (x : V) (d : PyData), xs = [x] ∧ Dp K H x d ∧ d.showable = true ∧ SeqAt.shaped d = true ∧ d.shown.length ≤ sizeLine ∧ Q (.str d.shown) H
theorem call_repr {X : Cx} (gd : X.A.guards = some []) (hu : X.A.units + 65 < cLine) : CallR X (.builtin "repr") (rRepr X.K) := by
  intro pins s σ H xs us Q I r h
  obtain ⟨x, d, rfl, hd, hs, hsh, hl, q⟩ := h
  cases r with
  | cons rx rr =>
    cases rr
    rename_i u
    have hlay : d.canLay0 = true := SeqAt.canLay_of_shaped hsh
    have hdep : d.depth ≤ 64 := by
      have z : (d.canLay0 && decide (d.depth ≤ 64)) = true := hsh
      exact of_decide_eq_true (Bool.and_eq_true_iff.mp z).2
    obtain ⟨as, rd⟩ := Dp.reads I d x u hd rx
    have fin : ∀ h' v tk, (∀ b o, s.heap.get? b = some o → h'.get? b = some o) → EP X pins σ Q (.str d.shown v) { s with heap := h', toks := tk } := fun h' v tk hk => ⟨.str d.shown, H, I.kept hk, ⟨v, rfl⟩, q⟩
    cases hd with
    | non => cases rx; exact PySem.P.repr_of_none (fin _ _ _ fun _ _ z => z)
    | bl b => cases rx; exact PySem.P.repr_of_bool (fin _ _ _ fun _ _ z => z)
    | int i => obtain ⟨t, rfl⟩ := rx; exact PySem.P.repr_of_int (of_decide_eq_true hs) (fin _ _ _ fun _ _ z => z)
    | str y => obtain ⟨t, rfl⟩ := rx; exact PySem.P.repr_of_str (fin _ _ _ fun _ _ z => z) hl
    | lst _ _ => cases rx; exact repr_of_reads' rd hs (PyData.noDict_hsm (PyData.hasDict_of_canLay _ hlay)) gd (by omega) (fun _ _ z => z) fin hl
    | tup _ _ => cases rx; exact repr_of_reads' rd hs (PyData.noDict_hsm (PyData.hasDict_of_canLay _ hlay)) gd (by omega) (fun _ _ z => z) fin hl
theorem k_repr {X : Cx} (K : PySem.W.Frag) (h : X.K = K) (gd : X.A.guards = some []) (hu : X.A.units + 65 < cLine) : CallR X (.builtin "repr") (rRepr K) := by subst h; exact call_repr gd hu
theorem hu65 {k : Nat} {A : Around} (r : Room k A) : A.units + 65 < cLine := by have := r.un; omega
/-- rows of whole numbers, shown -/
theorem dp_ints {K : PySem.W.Frag} {H : Hp} : ∀ ns : List Int, DpAll K H (ns.map V.int) (ns.map PyData.int)
  | [] => .nil
  | n :: ns => .cons (.int n) (dp_ints ns)
theorem dp_row {K : PySem.W.Frag} {H : Hp} {a : Addr} {ns : List Int} (h : SqL K H a (ns.map V.int)) : Dp K H (.ref a) (.list (ns.map PyData.int)) := .lst h (dp_ints ns)
def shownR (ns : List Int) : Str := PyData.shown (.list (ns.map PyData.int))
theorem ints_lay : ∀ ns : List Int, PyData.canLayAll0 (ns.map PyData.int) = true
  | [] => rfl
  | n :: ns => by simp [PyData.canLayAll0, PyData.canLay0, ints_lay ns]
theorem ints_depth : ∀ ns : List Int, PyData.depthAll (ns.map PyData.int) ≤ 1
  | [] => by simp [PyData.depthAll]
  | n :: ns => by
    have := ints_depth ns
    simp only [List.map_cons, PyData.depthAll, PyData.depth]
    omega
theorem row_shaped (ns : List Int) : SeqAt.shaped (.list (ns.map PyData.int)) = true := by
  have h := ints_depth ns
  show (PyData.canLay0 (.list (ns.map PyData.int)) && decide (PyData.depth (.list (ns.map PyData.int)) ≤ 64)) = true
  rw [Bool.and_eq_true]
  exact ⟨by simp only [PyData.canLay0]; exact ints_lay ns, decide_eq_true (by simp only [PyData.depth]; omega)⟩
theorem ints_show : ∀ ns : List Int, (∀ n ∈ ns, n.natAbs.log2 < 1920) → PyData.showableAll (ns.map PyData.int) = true
  | [], _ => rfl
  | n :: ns, h => by
    simp only [List.map_cons, PyData.showableAll, PyData.showable]
    rw [decide_eq_true (h n List.mem_cons_self), ints_show ns fun m hm => h m (List.mem_cons_of_mem _ hm)]
    rfl
/-! ### sorted, any number -/
theorem k_sortedI {X : Cx} (K : PySem.W.Frag) (h : X.K = K) : CallR X (.builtin "sorted") (rSortedI K) := by subst h; exact cr_sortedI
def rSortedA (K : PySem.W.Frag) : List V → Hp → VK → Prop := fun vs H Q => ∃ (a : Addr) (xs : List Str), vs = [V.ref a] ∧ SqL K H a (xs.map V.str) ∧ ∀ (ys : List Str) (p : Addr), ys.Perm xs → sortedS ys = true → H p = none → Q (.ref p) (upd H p (.lst (ys.map V.str)))
theorem k_sortedS {X : Cx} (K : PySem.W.Frag) (h : X.K = K) : CallR X (.builtin "sorted") (rSortedA K) := by
  subst h
  intro pins s σ H vs us Q I r h
  obtain ⟨a, xs, rfl, hs, q⟩ := h
  obtain ⟨its, rv, hl, hz⟩ := I.list hs
  rw [Vals.ref1 r]
  refine sorted_strsAny hl.isList rv.strs (by rw [← rv.length]; exact hz) fun out ys h1 h2 h3 => ?_
  obtain ⟨ep, at_⟩ := sortedAll_at s.heap its out
  refine ⟨.ref _, upd H (s.heap.objs.size + 1) (.lst (ys.map V.str)), I.laid (t' := s.toks) (fun _ _ => sortedAll_old) (Nat.le_succ _) ⟨?_, out.toList, ep, vals_of_strs h1, at_⟩, rfl, q ys _ h2 h3 (I.hok.fresh (Nat.le_succ _))⟩
  rw [List.length_map, h2.length_eq]
  rw [List.length_map] at hz
  exact hz
theorem sorted_le : ∀ (l : List Str) (p : Str), risingS p l = true → (p :: l).Pairwise fun x y => x.cps.toList ≤ y.cps.toList
  | [], p, _ => List.pairwise_singleton _ _
  | x :: r, p, h => by
    obtain ⟨h1, h2⟩ := Bool.and_eq_true_iff.mp (show (!ltCps x.cps.toList p.cps.toList && risingS x r) = true from h)
    have hpx : p.cps.toList ≤ x.cps.toList := by
      rw [ltCps_eq] at h1
      intro z
      rw [decide_eq_true z] at h1
      cases h1
    have ih := sorted_le r x h2
    refine List.pairwise_cons.mpr ⟨fun y hy => ?_, ih⟩
    rcases List.mem_cons.mp hy with rfl | hy
    · exact hpx
    · exact List.le_trans hpx ((List.pairwise_cons.mp ih).1 y hy)
theorem sorted_uniq {xs ys : List Str} (h : xs.Perm ys) (hx : sortedS xs = true) (hy : sortedS ys = true) : xs = ys := by
  have pw : ∀ l : List Str, sortedS l = true → l.Pairwise fun x y => x.cps.toList ≤ y.cps.toList := fun l hl => by
    cases l with
    | nil => exact .nil
    | cons x r => exact sorted_le r x hl
  refine List.Perm.eq_of_pairwise (fun x y _ _ h1 h2 => ?_) (pw _ hx) (pw _ hy) h
  have e := List.le_antisymm h1 h2
  cases x with | mk a => cases y with | mk b => exact congrArg Str.mk (Array.toList_inj.mp e)
end My

namespace My
open PySem PySem.Spec PyProof.Rows L2 Pre
/-! ### the end of a law whose promise stands in no repr -/
/-- the script, tracked or one of the module's own objects -/
theorem script_env {P : Program} {w : World} {K : PySem.W.Frag} {mg mb : Str → Option Value} {a : Addr} {t : Shared} {us : List Value} {ns : List Int} (hin : K.In t.heap) (hgl : t.heap.Ns mainGlobals mg) (hbl : t.heap.Ns builtinsNs mb)
    (hbo : ∀ x : Str, x ≠ "__name__" → mb x = bootBuiltins x) (hno : t.heap.NoLimit) (hgs : t.gens = #[]) (at_a : t.heap.get? a = some { cls := .type "list", data := .seq us.toArray }) (ints_ : IntsAre us ns) (few : ns.length ≤ sizeLine) :
    ∃ (H : Hp) (base : Heap), Only H ∧ SqL K H a (ns.map V.int) ∧ K.In base ∧ base.Ns mainGlobals mg ∧ Env0 P w K mg base callerA [] t H := by
  have rv := vals_ints ints_
  have ul := ints_.length
  -- the module and the rest of the heap, whatever is tracked at a alone
  have rest : ∀ H : Hp, Only H → (∀ b, b ≠ a → H b = none) → (H a = none ∨ K.lookup a = none) → HOk P w H t.heap → SqL K H a (ns.map V.int) → ∃ (H : Hp) (base : Heap), Only H ∧ SqL K H a (ns.map V.int) ∧ K.In base ∧ base.Ns mainGlobals mg ∧ Env0 P w K mg base callerA [] t H := by
    intro H h1 h2 h3 h4 h5
    have dictFree : ∀ b o, t.heap.get? b = some o → (∃ es n, o.data = Data.dict es n) → H b = none := fun b o z ⟨es, n, d⟩ => by
      by_cases hb : b = a
      · rw [hb, at_a] at z
        cases z
        cases d
      · exact h2 b hb
    have nsKept : ∀ (b : Addr) (m : Str → Option Value), t.heap.Ns b m → (hidT t.heap H).Ns b m := fun b m z => by
      obtain ⟨o, es, ep, z1, z2, z3⟩ := z
      exact ⟨o, es, ep, hidT_get z1 (dictFree b o z1 ⟨_, _, z2⟩), z2, z3⟩
    have inKept : K.In (hidT t.heap H) := fun b o z => hidT_get (hin b o z) (by
      by_cases hb : b = a
      · rcases h3 with z3 | z3
        · rw [hb]; exact z3
        · rw [hb, z3] at z; cases z
      · exact h2 b hb)
    obtain ⟨mc, l1, l2⟩ := hno
    refine ⟨H, hidT t.heap H, h1, h5, inKept, nsKept _ _ hgl, ⟨rfl, ⟨inKept, nsKept _ _ hgl, ⟨mb, nsKept _ _ hbl, hbo⟩, ⟨mc, nsKept _ _ l1, l2⟩⟩, fun b o z => of_hidT z, ?_, trivial, fun b z => (nomatch z), h4, .of_eq hgs⟩⟩
    rw [hidT_size]
    exact Nat.le_refl _
  cases hk : K.lookup a with
  | some o =>
    have z := hin a o hk
    rw [at_a] at z
    cases z
    exact rest (fun _ => none) (fun _ => .inl rfl) (fun _ _ => rfl) (.inl rfl) (fun _ _ z => nomatch z) (.inr ⟨_, us.toArray, _, hk, rfl, rfl, rfl, by rw [List.size_toArray, ul]; exact few, by simpa using rv⟩)
  | none =>
    refine rest (upd (fun _ => none) a (.frz { cls := .type "list", data := .seq us.toArray } (.lst (ns.map V.int)))) (fun b => ?_) (fun b hb => upd_ne hb) (.inr hk) (fun b u z => ?_) (.inl (.inr ⟨_, upd_same⟩))
    · by_cases hb : b = a
      · rw [hb]; exact .inr ⟨_, _, upd_same⟩
      · exact .inl (upd_ne hb)
    · by_cases hb : b = a
      · subst hb
        rw [upd_same] at z
        cases z
        exact ⟨at_a, by rw [List.length_map]; exact few, us, _, rv, at_a⟩
      · rw [upd_ne hb] at z
        cases z
theorem end_g {l : PySem.W.OpenLaw} {n k : Nat} {q : Program} {loose : List Str} {XP : (Str → Option Value) → Heap → Prop} {YP : World → Heap → Prop} {d : DefRec} {x : Str} (hn : l.most = some n) (hn2 : n ≤ sizeLine) (hdf : d.params.defaults = []) (hr : Room k callerA)
    (F : ∀ (w : World) (mg : Str → Option Value) (fa : Addr) (h : Heap), YP w h → h.Ns mainGlobals mg → mg d.name = some (.ref fa) →
      ∃ (K : PySem.W.Frag) (fd : FuncData) (sp : Sp), K.In h ∧ (∀ (s : Shared) (u : Value), BindsTo s fd ⟨[u], []⟩ [(x, u)]) ∧
        (∀ (H : Hp) (a : Addr) (ns : List Int), ns.length ≤ n → SqL K H a (ns.map V.int) → sp [.ref a] H (fun v _ => v = .bl true) fun _ _ _ => False) ∧
        ∀ base : Heap, K.In base → base.Ns mainGlobals mg → FnG l.prog w K mg base CX0 k fa fd [x] sp) :
    PySem.W.WalkO q loose XP YP l.row.toRowW d [] (fun f vs => PySem.call f vs) := by
  refine Att.attach_call hn hdf fun w s₀ t mg mb fa o pm cd doc a us ns G Y ho hd hcd hmg at_a hi hl hg => ?_
  obtain ⟨K, fd, sp, hin, hb, hsp, hF⟩ := F w mg fa _ Y G.T.g hmg
  obtain ⟨H, base, only, hS, hKb, hgb, e0⟩ := script_env (P := l.prog) (w := w) hin G.T.g G.T.b G.T.builtins G.T.nolimit hg at_a hi (Nat.le_trans hl hn2)
  refine codeAny_mono ((hF base hKb hgb).does callerA rfl hr [] t H e0 ⟨[.ref a], []⟩ [.ref a] [.ref a] (hb t (.ref a)) (.cons rfl .nil) _ _ (hsp H a ns hl hS)) fun r t2 h => ?_
  match r, h with
  | .error e, h => exact (show False from h).elim
  | .ok (.ret u), h =>
    obtain ⟨v, H2, os, bare, un, hok2, rv, qv⟩ := h
    have qv : v = .bl true := qv
    subst qv
    have rv : u = Value.bool true := rv
    subst rv
    refine ⟨rfl, OldK.of_keep fun b o z => ?_, os, bare⟩
    rcases only b with hb | ⟨ob, ys, hb⟩
    · exact un.keep b o z hb (fun y => nomatch y) (fun y => nomatch y)
    · have z1 : t.heap.get? b = some ob := (e0.hok b _ hb).1
      have z2 : t2.heap.get? b = some ob := (hok2 b _ (un.frzs b ob _ hb)).1
      rw [z] at z1
      cases z1
      exact z2
end My

namespace My
open PySem PySem.Spec PyProof.Rows L2 Pre
section
variable {P : Program} {w : World} {K : PySem.W.Frag} {mg : Str → Option Value} {base : Heap}
/-! ### the guesser's own words -/
def sp_Guesser_weights (C : Addr) : Sp := fun vs H Q _ => ∃ (a : Addr) (ws : List Int) (sh : Nat), vs = [.ref a] ∧ GuesserAt C H a ws sh ∧ ∀ p H', H p = none → Same H H' → H' p = some (.lst (ws.map V.int)) → Q (.ref p) H'
theorem G_Guesser_weights (T : Top K mg) : FnOk P w K mg base CX0 1 T.f_Guesser_weights T.fd_Guesser_weights ["self"] (sp_Guesser_weights T.C_Guesser) := by
  refine T.F_Guesser_weights.ok sc_Guesser_weights (fun vs H Q E h => by obtain ⟨a, ws, sh, rfl, _⟩ := h; rfl) (fun cdv A outer s H vs Q E hr h => ?_)
  obtain ⟨a, ws, sh, rfl, hG, q⟩ := h
  refine ⟨_, PSs.nox (pss_one (ps_ret (pe_callTy (k_listOf K rfl) (by rfl) T.n_list (by decide +kernel) (pa_cons (pe_fld (pv 0) rfl) pa_nil)))), ?_⟩
  obtain ⟨hW, _, dx, p, ha, hp⟩ := id hG
  refine ⟨_, rfl, a, T.C_Guesser, dx, _, _, rfl, ha, T.cl_Guesser, T.na_Guesser_parts, rfl, p, _, rfl, .inl (.inl (.inl hp)), fun l nl => ?_⟩
  exact q l _ nl (same_upd nl) upd_same
def sp_Guesser_shift (C : Addr) : Sp := fun vs H Q _ => ∃ (a : Addr) (ws : List Int) (sh : Nat), vs = [.ref a] ∧ GuesserAt C H a ws sh ∧ Q (.int sh) H
def sp_Guesser_order (C : Addr) : Sp := fun vs H Q _ => ∃ (a : Addr) (ws : List Int) (sh : Nat), vs = [.ref a] ∧ GuesserAt C H a ws sh ∧ Q (.int ws.length) H
/-- == of two guessers, or of a guesser and a list -/
def sp_Guesser___eq__ (C : Addr) (K : PySem.W.Frag) : Sp := fun vs H Q _ => ∃ (a b : Addr) (ws : List Int) (sh : Nat) (c : Bool), vs = [.ref a, .ref b] ∧ GuesserAt C H a ws sh ∧
  ((∃ (us : List Int) (th : Nat), GuesserAt C H b us th ∧ c = decide (ws = us ∧ sh = th)) ∨ (c = false ∧ ∃ xs, Rd H b (.lst xs))) ∧ Q (.bl c) H
theorem G_Guesser___eq__ (T : Top K mg) : FnOk P w K mg base CX0 1 T.f_Guesser___eq__ T.fd_Guesser___eq__ ["self", "other"] (sp_Guesser___eq__ T.C_Guesser K) := by
  refine T.F_Guesser___eq__.ok sc_Guesser___eq__ (fun vs H Q E h => by obtain ⟨a, b, ws, sh, c, rfl, _⟩ := h; rfl) (fun cdv A outer s H vs Q E hr h => ?_)
  obtain ⟨a, b, ws, sh, c, rfl, hG, hb, q⟩ := h
  refine ⟨_, PSs.nox (pss_cons (ps_if (pt_not (pt_val (pe_callB (k_isi K rfl) (by rfl) T.n_isinstance (by decide +kernel) (pa_cons (pv 1) (pa_cons (pe_glob (v := .ref T.C_Guesser) rfl T.gc_Guesser rfl) pa_nil)))))
    (pss_one (ps_ret pe_bl))
    pss_nil)
  (pss_one (ps_ret (pe_and (pe_cmpR (k_eqD K rfl hr.units) (pe_fld (pv 0) rfl) (pe_fld (pv 1) rfl) (nomark _)) (pe_one (pe_cmpR op_eq (pe_fld (pv 0) rfl) (pe_fld (pv 1) rfl) (nomark _))))))), ?_⟩
  obtain ⟨hW, _, dx, p, ha, hp⟩ := id hG
  rcases hb with ⟨us, th, hB, rfl⟩ | ⟨rfl, xs, hB⟩
  · obtain ⟨hW2, _, dy, p2, hb, hp2⟩ := id hB
    refine ⟨_, rfl, _, _, _, _, true, rfl, .own _, tyx_ins T.ic_Guesser hb, T.ic_Guesser.me, true, rfl, iteF ?_⟩
    refine ⟨_, rfl, a, T.C_Guesser, dx, _, _, rfl, ha, T.cl_Guesser, T.na_Guesser_parts, rfl, _, rfl, b, T.C_Guesser, dy, _, _, rfl, hb, T.cl_Guesser, T.na_Guesser_parts, rfl, ?_⟩
    refine eqD_lst (.inl (.inl hp)) (.inl (.inl hp2)) ⟨_, rfl, ?_⟩
    by_cases h : ws = us
    · rw [decide_eq_true h]
      refine iteT ⟨_, rfl, a, T.C_Guesser, dx, _, _, rfl, ha, T.cl_Guesser, T.na_Guesser_down, rfl, _, rfl, b, T.C_Guesser, dy, _, _, rfl, hb, T.cl_Guesser, T.na_Guesser_down, rfl, rfl, ?_⟩
      by_cases h2 : sh = th
      · rw [decide_eq_true (show V.int (sh : Int) = V.int th by rw [h2])]
        rw [decide_eq_true ⟨h, h2⟩] at q
        exact q
      · rw [decide_eq_false (show ¬ V.int (sh : Int) = V.int th from fun z => h2 (by have := V.int.inj z; omega))]
        rw [decide_eq_false (fun z => h2 z.2)] at q
        exact q
    · rw [decide_eq_false h]
      rw [decide_eq_false (fun z => h z.1)] at q
      exact iteF q
  · exact ⟨_, rfl, _, _, _, _, false, rfl, .own _, rd_list hB, T.ec_Guesser.ki, false, rfl, iteT q⟩
/-! ### are_wholes, guess, plain_rests -/
def sp_are_wholes (K : PySem.W.Frag) : Sp := fun vs H Q _ => ∃ (a : Addr) (ns : List Int), vs = [.ref a] ∧ Rd H a (.lst (ns.map V.int)) ∧ ns.length ≤ 1000 ∧ ∀ H', Same H H' → Q (.bl true) H'
theorem G_are_wholes (T : Top K mg) : FnOk P w K mg base CX0 2 T.f_are_wholes T.fd_are_wholes ["value"] (sp_are_wholes K) := by
  refine T.F_are_wholes.ok sc_are_wholes (fun vs H Q E h => by obtain ⟨a, ns, rfl, _⟩ := h; rfl) (fun cdv A outer s H vs Q E hr h => ?_)
  obtain ⟨a, ns, rfl, hA, hl, q⟩ := h
  refine ⟨_, PSs.nox (pss_one (ps_ret (pe_and (pe_callB (k_isi K rfl) (by rfl) T.n_isinstance (by decide +kernel) (pa_cons (pv 0) (pa_cons (pe_bltn (v := .ty "list") (by rfl) T.n_list (by decide +kernel) rfl) pa_nil))) (pe_one (pe_cmpR (k_eqD K rfl hr.units) (pe_lc (own := [("item", 1)]) (g := gName 1) (by rfl) sc_are_wholes.nd (k_piL K rfl (pv 0)) (blkOk_by (own := [("item", 1)]) (N := N_are_wholes) (sc := defScope s_are_wholes) (by decide +kernel)) (fun _ _ _ _ _ => (pg_name (i := 1) sc_are_wholes.nd rfl (by first | exact Or.inl rfl | exact Or.inr rfl))) (fun _ _ _ _ _ => (pts_one (pt_not (pt_val (pe_call (G_is_whole (P := P) T) (hr.mono (by decide)) (by rfl) T.g_is_whole T.F_is_whole.kp T.b_is_whole .nil pass0 (pa_cons (pv 1) pa_nil)))))) (fun _ _ _ _ _ => (pv 1))) (pe_lst pa_nil) (nomark _)))))), ?_⟩
  have hS : SqL K H a (ns.map V.int) := .inl hA
  refine ⟨_, rfl, _, _, _, _, true, rfl, .ty _, rd_list hA, kit_ty (by decide +kernel), true, rfl, iteT ?_⟩
  refine ⟨_, rfl, a, rfl, ⟨_, hS⟩, fun D nD => ?_⟩
  refine lc_selL (K := K) (xs := ns.map V.int) (ns.map fun _ => none) nD hS (by rw [List.length_map, List.length_map]) (small_row hl) (fun x => rfl) ?_ ?_
  · intro i x o H' hx ho s Qt qt
    obtain ⟨n, hn, rfl⟩ := int_at hx
    rw [List.getElem?_map, hn] at ho
    cases ho
    exact ⟨_, rfl, n, rfl, true, rfl, iteF (qt _ (Same.refl _))⟩
  · intro H' s hD
    rw [fm_none] at hD
    refine ⟨Nat.zero_le _, fun p np => ?_⟩
    refine eq_lst (ns := []) (.inl (.inl (same_upd np _ _ hD))) (.inl (.inl upd_same)) ?_
    exact q _ (s.trans (same_upd np))
def sp_guess (C : Addr) (K : PySem.W.Frag) : Sp := fun vs H Q _ => ∃ (a b : Addr) (ws : List Int) (sh : Nat) (bs : List Int), vs = [.ref a, .ref b] ∧ GuesserAt C H a ws sh ∧ Rd H b (.lst (bs.map V.int)) ∧ bs.length ≤ 1000 ∧ ws.length ≤ bs.length ∧ ∀ H', Same H H' → Q (.int (guessF ws sh bs)) H'
def sp_plain_rests (C : Addr) (K : PySem.W.Frag) : Sp := fun vs H Q _ => ∃ (a b : Addr) (ws : List Int) (sh : Nat) (row : List Int), vs = [.ref a, .ref b] ∧ GuesserAt C H a ws sh ∧ Rd H b (.lst (row.map V.int)) ∧ row.length ≤ 1000 ∧
  ∀ H' p, Same H H' → H p = none → H' p = some (.lst ((toldR ws sh row).map V.int)) → Q (.ref p) H'
theorem G_plain_rests (T : Top K mg) : FnOk P w K mg base CX0 4 T.f_plain_rests T.fd_plain_rests ["guesser", "row"] (sp_plain_rests T.C_Guesser K) := by
  refine T.F_plain_rests.ok sc_plain_rests (fun vs H Q E h => by obtain ⟨a, b, ws, sh, row, rfl, _⟩ := h; rfl) (fun cdv A outer s H vs Q E hr h => ?_)
  obtain ⟨a, b, ws, sh, row, rfl, hG, hB, hl, q⟩ := h
  refine ⟨_, PSs.nox (pss_cons (ps_expr (pe_call (G_check_guesser (P := P) T) (hr.mono (by decide)) (by rfl) T.g_check_guesser T.F_check_guesser.kp T.b_check_guesser .nil pass0 (pa_cons (pv 0) pa_nil)))
  (pss_cons (ps_if (pt_not (pt_val (pe_call (G_are_wholes (P := P) T) (hr.mono (by decide)) (by rfl) T.g_are_wholes T.F_are_wholes.kp T.b_are_wholes .nil pass0 (pa_cons (pv 1) pa_nil))))
    (pss_one ps_never)
    pss_nil)
  (pss_one (ps_ret (pe_call (G_told_rests (P := P) T) (hr.mono (by decide)) (by rfl) T.g_told_rests T.F_told_rests.kp T.b_told_rests .nil pass0 (pa_cons (pv 0) (pa_cons (pv 1) pa_nil))))))), ?_⟩
  refine ⟨_, rfl, a, ws, sh, rfl, hG, ?_⟩
  refine ⟨_, rfl, b, row, rfl, hB, hl, fun H1 s1 => ⟨true, rfl, iteF ?_⟩⟩
  exact ⟨_, rfl, _, rfl, a, b, ws, sh, row, rfl, hG.same s1, s1.seq (.inl hB), hl, fun H2 p s2 np hp => q _ p (s1.trans s2) (s1.free np) hp⟩
end
end My

namespace My
open PySem PySem.Spec PyProof.Rows L2 Pre
theorem _root_.L2.TyX.same {K : PySem.W.Frag} {H H' : Hp} {v : V} {t : Value} (s : Same H H') (h : TyX K H v t) : TyX K H' v t := by
  cases h with
  | base b => exact .base (by
    cases b with
    | non => exact .non
    | bl y => exact .bl y
    | int i => exact .int i
    | str y => exact .str y
    | flt y => exact .flt y
    | lst e => exact .lst (s _ _ e)
    | frz e => exact .frz (s _ _ e)
    | tup e => exact .tup (s _ _ e)
    | dK e => exact .dK (s _ _ e)
    | dT e => exact .dT (s _ _ e)
    | ins e cl ha hn htk hm => exact .ins (s _ _ e) cl ha hn htk hm)
  | byt b => exact .byt b
  | set e => exact .set (s _ _ e)
  | kList e c => exact .kList e c
  | kTuple e c => exact .kTuple e c
  | kDict e c => exact .kDict e c
  | fTuple e => exact .fTuple (s _ _ e)
  | fDict e => exact .fDict (s _ _ e)
end My

namespace My
/-! ### rests of rests: products, quotients -/
def xP (w : List Int) : List Int := 1 :: w.map fun n => -n
theorem xP_len (w : List Int) : (xP w).length = w.length + 1 := by unfold xP; rw [List.length_cons, List.length_map]
theorem xP_zero (w : List Int) : (xP w).getD 0 0 = 1 := rfl
theorem getD_over (l : List Int) (k : Nat) (h : l.length ≤ k) : l.getD k 0 = 0 := by
  rw [List.getD_eq_getElem?_getD, List.getElem?_eq_none h]
  rfl
theorem getD_map_neg (l : List Int) (k : Nat) : (l.map fun n => -n).getD k 0 = -l.getD k 0 := by
  rw [List.getD_eq_getElem?_getD, List.getD_eq_getElem?_getD, List.getElem?_map]
  cases l[k]? <;> rfl
theorem xP_succ (w : List Int) (k : Nat) : (xP w).getD (k + 1) 0 = -w.getD k 0 := by
  show (w.map fun n => -n).getD k 0 = _
  exact getD_map_neg w k
theorem ext_getD {xs ys : List Int} (hl : xs.length = ys.length) (h : ∀ k, k < ys.length → xs.getD k 0 = ys.getD k 0) : xs = ys := by
  refine List.ext_getElem hl fun k h1 h2 => ?_
  have e := h k h2
  rw [List.getD_eq_getElem?_getD, List.getD_eq_getElem?_getD, List.getElem?_eq_getElem h1, List.getElem?_eq_getElem h2] at e
  exact e
theorem getD_range {n k : Nat} (f : Nat → Int) (h : k < n) : ((List.range n).map f).getD k 0 = f k := by
  rw [List.getD_eq_getElem?_getD, List.getElem?_map, List.getElem?_range h]
  rfl
/-- a rest, as a sum -/
def restD (w row : List Int) (p : Nat) : Int := sumN (w.length + 1) fun s => (xP w).getD s 0 * row.getD (p - s) 0
theorem dot_sumN (ws bs : List Int) (h : ws.length ≤ bs.length) : dot ws bs = sumN ws.length fun i => ws.getD i 0 * bs.getD i 0 := by
  have key : ∀ n, n ≤ ws.length → dot (ws.take n) bs = sumN n fun i => ws.getD i 0 * bs.getD i 0 := fun n => by
    induction n with
    | zero => intro _; rfl
    | succ n ih =>
      intro hn
      rw [dot_take n ws bs (by omega) (by omega), ih (by omega)]
      rfl
  have := key ws.length (Nat.le_refl _)
  rw [List.take_length] at this
  exact this
theorem rest_sum {w row : List Int} {p : Nat} (h1 : w.length ≤ p) (h2 : p < row.length) : row.getD p 0 - guessF w 0 (row.take p) = restD w row p := by
  have hr : (row.take p).length = p := by rw [List.length_take]; omega
  unfold guessF restD
  rw [dot_sumN _ _ (by rw [List.length_reverse, hr]; exact h1), Int.pow_zero, Int.ediv_one, sumN_front, xP_zero, Int.one_mul, Nat.sub_zero]
  have e : (sumN w.length fun s => (xP w).getD (s + 1) 0 * row.getD (p - (s + 1)) 0) = -1 * sumN w.length fun i => w.getD i 0 * (row.take p).reverse.getD i 0 := by
    rw [← sumN_mul]
    refine sumN_congr fun i hi => ?_
    have er : (row.take p).reverse.getD i 0 = row.getD (p - (i + 1)) 0 := by
      rw [List.getD_eq_getElem?_getD, List.getElem?_reverse (by omega), hr, List.getElem?_take_of_lt (by omega), show p - 1 - i = p - (i + 1) by omega, ← List.getD_eq_getElem?_getD]
    rw [er, xP_succ, Int.neg_mul, Int.neg_one_mul]
  rw [e]
  omega
/-- the rests behind the firsts -/
def rbL (w row : List Int) : List Int := (List.range (row.length - w.length)).map fun i => restD w row (w.length + i)
theorem rbL_len (w row : List Int) : (rbL w row).length = row.length - w.length := by unfold rbL; rw [List.length_map, List.length_range]
theorem rbL_drop (w row : List Int) : (toldR w 0 row).drop w.length = rbL w row := by
  refine List.ext_getElem? fun i => ?_
  by_cases h : w.length + i < row.length
  · rw [List.getElem?_drop]
    unfold toldR rbL
    rw [List.getElem?_map, List.getElem?_range h, List.getElem?_map, List.getElem?_range (by omega)]
    show some (restAt w 0 row (w.length + i)) = some _
    unfold restAt
    rw [if_neg (by omega), rest_sum (by omega) h]
  · rw [List.getElem?_eq_none (by rw [List.length_drop, toldR_len]; omega), List.getElem?_eq_none (by rw [rbL_len]; omega)]
/-- the product of two sums of powers, without its first -/
def prodW (w v : List Int) : List Int := (List.range (w.length + v.length)).map fun k => -prodF (xP w) (xP v) (k + 1)
theorem prodW_len (w v : List Int) : (prodW w v).length = w.length + v.length := by unfold prodW; rw [List.length_map, List.length_range]
theorem prodF_full (A B : List Int) (k : Nat) : prodF A B k = sumN (k + 1) fun s => A.getD s 0 * B.getD (k - s) 0 := by
  rw [prodF_eq]
  have e1 : (sumN A.length fun s => if s ≤ k ∧ k - s < B.length then A.getD s 0 * B.getD (k - s) 0 else 0) = sumN (max A.length (k + 1)) fun s => if s ≤ k ∧ k - s < B.length then A.getD s 0 * B.getD (k - s) 0 else 0 := by
    refine (sumN_cut (by omega) fun i h1 _ => ?_).symm
    split
    · rw [getD_over A i h1, Int.zero_mul]
    · rfl
  rw [e1, sumN_cut (k := k + 1) (by omega) fun i h1 _ => if_neg (by omega)]
  refine sumN_congr fun s hs => ?_
  by_cases c : k - s < B.length
  · rw [if_pos ⟨by omega, c⟩]
  · rw [if_neg (fun z => c z.2), getD_over B _ (by omega), Int.mul_zero]
theorem prodF_comm (A B : List Int) (k : Nat) : prodF A B k = prodF B A k := by
  rw [prodF_full, prodF_full, ← sumN_rev]
  refine sumN_congr fun s hs => ?_
  rw [Int.mul_comm, show k - (k + 1 - 1 - s) = s by omega, show k + 1 - 1 - s = k - s by omega]
theorem prodW_comm (w v : List Int) : prodW w v = prodW v w := by
  unfold prodW
  rw [Nat.add_comm]
  refine List.map_congr_left fun k _ => ?_
  rw [prodF_comm]
theorem prodF_zero (w v : List Int) : prodF (xP w) (xP v) 0 = 1 := by
  rw [prodF_full, sumN, sumN, xP_zero, Nat.sub_zero, xP_zero]
  rfl
theorem prodF_over (A B : List Int) (k : Nat) (hB : 0 < B.length) (h : A.length + B.length - 1 ≤ k) : prodF A B k = 0 := by
  rw [prodF_eq]
  exact sumN_none fun s hs => if_neg (by omega)
theorem xP_prod (w v : List Int) (k : Nat) : (xP (prodW w v)).getD k 0 = prodF (xP w) (xP v) k := by
  cases k with
  | zero => rw [xP_zero, prodF_zero]
  | succ k =>
    rw [xP_succ]
    by_cases h : k < w.length + v.length
    · unfold prodW
      rw [getD_range _ h, Int.neg_neg]
    · rw [getD_over _ _ (by rw [prodW_len]; omega), prodF_over _ _ _ (by rw [xP_len]; omega) (by rw [xP_len, xP_len]; omega)]
      rfl
/-- rests of rests -/
theorem rest_twice {w v row : List Int} (h : w.length + v.length ≤ row.length) : rbL v (rbL w row) = rbL (prodW w v) row := by
  refine ext_getD (by rw [rbL_len, rbL_len, rbL_len, prodW_len]; omega) fun i hi => ?_
  rw [rbL_len, prodW_len] at hi
  have e1 : (rbL v (rbL w row)).getD i 0 = restD v (rbL w row) (v.length + i) := by
    unfold rbL
    rw [getD_range _ (by rw [List.length_map, List.length_range]; omega)]
  have e2 : (rbL (prodW w v) row).getD i 0 = restD (prodW w v) row (w.length + v.length + i) := by
    unfold rbL
    rw [prodW_len, getD_range _ (by omega)]
  rw [e1, e2]
  have e3 : restD (prodW w v) row (w.length + v.length + i) = sumN (w.length + v.length + 1) fun k => prodF (xP w) (xP v) k * row.getD (w.length + v.length + i - (0 + k)) 0 := by
    unfold restD
    rw [prodW_len]
    refine sumN_congr fun k _ => ?_
    rw [xP_prod, Nat.zero_add]
  have e4 := prodF_sum (xP w) (xP v) (by rw [xP_len]; omega) (fun j => row.getD (w.length + v.length + i - j) 0) 0
  rw [xP_len, xP_len] at e4
  rw [e3, show w.length + v.length + 1 = w.length + 1 + (v.length + 1) - 1 by omega, e4]
  unfold restD
  refine sumN_congr fun t ht => ?_
  congr 1
  have e5 : (rbL w row).getD (v.length + i - t) 0 = restD w row (w.length + (v.length + i - t)) := by
    unfold rbL
    rw [getD_range _ (by omega)]
  rw [e5]
  unfold restD
  refine sumN_congr fun s hs => ?_
  rw [show w.length + (v.length + i - t) - s = w.length + v.length + i - (0 + t + s) by omega]
/-- what comes out of a quotient is one -/
theorem quot_uniq {A : List Int} (hA : A.getD 0 0 = 1) {X Y : Nat → Int} {n : Nat} (h : ∀ p, p < n → (sumN (p + 1) fun s => A.getD s 0 * X (p - s)) = sumN (p + 1) fun s => A.getD s 0 * Y (p - s)) : ∀ p, p < n → X p = Y p := by
  intro p
  induction p using Nat.strongRecOn with
  | ind p ih =>
    intro hp
    have e := h p hp
    rw [sumN_front, sumN_front, hA, Int.one_mul, Int.one_mul, Nat.sub_zero] at e
    have e2 : (sumN p fun i => A.getD (i + 1) 0 * X (p - (i + 1))) = sumN p fun i => A.getD (i + 1) 0 * Y (p - (i + 1)) := sumN_congr fun i hi => by rw [ih (p - (i + 1)) (by omega) (by omega)]
    rw [e2] at e
    omega
/-- what leads_to tells -/
def Lead (w m : List Int) (r : Option (List Int)) : Prop := (∀ t, r = some t → prodW w t = m) ∧ ∀ t, m = prodW w t → r = some t
theorem lead_short {w m : List Int} (h : m.length < w.length) : Lead w m none := ⟨fun t e => (nomatch e), fun t e => by
  have := congrArg List.length e
  rw [prodW_len] at this
  omega⟩
/-- the quotient's items -/
def Quot (w m f : List Int) : Prop := ∀ p, p < f.length → (sumN (p + 1) fun s => (xP w).getD s 0 * f.getD (p - s) 0) = (xP m).getD p 0
theorem quot_head {w m f : List Int} (h : Quot w m f) (h0 : 0 < f.length) : f.getD 0 0 = 1 := by
  have := h 0 h0
  rw [sumN, sumN, xP_zero, xP_zero, Nat.sub_zero] at this
  omega
theorem xP_of {f : List Int} (h : f.getD 0 0 = 1) (h0 : 0 < f.length) : xP ((f.drop 1).map fun n => -n) = f := by
  cases f with
  | nil => cases h0
  | cons a r =>
    have : a = 1 := h
    subst this
    unfold xP
    rw [List.map_map]
    show 1 :: (r.map _) = 1 :: r
    congr 1
    refine (List.map_congr_left fun x _ => ?_).trans (List.map_id r)
    show - -x = x
    omega
theorem lead_quot {w m f : List Int} (hq : Quot w m f) (hl : f.length = m.length - w.length + 1) (hm : w.length ≤ m.length) :
    Lead w m (if (List.range (w.length + 1 + f.length - 1)).map (prodF (xP w) f) = xP m then some ((f.drop 1).map fun n => -n) else none) := by
  have h0 : 0 < f.length := by omega
  have hf := xP_of (quot_head hq h0) h0
  have hfl : ((f.drop 1).map fun n => -n).length = m.length - w.length := by rw [List.length_map, List.length_drop]; omega
  constructor
  · intro t e
    split at e
    · rename_i c
      cases e
      refine ext_getD (by rw [prodW_len, hfl]; omega) fun k hk => ?_
      have e1 := xP_prod w ((f.drop 1).map fun n => -n) (k + 1)
      rw [xP_succ, hf] at e1
      have e2 : ((List.range (w.length + 1 + f.length - 1)).map (prodF (xP w) f)).getD (k + 1) 0 = (xP m).getD (k + 1) 0 := by rw [c]
      rw [getD_range _ (by omega), xP_succ] at e2
      omega
    · cases e
  · intro t e
    have hml : m.length = w.length + t.length := by rw [e, prodW_len]
    have ef : f = xP t := by
      refine ext_getD (by rw [xP_len]; omega) fun k hk => ?_
      rw [xP_len] at hk
      refine quot_uniq (A := xP w) (xP_zero w) (X := fun p => f.getD p 0) (Y := fun p => (xP t).getD p 0) (n := f.length) (fun p hp => ?_) k (by omega)
      rw [hq p hp, e, xP_prod, prodF_full]
    have c : (List.range (w.length + 1 + f.length - 1)).map (prodF (xP w) f) = xP m := by
      refine ext_getD (by rw [List.length_map, List.length_range, xP_len]; omega) fun k hk => ?_
      rw [xP_len] at hk
      rw [getD_range _ (by omega), ef, e, xP_prod]
    rw [if_pos c, ef]
    congr 1
    show (t.map fun n => -n).map (fun n => -n) = t
    rw [List.map_map]
    refine (List.map_congr_left fun x _ => ?_).trans (List.map_id t)
    show - -x = x
    omega
/-- the next item of a quotient -/
theorem quot_next {w m f : List Int} {x : Int} (h : Quot w m f) (hx : x = (xP m).getD f.length 0 - sumN (min f.length w.length) fun s => (xP w).getD (s + 1) 0 * f.getD (f.length - (s + 1)) 0) : Quot w m (f ++ [x]) := by
  have app : ∀ k, k < f.length → (f ++ [x]).getD k 0 = f.getD k 0 := fun k hk => by rw [List.getD_eq_getElem?_getD, List.getElem?_append_left hk, ← List.getD_eq_getElem?_getD]
  intro p hp
  rw [List.length_append] at hp
  by_cases c : p < f.length
  · rw [← h p c]
    refine sumN_congr fun s _ => ?_
    rw [app _ (by omega)]
  · have e : p = f.length := by have : p < f.length + 1 := hp; omega
    subst e
    rw [sumN_front, xP_zero, Int.one_mul, Nat.sub_zero]
    have e1 : (f ++ [x]).getD f.length 0 = x := by rw [List.getD_eq_getElem?_getD, List.getElem?_append_right (Nat.le_refl _), Nat.sub_self]; rfl
    have e2 : (sumN f.length fun i => (xP w).getD (i + 1) 0 * (f ++ [x]).getD (f.length - (i + 1)) 0) = sumN (min f.length w.length) fun s => (xP w).getD (s + 1) 0 * f.getD (f.length - (s + 1)) 0 := by
      rw [sumN_cut (k := min f.length w.length) (by omega) fun i h1 h2 => by rw [getD_over (xP w) _ (by rw [xP_len]; omega), Int.zero_mul]]
      exact sumN_congr fun s hs => by rw [app _ (by omega)]
    rw [e1, e2, hx]
    omega
end My

namespace My
open PySem PySem.Spec PyProof.Rows L2 Pre
/-! ### guessers alike by their own ==; sums of powers -/
def EE (H : Hp) (E : XK) (C : Addr) (v : V) : Prop := ∀ H' dd, Same H H' → H' dd = none → E (.ref C) (some dd) (upd H' dd (.xd [("value", v)]))
theorem EE.same {H H1 : Hp} {E : XK} {C : Addr} {v : V} (s : Same H H1) (h : EE H E C v) : EE H1 E C v := fun H' dd s' nd => h H' dd (s.trans s') nd
/-- no guesser -/
def NoG (K : PySem.W.Frag) (H : Hp) (v : V) : Prop := ∃ T ∈ notTys, TyX K H v (.type T)
theorem NoG.same {K : PySem.W.Frag} {H H' : Hp} {v : V} (s : Same H H') (h : NoG K H v) : NoG K H' v := by
  obtain ⟨T, m, ty⟩ := h
  exact ⟨T, m, ty.same s⟩
/-- two guessers alike -/
def GR (C : Addr) (a b : Addr) (H : Hp) : Prop := ∃ (ws : List Int) (sh : Nat), GuesserAt C H a ws sh ∧ GuesserAt C H b ws sh
theorem eqG_mon {C : Addr} : ∀ a b H H', Ext H H' → GR C a b H → GR C a b H' := fun a b H H' e h => by
  obtain ⟨ws, sh, h1, h2⟩ := h
  exact ⟨ws, sh, h1.same e, h2.same e⟩
theorem map_set (l : List Int) (k : Nat) (v : Int) : (l.map V.int).set k (.int v) = (l.set k v).map V.int := by rw [List.map_set]
theorem at_ints {l : List Int} {k : Nat} (h : k < l.length) : atI (l.map V.int) (k : Int) = some (.int (l.getD k 0)) := by
  refine at_of (j := k) (by omega) ?_
  rw [List.getElem?_map, List.getElem?_eq_getElem h, getD_of h]
  rfl
theorem ix_ints {l : List Int} {k : Nat} (h : k < l.length) : ixN (l.map V.int).length (k : Int) = some k := by
  rw [List.length_map]
  unfold ixN
  rw [if_pos (by omega), Int.toNat_natCast, if_pos (by omega)]
/-- a product as far as reckoned -/
def cvL (A B : List Int) (i j : Nat) : List Int := (List.range (A.length + B.length - 1)).map (cvF A B i j)
theorem cvL_len (A B : List Int) (i j : Nat) : (cvL A B i j).length = A.length + B.length - 1 := by unfold cvL; rw [List.length_map, List.length_range]
theorem cvL_nil (A B : List Int) : cvL A B 0 0 = List.replicate (A.length + B.length - 1) 0 := by
  refine List.ext_getElem? fun k => ?_
  unfold cvL
  rw [List.getElem?_map, List.getElem?_replicate]
  by_cases h : k < A.length + B.length - 1
  · rw [List.getElem?_range h, if_pos h]
    show some (cvF A B 0 0 k) = _
    rw [cvF_nil]
  · rw [List.getElem?_eq_none (by rw [List.length_range]; omega), if_neg h]
    rfl
theorem cvL_next (A B : List Int) (i : Nat) : cvL A B i B.length = cvL A B (i + 1) 0 := List.map_congr_left fun k _ => cvF_next A B i k
theorem cvL_get {A B : List Int} {i j k : Nat} (h : k < A.length + B.length - 1) : (cvL A B i j).getD k 0 = cvF A B i j k := getD_range _ h
theorem cvL_step {A B : List Int} {i j : Nat} (h : i + j < A.length + B.length - 1) : (cvL A B i j).set (i + j) ((cvL A B i j).getD (i + j) 0 + A.getD i 0 * B.getD j 0) = cvL A B i (j + 1) := by
  refine ext_getD (by rw [List.length_set, cvL_len, cvL_len]) fun k hk => ?_
  rw [cvL_len] at hk
  rw [cvL_get hk, cvL_get h, cvF_step]
  by_cases c : k = i + j
  · subst c
    rw [if_pos rfl, List.getD_eq_getElem?_getD, List.getElem?_set_self (by rw [cvL_len]; exact h)]
    rfl
  · rw [if_neg c, List.getD_eq_getElem?_getD, List.getElem?_set_ne (fun z => c z.symm), ← List.getD_eq_getElem?_getD, cvL_get hk]
def Tame (l : List Int) : Prop := ∀ n ∈ l, -(2 ^ 60) < n ∧ n < 2 ^ 60
theorem Tame.at {l : List Int} (h : Tame l) (k : Nat) : -(2 ^ 60) < l.getD k 0 ∧ l.getD k 0 < 2 ^ 60 := by
  rw [List.getD_eq_getElem?_getD]
  by_cases c : k < l.length
  · rw [List.getElem?_eq_getElem c]
    exact h _ (List.getElem_mem c)
  · rw [List.getElem?_eq_none (by omega)]
    exact ⟨by decide, by decide⟩
theorem Weights.tame {w : List Int} (h : Weights w) : Tame w := fun n hn => by have := h.2 n hn; exact ⟨by omega, by omega⟩
theorem Tame.xP {w : List Int} (h : Tame w) : Tame (xP w) := fun n hn => by
  rcases List.mem_cons.mp hn with e | e
  · rw [e]; exact ⟨by decide, by decide⟩
  · obtain ⟨m, hm, rfl⟩ := List.mem_map.mp e
    have := h m hm
    exact ⟨by omega, by omega⟩
local macro_rules | `(tactic| walk_at "go") => `(tactic| repeat (first | (with_reducible first | refine iteT ?_ | refine iteF ?_ | refine iteNtt ?_ | refine iteNff ?_ | refine iteET (by omega) ?_ | refine iteEF (by omega) ?_ | refine iteENT (by omega) ?_ | refine iteENF (by omega) ?_ | refine iteDT (by omega) ?_ | refine iteDF (by omega) ?_ | refine iteNT (by omega) ?_ | refine iteNF (by omega) ?_) | refine ⟨_, rfl, ?_⟩ | refine ⟨_, _, rfl, rfl, ?_⟩ | refine ⟨_, _, rfl, ?_⟩ | refine ⟨rfl, ?_⟩ | refine .inl ⟨_, rfl, ?_⟩ | refine .inr ⟨_, rfl, ?_⟩))
local macro_rules | `(tactic| walk_at "b") => `(tactic| try dsimp (config := { proj := false, iota := false, eta := false, zeta := false }) only)
section
variable {P : Program} {w : World} {K : PySem.W.Frag} {mg : Str → Option Value} {base : Heap} [pf : Sup.PF P fileS]
theorem G_eqG (T : Top K mg) : FnOk P w K mg base CX0 1 T.f_Guesser___eq__ T.fd_Guesser___eq__ ["self", "other"] (spEq (GR T.C_Guesser)) := FnOk.imp (G_Guesser___eq__ (P := P) T) fun vs H Q E h => by
  obtain ⟨a, b, rfl, ⟨ws, sh, h1, h2⟩, q⟩ := h
  exact ⟨a, b, ws, sh, true, rfl, h1, .inl ⟨ws, sh, h2, (decide_eq_true ⟨rfl, rfl⟩).symm⟩, q H fun _ _ z => z⟩
def sp_times_sum (K : PySem.W.Frag) : Sp := fun vs H Q _ => ∃ (a b : Addr) (xs ys : List Int), vs = [.ref a, .ref b] ∧ SqL K H a (xs.map V.int) ∧ SqL K H b (ys.map V.int) ∧ xs.length ≤ 100 ∧ ys.length ≤ 100 ∧ 1 ≤ xs.length ∧ (Tame xs ∨ Tame ys) ∧
  ∀ p H', H p = none → Same H H' → H' p = some (.lst ((cvL xs ys xs.length 0).map V.int)) → Q (.ref p) H'
theorem G_times_sum (T : Top K mg) : FnOk P w K mg base CX0 1 T.f_times_sum T.fd_times_sum ["one", "other"] (sp_times_sum K) := by
  refine T.F_times_sum.ok sc_times_sum (fun vs H Q E h => by obtain ⟨a, b, xs, ys, rfl, _⟩ := h; rfl) (fun cdv A outer s H vs Q E hr h => ?_)
  obtain ⟨a, b, xs, ys, rfl, hA, hB, hx, hy, hx1, hs, q⟩ := h
  refine ⟨_, PSs.nox (pss_cons (ps_set (i := 2) sc_times_sum.nd rfl (by first | exact Or.inl rfl | exact Or.inr rfl) (pe_op op_rep (pe_lst (pa_cons pe_int pa_nil)) (pe_op op_sub (pe_op op_add (pe_callB (k_len K rfl) (by rfl) T.n_len (by decide +kernel) (pa_cons (pv 0) pa_nil)) (pe_callB (k_len K rfl) (by rfl) T.n_len (by decide +kernel) (pa_cons (pv 1) pa_nil))) pe_int)))
  (pss_cons (ps_for PassesOwn.never rfl (k_piE K rfl (by rfl) T.n_enumerate (pa_cons (pv 0) pa_nil)) (k_pgT K rfl (by rfl) (pgs_cons (pg_name (i := 3) sc_times_sum.nd rfl (by first | exact Or.inl rfl | exact Or.inr rfl)) (pgs_cons (pg_name (i := 4) sc_times_sum.nd rfl (by first | exact Or.inl rfl | exact Or.inr rfl)) pgs_nil)))
    (pss_one (ps_for PassesOwn.never rfl (k_piE K rfl (by rfl) T.n_enumerate (pa_cons (pv 1) pa_nil)) (k_pgT K rfl (by rfl) (pgs_cons (pg_name (i := 5) sc_times_sum.nd rfl (by first | exact Or.inl rfl | exact Or.inr rfl)) (pgs_cons (pg_name (i := 6) sc_times_sum.nd rfl (by first | exact Or.inl rfl | exact Or.inr rfl)) pgs_nil)))
    (pss_one (ps_asg (pe_op op_add (pe_ix (k_ixL K rfl) (pv 2) (pe_op op_add (pv 3) (pv 5)) (fun _ _ => rfl)) (pe_op op_mulA (pv 4) (pv 6))) (pg_sub (pv 2) (pe_op op_add (pv 3) (pv 5)) set_list))))))
  (pss_one (ps_ret (pv 2))))), ?_⟩
  refine ⟨(show 1 ≤ sizeLine by decide), fun l nl => ?_⟩
  obtain ⟨H1, e1, s1, h1⟩ := fresh (.lst [V.int 0]) nl
  rw [e1]
  refine ⟨_, rfl, a, _, rfl, .inl (s1.seq hA), _, rfl, b, _, rfl, .inl (s1.seq hB), _, _, rfl, rfl, _, _, rfl, rfl, ?_⟩
  have en : ((xs.map V.int).length : Int) + ((ys.map V.int).length : Int) - 1 = ((xs.length + ys.length - 1 : Nat) : Int) := by rw [List.length_map, List.length_map]; omega
  walk_at "b"
  rw [en]
  refine ⟨l, _, _, rfl, rfl, h1, by omega, by omega, ?_, fun f nf => ?_⟩
  · rw [Int.toNat_natCast]
    show 1 * _ ≤ sizeLine
    rw [sizeLine_eq]
    omega
  rw [Int.toNat_natCast]
  have e0 : (List.replicate (xs.length + ys.length - 1) [V.int 0]).flatten = (cvL xs ys 0 0).map V.int := by
    rw [cvL_nil]
    induction xs.length + ys.length - 1 with
    | zero => rfl
    | succ n ih => rw [List.replicate_succ, List.flatten_cons, ih, List.replicate_succ]; rfl
  rw [e0]
  obtain ⟨H2, e2, s2, h2⟩ := fresh (.lst ((cvL xs ys 0 0).map V.int)) nf
  rw [e2]
  have s12 := s1.trans s2
  have nHf : H f = none := s1.free nf
  refine ⟨_, rfl, a, _, rfl, s12.seq hA, ?_⟩
  refine for_it (walk_enum (K := K) (a := a) (xs := xs.map V.int)) (fun i σ H3 => ∃ v3 v4 v5 v6, σ = [some (.ref a), some (.ref b), some (.ref f), v3, v4, v5, v6] ∧ Same H H3 ∧ H3 f = some (.lst ((cvL xs ys i 0).map V.int))) ⟨none, none, none, none, rfl, s12, h2⟩ (fun i σ H3 _ ⟨_, _, _, _, _, s, _⟩ => s.seq hA) ?_ ?_
  · rintro i x σ H3 H4 hi ⟨v3, v4, v5, v6, rfl, s3, hf3⟩ ⟨t, y, z, rfl, nt, rfl, ey, ez⟩
    cases ey
    obtain ⟨n, hn, rfl⟩ := int_at ez
    rw [List.length_map] at hi
    have s4 : Same H3 (upd H3 t (.tup [.int (i : Nat), .int n])) := same_upd nt
    have en : n = xs.getD i 0 := by rw [List.getD_eq_getElem?_getD, hn]; rfl
    refine ⟨t, _, rfl, .inl (.inl upd_same), rfl, _, _, rfl, _, _, rfl, rfl, ?_⟩
    have hf4 := s4 _ _ hf3
    generalize upd H3 t (.tup [.int (i : Nat), .int n]) = H4 at s4 hf4
    have s04 := s3.trans s4
    refine ⟨_, rfl, b, _, rfl, s04.seq hB, ?_⟩
    refine for_it (walk_enum (K := K) (a := b) (xs := ys.map V.int)) (fun j σ H5 => ∃ v5 v6, σ = [some (.ref a), some (.ref b), some (.ref f), some (.int (i : Nat)), some (.int n), v5, v6] ∧ Same H H5 ∧ H5 f = some (.lst ((cvL xs ys i j).map V.int))) ⟨_, _, rfl, s04, hf4⟩ (fun i σ H3 _ ⟨_, _, _, s, _⟩ => s.seq hB) ?_ ?_
    · rintro j x σ H5 H6 hj ⟨v5, v6, rfl, s5, hf5⟩ ⟨t2, y2, z2, rfl, nt2, rfl, ey, ez⟩
      cases ey
      obtain ⟨m, hm, rfl⟩ := int_at ez
      rw [List.length_map] at hj
      have s6 : Same H5 (upd H5 t2 (.tup [.int (j : Nat), .int m])) := same_upd nt2
      have em : m = ys.getD j 0 := by rw [List.getD_eq_getElem?_getD, hm]; rfl
      refine ⟨t2, _, rfl, .inl (.inl upd_same), rfl, _, _, rfl, _, _, rfl, rfl, ?_⟩
      have hf6 := s6 _ _ hf5
      generalize upd H5 t2 (.tup [.int (j : Nat), .int m]) = H6 at s6 hf6
      have hlen : i + j < (cvL xs ys i j).length := by rw [cvL_len]; omega
      have hmul : CMul n m := by
        rcases hs with hs | hs
        · have := hs.at i; rw [← en] at this; exact .inl ⟨by omega, by omega⟩
        · have := hs.at j; rw [← em] at this; exact .inr ⟨by omega, by omega⟩
      refine ⟨_, rfl, _, rfl, _, rfl, _, _, rfl, rfl, f, _, _, _, rfl, rfl, .inl (.inl hf6), at_ints (k := i + j) hlen, _, rfl, _, rfl, _, _, rfl, rfl, .inl hmul, _, _, rfl, rfl, ?_⟩
      refine ⟨_, rfl, _, rfl, _, rfl, _, _, rfl, rfl, f, _, _, i + j, rfl, rfl, hf6, ix_ints (k := i + j) hlen, ?_⟩
      refine ⟨some (.int (j : Nat)), some (.int m), rfl, ?_, ?_⟩
      · exact same_over nHf (s5.trans s6)
      · rw [upd_same]
        show some (HO.lst (((cvL xs ys i j).map V.int).set (i + j) (.int _))) = some (HO.lst ((cvL xs ys i (j + 1)).map V.int))
        rw [map_set, en, em, cvL_step (by rw [cvL_len] at hlen; exact hlen)]
    · rintro σ H5 ⟨v5, v6, rfl, s5, hf5⟩
      rw [List.length_map, cvL_next] at hf5
      exact ⟨_, _, _, _, rfl, s5, hf5⟩
  · rintro σ H3 ⟨v3, v4, v5, v6, rfl, s3, hf3⟩
    rw [List.length_map] at hf3
    exact ⟨_, rfl, q f _ nHf s3 hf3⟩
def sp_sum_of (C : Addr) (K : PySem.W.Frag) (CE : Addr) : Sp := fun vs H Q E => ∃ v : V, vs = [v] ∧ ((∃ (a : Addr) (ws : List Int), v = .ref a ∧ GuesserAt C H a ws 0 ∧ ∀ p H', H p = none → Same H H' → H' p = some (.lst ((xP ws).map V.int)) → Q (.ref p) H') ∨
  (NoG K H v ∧ EE H E CE v) ∨ (∃ (a : Addr) (ws : List Int) (sh : Nat), v = .ref a ∧ GuesserAt C H a ws sh ∧ 1 ≤ sh ∧ EE H E CE v))
theorem G_sum_of (T : Top K mg) : FnOk P w K mg base (L2.CX P w) 3 T.f_sum_of T.fd_sum_of ["value"] (sp_sum_of T.C_Guesser K T.C_InvalidGuesser) := by
  refine T.F_sum_of.ok (CX := L2.CX P w) sc_sum_of (fun vs H Q E h => by obtain ⟨v, rfl, _⟩ := h; rfl) (fun cdv A outer s H vs Q E hr h => ?_)
  obtain ⟨v, rfl, h⟩ := h
  refine ⟨_, (pss_cons (ps_if (PW.pt (pw_or (pt_not (pt_val (pe_callB (k_isi K rfl) (by rfl) T.n_isinstance (by decide +kernel) (pa_cons (pv 0) (pa_cons (pe_glob (v := .ref T.C_Guesser) rfl T.gc_Guesser rfl) pa_nil))))) (pw_or1 (pt_cmpR op_ne (pe_fld (pv 0) rfl) pe_int (nomark _)))))
    (pss_one (ps_raise rfl (takes_of rfl rfl rfl rfl) (pmk_oex T.er_InvalidGuesser.sup.T T.er_InvalidGuesser.ini T.er_InvalidGuesser.ity (G_InvalidGuesser___init__ (P := P) (CX := CX0) T) (hr.mono (by decide)) T.er_InvalidGuesser.bnd .nil pass0 (by rfl) T.gc_InvalidGuesser (pa_cons (pv 0) pa_nil))))
    pss_nil)
  (pss_one (ps_ret (pe_lst (pa_cons pe_int (StX.pa_star (pe_lc (own := [("weight", 1)]) (g := gName 1) (tt := tYes) (by rfl) sc_sum_of.nd (k_piL K rfl (pe_fld (pv 0) rfl)) (blkOk_by (own := [("weight", 1)]) (N := N_sum_of) (sc := defScope s_sum_of) (by decide +kernel)) (fun _ _ _ _ _ => (pg_name (i := 1) sc_sum_of.nd rfl (by first | exact Or.inl rfl | exact Or.inr rfl))) (fun _ _ _ _ _ => pts_nil) (fun _ _ _ _ _ => (pe_un un_neg (pv 1)))) pa_nil)))))), ?_⟩
  rcases h with ⟨a, ws, rfl, hG, q⟩ | ⟨⟨Ty, hT, ty⟩, q⟩ | ⟨a, ws, sh, rfl, hG, h1, q⟩
  · obtain ⟨hW, _, dx, p, ha, hp⟩ := id hG
    refine ⟨_, rfl, _, _, _, _, true, rfl, .own _, tyx_ins T.ic_Guesser ha, T.ic_Guesser.me, true, rfl, ?_⟩
    refine ⟨_, rfl, a, T.C_Guesser, dx, _, _, rfl, ha, T.cl_Guesser, T.na_Guesser_down, rfl, rfl, _, rfl, iteENF rfl ?_⟩
    refine ⟨_, rfl, a, T.C_Guesser, dx, _, _, rfl, ha, T.cl_Guesser, T.na_Guesser_parts, rfl, p, rfl, ⟨_, .inl (.inl hp)⟩, fun D nD => ?_⟩
    refine lc_mapL (K := K) (xs := ws.map V.int) ((ws.map fun n => -n).map V.int) nD (.inl (.inl hp)) (by rw [List.length_map, List.length_map, List.length_map]) (by rw [List.length_map]; exact small1000 (by have := hW.1; omega)) (fun x => rfl) ?_ ?_
    · intro i x y H' hx hy s Qt qt
      obtain ⟨n, hn, rfl⟩ := int_at hx
      rw [List.getElem?_map, List.getElem?_map, hn] at hy
      cases hy
      exact ⟨_, rfl, _, rfl, qt _ (Same.refl _)⟩
    · intro H2 s2 hD
      refine ⟨D, _, rfl, .inr (.inl (.inl hD)), ?_⟩
      refine ⟨by rw [List.length_cons, List.append_nil, List.length_map, List.length_map, sizeLine_eq]; have := hW.1; omega, fun r nr => ?_⟩
      rw [List.append_nil]
      exact q r _ (s2.free nr) (s2.trans (same_upd nr)) upd_same
  · refine ⟨_, rfl, _, _, _, _, false, rfl, .own _, ty, T.kx_Guesser Ty hT, false, rfl, ?_⟩
    exact ⟨_, rfl, mk_sup fun dd nd => q _ dd (Same.refl _) nd⟩
  · obtain ⟨hW, _, dx, p, ha, hp⟩ := id hG
    refine ⟨_, rfl, _, _, _, _, true, rfl, .own _, tyx_ins T.ic_Guesser ha, T.ic_Guesser.me, true, rfl, ?_⟩
    refine ⟨_, rfl, a, T.C_Guesser, dx, _, _, rfl, ha, T.cl_Guesser, T.na_Guesser_down, rfl, rfl, _, rfl, iteENT (by omega) ?_⟩
    exact ⟨_, rfl, mk_sup fun dd nd => q _ dd (Same.refl _) nd⟩
/-- a guesser without halvings -/
def GoodX (C : Addr) (H : Hp) (v : V) (ws : List Int) : Prop := ∃ a : Addr, v = .ref a ∧ GuesserAt C H a ws 0
theorem GoodX.same {C : Addr} {H H' : Hp} {v : V} {ws : List Int} (s : Same H H') (h : GoodX C H v ws) : GoodX C H' v ws := by
  obtain ⟨a, e, h⟩ := h
  exact ⟨a, e, h.same s⟩
def BadX (C : Addr) (K : PySem.W.Frag) (H : Hp) (v : V) : Prop := NoG K H v ∨ ∃ (a : Addr) (ws : List Int) (sh : Nat), v = .ref a ∧ GuesserAt C H a ws sh ∧ 1 ≤ sh
theorem BadX.same {C : Addr} {K : PySem.W.Frag} {H H' : Hp} {v : V} (s : Same H H') (h : BadX C K H v) : BadX C K H' v := by
  rcases h with h | ⟨a, ws, sh, e, h, k⟩
  · exact .inl (h.same s)
  · exact .inr ⟨a, ws, sh, e, h.same s, k⟩
/-- the first wrong one of two -/
def Two (C : Addr) (K : PySem.W.Frag) (H : Hp) (o t x : V) : Prop := (BadX C K H o ∧ x = o) ∨ (∃ ws, GoodX C H o ws ∧ BadX C K H t ∧ x = t)
theorem Two.same {C : Addr} {K : PySem.W.Frag} {H H' : Hp} {o t x : V} (s : Same H H') (h : Two C K H o t x) : Two C K H' o t x := by
  rcases h with ⟨h, e⟩ | ⟨ws, h, k, e⟩
  · exact .inl ⟨h.same s, e⟩
  · exact .inr ⟨ws, h.same s, k.same s, e⟩
theorem bad_alt {C CE : Addr} {K : PySem.W.Frag} {H : Hp} {v : V} {E : XK} {p : Prop} (h : BadX C K H v) (q : EE H E CE v) : p ∨ (NoG K H v ∧ EE H E CE v) ∨ (∃ (a : Addr) (ws : List Int) (sh : Nat), v = .ref a ∧ GuesserAt C H a ws sh ∧ 1 ≤ sh ∧ EE H E CE v) := by
  rcases h with h | ⟨a, ws, sh, e, h, k⟩
  · exact .inr (.inl ⟨h, q⟩)
  · exact .inr (.inr ⟨a, ws, sh, e, h, k, q⟩)
theorem GoodX.weights {C : Addr} {H : Hp} {v : V} {ws : List Int} (h : GoodX C H v ws) : Weights ws := by
  obtain ⟨a, _, h⟩ := h
  exact h.1
theorem cv_prod (w u : List Int) : ((cvL (xP w) (xP u) (xP w).length 0).drop 1).map (fun n => -n) = prodW w u := by
  refine ext_getD (by rw [List.length_map, List.length_drop, cvL_len, xP_len, xP_len, prodW_len]; omega) fun k hk => ?_
  rw [prodW_len] at hk
  rw [getD_map_neg]
  have e : ((cvL (xP w) (xP u) (xP w).length 0).drop 1).getD k 0 = prodF (xP w) (xP u) (k + 1) := by
    rw [List.getD_eq_getElem?_getD, List.getElem?_drop, ← List.getD_eq_getElem?_getD, cvL_get (by rw [xP_len, xP_len]; omega), Nat.add_comm]
    rfl
  rw [e]
  unfold prodW
  rw [getD_range _ hk]
def sp_after (C : Addr) (K : PySem.W.Frag) (CE : Addr) : Sp := fun vs H Q E => ∃ o t : V, vs = [o, t] ∧ ((∃ ws us, GoodX C H o ws ∧ GoodX C H t us ∧ ∀ p H', H p = none → Same H H' → H' p = some (.lst ((prodW ws us).map V.int)) → Q (.ref p) H') ∨ ∃ x, Two C K H o t x ∧ EE H E CE x)
theorem G_after (T : Top K mg) : FnOk P w K mg base (L2.CX P w) 4 T.f_after T.fd_after ["one", "other"] (sp_after T.C_Guesser K T.C_InvalidGuesser) := by
  refine T.F_after.ok (CX := L2.CX P w) sc_after (fun vs H Q E h => by obtain ⟨o, t, rfl, _⟩ := h; rfl) (fun cdv A outer s H vs Q E hr h => ?_)
  obtain ⟨o, t, rfl, h⟩ := h
  refine ⟨_, (pss_cons (ps_set (i := 2) sc_after.nd rfl (by first | exact Or.inl rfl | exact Or.inr rfl) (pe_call (G_sum_of (P := P) T) (hr.mono (by decide)) (by rfl) T.g_sum_of T.F_sum_of.kp T.b_sum_of .nil (passes_call (takes_of rfl rfl rfl rfl) (fun _ _ _ _ h => h)) (pa_cons (pv 0) pa_nil)))
  (pss_one (ps_ret (pe_lc (own := [("item", 3)]) (g := gName 3) (tt := tYes) (by rfl) sc_after.nd (k_piL K rfl (pe_slice (k_slL K rfl) (pe_call (G_times_sum (P := P) T) (hr.mono (by decide)) (by rfl) T.g_times_sum T.F_times_sum.kp T.b_times_sum .nil pass0 (pa_cons (pv 2) (pa_cons (pe_call (G_sum_of (P := P) T) (hr.mono (by decide)) (by rfl) T.g_sum_of T.F_sum_of.kp T.b_sum_of .nil (passes_call (takes_of rfl rfl rfl rfl) (fun _ _ _ _ h => h)) (pa_cons (pv 1) pa_nil)) pa_nil))) (po_some pe_int) po_none)) (blkOk_by (own := [("item", 3)]) (N := N_after) (sc := defScope s_after) (by decide +kernel)) (fun _ _ _ _ _ => (pg_name (i := 3) sc_after.nd rfl (by first | exact Or.inl rfl | exact Or.inr rfl))) (fun _ _ _ _ _ => pts_nil) (fun _ _ _ _ _ => (pe_un un_neg (pv 3))))))), ?_⟩
  rcases h with ⟨ws, us, h1, h2, q⟩ | ⟨x, ⟨h, rfl⟩ | ⟨ws, h1, h2, rfl⟩, q⟩
  · have w1 := h1.weights
    have w2 := h2.weights
    obtain ⟨a1, rfl, h1⟩ := h1
    obtain ⟨a2, rfl, h2⟩ := h2
    refine ⟨_, rfl, _, rfl, .inl ⟨a1, ws, rfl, h1, fun p1 H1 np1 s1 hp1 => ?_⟩⟩
    refine ⟨_, rfl, _, rfl, _, rfl, .inl ⟨a2, us, rfl, h2.same s1, fun p2 H2 np2 s2 hp2 => ?_⟩⟩
    have l1 := w1.1
    have l2 := w2.1
    refine ⟨p1, p2, xP ws, xP us, rfl, .inl (.inl (s2 _ _ hp1)), .inl (.inl hp2), by rw [xP_len]; omega, by rw [xP_len]; omega, by rw [xP_len]; omega, .inl w1.tame.xP, fun p3 H3 np3 s3 hp3 => ?_⟩
    refine ⟨_, rfl, p3, _, rfl, .inl (.inl hp3), fun c nc => ?_⟩
    rw [show (some (1 : Int)) = some ((1 : Nat) : Int) from rfl, cut_drop, ← List.map_drop]
    obtain ⟨H4, e4, s4, h4⟩ := fresh (.lst (((cvL (xP ws) (xP us) (xP ws).length 0).drop 1).map V.int)) nc
    rw [e4]
    have hC : SqL K H4 c (((cvL (xP ws) (xP us) (xP ws).length 0).drop 1).map V.int) := .inl (.inl h4)
    refine ⟨c, rfl, ⟨_, hC⟩, fun D nD => ?_⟩
    have hcv := cv_prod ws us
    have hll : ((cvL (xP ws) (xP us) (xP ws).length 0).drop 1).length ≤ 100 := by rw [List.length_drop, cvL_len, xP_len, xP_len]; omega
    generalize (cvL (xP ws) (xP us) (xP ws).length 0).drop 1 = L at *
    refine lc_mapL (K := K) (xs := L.map V.int) ((L.map fun n => -n).map V.int) nD hC (by rw [List.length_map, List.length_map, List.length_map]) (by rw [List.length_map]; exact small1000 (by omega)) (fun x => rfl) ?_ ?_
    · intro i x y H' hx hy s Qt qt
      obtain ⟨n, hn, rfl⟩ := int_at hx
      rw [List.getElem?_map, List.getElem?_map, hn] at hy
      cases hy
      exact ⟨_, rfl, _, rfl, qt _ (Same.refl _)⟩
    · intro H5 s5 hD
      rw [hcv] at hD
      have s4' := ((s1.trans s2).trans s3).trans s4
      exact q D _ (s4'.free nD) (s4'.trans s5) hD
  · exact ⟨_, rfl, _, rfl, bad_alt h q⟩
  · obtain ⟨a1, rfl, h1⟩ := h1
    refine ⟨_, rfl, _, rfl, .inl ⟨a1, ws, rfl, h1, fun p1 H1 np1 s1 hp1 => ?_⟩⟩
    exact ⟨_, rfl, _, rfl, _, rfl, bad_alt (h2.same s1) (q.same s1)⟩
end
end My

namespace My
open PySem PySem.Spec PyProof.Rows L2 Pre
/-! ### steps; what leads to what -/
def stepF : Nat → List Int
  | 0 => [1]
  | k + 1 => cvL (stepF k) [1, -1] (stepF k).length 0
def stepW (k : Nat) : List Int := ((stepF k).drop 1).map fun n => -n
theorem stepF_len : ∀ k, (stepF k).length = k + 1
  | 0 => rfl
  | k + 1 => by
    show (cvL _ _ _ _).length = _
    rw [cvL_len, stepF_len k]
    show k + 1 + 2 - 1 = _
    omega
theorem stepW_len (k : Nat) : (stepW k).length = k := by
  unfold stepW
  rw [List.length_map, List.length_drop, stepF_len]
  omega
theorem step_fit : ∀ k : Fin 9, (stepF k).all fun n => decide (-32768 ≤ n ∧ n ≤ 32768) := by decide +kernel
theorem stepW_ok {k : Nat} (hk : k ≤ 8) : Weights (stepW k) := by
  refine ⟨by rw [stepW_len]; exact hk, fun n hn => ?_⟩
  obtain ⟨m, hm, rfl⟩ := List.mem_map.mp hn
  have := of_decide_eq_true (List.all_eq_true.mp (step_fit ⟨k, by omega⟩) m (List.mem_of_mem_drop hm))
  omega
local macro_rules | `(tactic| walk_at "go") => `(tactic| repeat (first | (with_reducible first | refine iteT ?_ | refine iteF ?_ | refine iteNtt ?_ | refine iteNff ?_ | refine iteET (by omega) ?_ | refine iteEF (by omega) ?_ | refine iteENT (by omega) ?_ | refine iteENF (by omega) ?_ | refine iteDT (by omega) ?_ | refine iteDF (by omega) ?_ | refine iteNT (by omega) ?_ | refine iteNF (by omega) ?_) | refine ⟨_, rfl, ?_⟩ | refine ⟨_, _, rfl, rfl, ?_⟩ | refine ⟨_, _, rfl, ?_⟩ | refine ⟨rfl, ?_⟩ | refine .inl ⟨_, rfl, ?_⟩ | refine .inr ⟨_, rfl, ?_⟩))
local macro_rules | `(tactic| walk_at "b") => `(tactic| try dsimp (config := { proj := false, iota := false, eta := false, zeta := false }) only)
section
variable {P : Program} {w : World} {K : PySem.W.Frag} {mg : Str → Option Value} {base : Heap} [pf : Sup.PF P fileS]
def sp_steps (C : Addr) : Sp := fun vs H Q _ => ∃ k : Nat, vs = [.int k] ∧ k ≤ 8 ∧ ∀ a H', Same H H' → GuesserAt C H' a (stepW k) 0 → Q (.ref a) H'
theorem G_steps (T : Top K mg) : FnOk P w K mg base CX0 5 T.f_steps T.fd_steps ["order"] (sp_steps T.C_Guesser) := by
  refine T.F_steps.ok sc_steps (fun vs H Q E h => by obtain ⟨k, rfl, _⟩ := h; rfl) (fun cdv A outer s H vs Q E hr h => ?_)
  obtain ⟨k, rfl, hk, q⟩ := h
  refine ⟨_, PSs.nox (pss_cons (ps_if (pt_not (pt_val (pe_call (G_is_between (P := P) T) (hr.mono (by decide)) (by rfl) T.g_is_between T.F_is_between.kp T.b_is_between .nil pass0 (pa_cons (pv 0) (pa_cons pe_int (pa_cons (pe_glob (v := .int 8) rfl T.m_MOST_ORDER ⟨_, rfl⟩) pa_nil))))))
    (pss_one ps_never)
    pss_nil)
  (pss_cons (ps_set (i := 1) sc_steps.nd rfl (by first | exact Or.inl rfl | exact Or.inr rfl) (pe_lst (pa_cons pe_int pa_nil)))
  (pss_cons (ps_for PassesOwn.never rfl (pi_range1 (by rfl) T.n_range (pa_cons (pv 0) pa_nil)) (pg_name (i := 2) sc_steps.nd rfl (by first | exact Or.inl rfl | exact Or.inr rfl))
    (pss_one (ps_set (i := 1) sc_steps.nd rfl (by first | exact Or.inl rfl | exact Or.inr rfl) (pe_call (G_times_sum (P := P) T) (hr.mono (by decide)) (by rfl) T.g_times_sum T.F_times_sum.kp T.b_times_sum .nil pass0 (pa_cons (pv 1) (pa_cons (pe_lst (pa_cons pe_int (pa_cons (pe_un un_neg pe_int) pa_nil))) pa_nil))))))
  (pss_one (ps_ret (pe_make T.mk_Guesser (G_Guesser___init__ (P := P) T) (hr.mono (by decide)) (by rfl) T.gc_Guesser T.b_Guesser___init__ .nil pass0 (pa_cons (pe_lc (own := [("item", 3)]) (g := gName 3) (tt := tYes) (by rfl) sc_steps.nd (k_piL K rfl (pe_slice (k_slL K rfl) (pv 1) (po_some pe_int) po_none)) (blkOk_by (own := [("item", 3)]) (N := N_steps) (sc := defScope s_steps) (by decide +kernel)) (fun _ _ _ _ _ => (pg_name (i := 3) sc_steps.nd rfl (by first | exact Or.inl rfl | exact Or.inr rfl))) (fun _ _ _ _ _ => pts_nil) (fun _ _ _ _ _ => (pe_un un_neg (pv 3)))) (pa_cons pe_int pa_nil)))))))), ?_⟩
  refine ⟨_, rfl, (k : Int), 0, some 8, rfl, _, rfl, ?_⟩
  rw [decide_eq_true ⟨by omega, fun j h => by cases h; omega⟩]
  refine iteF ⟨(show 1 ≤ sizeLine by decide), fun p np => ?_⟩
  obtain ⟨H1, e1, s1, h1⟩ := fresh (.lst [V.int 1]) np
  rw [e1]
  refine ⟨_, rfl, _, rfl, by omega, by omega, ?_⟩
  rw [Int.toNat_natCast]
  refine for_range (lo := 0) (n := k) (fun i σ H2 => ∃ (p : Addr) (v2 v3 : Option V), σ = [some (.int k), some (.ref p), v2, v3] ∧ Same H H2 ∧ H2 p = some (.lst ((stepF i).map V.int))) ⟨p, none, none, rfl, s1, h1⟩ ?_ ?_
  · rintro i σ H2 hi ⟨p2, v2, v3, rfl, s2, h2⟩
    refine ⟨_, rfl, _, rfl, (show 2 ≤ sizeLine by decide), fun c nc => ?_⟩
    obtain ⟨H3, e3, s3, h3⟩ := fresh (.lst ([1, -1].map V.int)) nc
    rw [show upd H2 c (.lst [V.int 1, V.int (-1)]) = H3 from e3]
    refine ⟨p2, c, stepF i, [1, -1], rfl, .inl (.inl (s3 _ _ h2)), .inl (.inl h3), by rw [stepF_len]; omega, by decide, by rw [stepF_len]; omega, .inr (by unfold Tame; decide), fun p4 H4 np4 s4 h4 => ?_⟩
    exact ⟨p4, _, _, rfl, (s2.trans s3).trans s4, h4⟩
  · rintro σ H2 ⟨p2, v2, v3, rfl, s2, h2⟩
    have hl := stepF_len k
    refine ⟨_, rfl, _, rfl, p2, _, rfl, .inl (.inl h2), fun c nc => ?_⟩
    rw [show (some (1 : Int)) = some ((1 : Nat) : Int) from rfl, cut_drop, ← List.map_drop]
    obtain ⟨H3, e3, s3, h3⟩ := fresh (.lst (((stepF k).drop 1).map V.int)) nc
    rw [e3]
    have hC : SqL K H3 c (((stepF k).drop 1).map V.int) := .inl (.inl h3)
    refine ⟨c, rfl, ⟨_, hC⟩, fun D nD => ?_⟩
    refine lc_mapL (K := K) (xs := ((stepF k).drop 1).map V.int) ((stepW k).map V.int) nD hC (by rw [List.length_map, List.length_map, stepW_len, List.length_drop]; omega) (by rw [List.length_map, List.length_drop]; exact small1000 (by omega)) (fun x => rfl) ?_ ?_
    · intro i x y H' hx hy s Qt qt
      obtain ⟨n, hn, rfl⟩ := int_at hx
      unfold stepW at hy
      rw [List.getElem?_map, List.getElem?_map, hn] at hy
      cases hy
      exact ⟨_, rfl, _, rfl, qt _ (Same.refl _)⟩
    · intro H4 s4 hD
      intro x dx nx ndx nex
      have s5 : Same H4 (upd (upd H4 dx (.own x)) x (.ins T.C_Guesser dx [])) := fun b o e => by
        rw [upd_ne (ne_of_none e nx), upd_ne (ne_of_none e ndx)]
        exact e
      refine ⟨x, D, dx, stepW k, 0, rfl, upd_same, .inl (s5 _ _ hD), stepW_ok hk, by decide, fun H6 kp hG _ => ⟨rfl, ?_⟩⟩
      exact q x _ (fun b o e => kp b o (ne_of_none ((((s2.trans s3).trans s4)) b o e) nx) (s5 b o ((((s2.trans s3).trans s4)) b o e))) hG
def sp_leads_to (C : Addr) (K : PySem.W.Frag) (CE : Addr) : Sp := fun vs H Q E => ∃ o t : V, vs = [o, t] ∧ ((∃ ws us, GoodX C H o ws ∧ GoodX C H t us ∧ (∀ H', Same H H' → Lead ws us none → Q .non H') ∧ ∀ p H' ts, H p = none → Same H H' → H' p = some (.lst (ts.map V.int)) → Lead ws us (some ts) → Q (.ref p) H') ∨ ∃ x, Two C K H o t x ∧ EE H E CE x)
theorem G_leads_to (T : Top K mg) : FnOk P w K mg base (L2.CX P w) 4 T.f_leads_to T.fd_leads_to ["one", "other"] (sp_leads_to T.C_Guesser K T.C_InvalidGuesser) := by
  refine T.F_leads_to.ok (CX := L2.CX P w) sc_leads_to (fun vs H Q E h => by obtain ⟨o, t, rfl, _⟩ := h; rfl) (fun cdv A outer s H vs Q E hr h => ?_)
  obtain ⟨o, t, rfl, h⟩ := h
  refine ⟨_, (pss_cons (ps_par (by rfl) sc_leads_to.nd (i := 4) (j := 5) rfl rfl (by decide) rfl rfl (pa_cons (pe_call (G_sum_of (P := P) T) (hr.mono (by decide)) (by rfl) T.g_sum_of T.F_sum_of.kp T.b_sum_of .nil (passes_call (takes_of rfl rfl rfl rfl) (fun _ _ _ _ h => h)) (pa_cons (pv 0) pa_nil)) (pa_cons (pe_call (G_sum_of (P := P) T) (hr.mono (by decide)) (by rfl) T.g_sum_of T.F_sum_of.kp T.b_sum_of .nil (passes_call (takes_of rfl rfl rfl rfl) (fun _ _ _ _ h => h)) (pa_cons (pv 1) pa_nil)) pa_nil)) (by rfl))
  (pss_cons (ps_if (pt_cmpR op_lt (pe_callB (k_len K rfl) (by rfl) T.n_len (by decide +kernel) (pa_cons (pv 5) pa_nil)) (pe_callB (k_len K rfl) (by rfl) T.n_len (by decide +kernel) (pa_cons (pv 4) pa_nil)) (nomark _))
    (pss_one (ps_ret pe_non))
    pss_nil)
  (pss_cons (ps_set (i := 2) sc_leads_to.nd rfl (by first | exact Or.inl rfl | exact Or.inr rfl) (pe_lst pa_nil))
  (pss_cons (ps_for (passes_of rfl) rfl (pi_range1 (by rfl) T.n_range (pa_cons (pe_op op_add (pe_op op_sub (pe_callB (k_len K rfl) (by rfl) T.n_len (by decide +kernel) (pa_cons (pv 5) pa_nil)) (pe_callB (k_len K rfl) (by rfl) T.n_len (by decide +kernel) (pa_cons (pv 4) pa_nil))) pe_int) pa_nil)) (pg_name (i := 3) sc_leads_to.nd rfl (by first | exact Or.inl rfl | exact Or.inr rfl))
    (pss_cons (ps_set (i := 6) sc_leads_to.nd rfl (by first | exact Or.inl rfl | exact Or.inr rfl) (pe_ix (k_ixL K rfl) (pv 5) (pv 3) (fun _ _ => rfl)))
  (pss_cons (ps_for (passes_of rfl) rfl (pi_range2 (by rfl) T.n_range (pa_cons pe_int (pa_cons (pe_op op_add (pe_callB (call_min2 rfl) (by rfl) T.n_min (by decide +kernel) (pa_cons (pv 3) (pa_cons (pe_op op_sub (pe_callB (k_len K rfl) (by rfl) T.n_len (by decide +kernel) (pa_cons (pv 4) pa_nil)) pe_int) pa_nil))) pe_int) pa_nil))) (pg_name (i := 7) sc_leads_to.nd rfl (by first | exact Or.inl rfl | exact Or.inr rfl))
    (pss_one (ps_set (i := 6) sc_leads_to.nd rfl (by first | exact Or.inl rfl | exact Or.inr rfl) (pe_op op_sub (pv 6) (pe_op op_mulA (pe_ix (k_ixL K rfl) (pv 4) (pv 7) (fun _ _ => rfl)) (pe_ix (k_ixL K rfl) (pv 2) (pe_op op_sub (pv 3) (pv 7)) (fun _ _ => rfl)))))))
  (pss_one (ps_expr (pe_bm PySem.F.plainAttrs_list PySem.F.slot_list_append PySem.F.type_list_append mt_append (pv 2) (pa_cons (pv 6) pa_nil)))))))
  (pss_cons (ps_if (pt_cmpR (k_neD K rfl hr.units) (pe_call (G_times_sum (P := P) T) (hr.mono (by decide)) (by rfl) T.g_times_sum T.F_times_sum.kp T.b_times_sum .nil pass0 (pa_cons (pv 4) (pa_cons (pv 2) pa_nil))) (pv 5) (nomark _))
    (pss_one (ps_ret pe_non))
    pss_nil)
  (pss_one (ps_ret (pe_lc (own := [("item", 6)]) (g := gName 6) (tt := tYes) (by rfl) sc_leads_to.nd (k_piL K rfl (pe_slice (k_slL K rfl) (pv 2) (po_some pe_int) po_none)) (blkOk_by (own := [("item", 6)]) (N := N_leads_to) (sc := defScope s_leads_to) (by decide +kernel)) (fun _ _ _ _ _ => (pg_name (i := 6) sc_leads_to.nd rfl (by first | exact Or.inl rfl | exact Or.inr rfl))) (fun _ _ _ _ _ => pts_nil) (fun _ _ _ _ _ => (pe_un un_neg (pv 6))))))))))), ?_⟩
  rcases h with ⟨ws, us, h1, h2, q0, q1⟩ | ⟨x, ⟨h, rfl⟩ | ⟨ws, h1, h2, rfl⟩, q⟩
  · have w1 := h1.weights
    have w2 := h2.weights
    obtain ⟨a1, rfl, h1⟩ := h1
    obtain ⟨a2, rfl, h2⟩ := h2
    have l1 := w1.1
    have l2 := w2.1
    refine ⟨_, rfl, _, rfl, .inl ⟨a1, ws, rfl, h1, fun p1 H1 np1 s1 hp1 => ?_⟩⟩
    refine ⟨_, rfl, _, rfl, .inl ⟨a2, us, rfl, h2.same s1, fun p2 H2 np2 s2 hp2 => ?_⟩⟩
    refine ⟨_, _, rfl, ?_⟩
    have s02 := s1.trans s2
    have hp1' := s2 _ _ hp1
    refine ⟨_, rfl, p2, _, rfl, .inl (.inl (.inl hp2)), _, rfl, p1, _, rfl, .inl (.inl (.inl hp1')), _, _, rfl, rfl, _, rfl, ?_⟩
    rw [List.length_map, List.length_map, xP_len, xP_len]
    by_cases c0 : us.length < ws.length
    · exact iteDT (by omega) (q0 _ s02 (lead_short c0))
    refine iteDF (by omega) ?_
    refine ⟨Nat.zero_le _, fun f nf => ?_⟩
    obtain ⟨H3, e3, s3, hf⟩ := fresh (.lst ([] : List V)) nf
    rw [e3]
    have p1f : p1 ≠ f := ne_of_none hp1' nf
    have p2f : p2 ≠ f := ne_of_none hp2 nf
    have nHf : H f = none := s02.free nf
    refine ⟨_, rfl, p2, _, rfl, .inl (.inl (.inl (s3 _ _ hp2))), _, rfl, p1, _, rfl, .inl (.inl (.inl (s3 _ _ hp1'))), _, _, rfl, rfl, _, _, rfl, rfl, _, rfl, ?_⟩
    rw [List.length_map, List.length_map, xP_len, xP_len]
    refine ⟨by omega, by omega, ?_⟩
    rw [show ((((us.length + 1 : Nat) : Int) - ((ws.length + 1 : Nat) : Int)) + 1).toNat = us.length - ws.length + 1 by omega]
    refine for_range (lo := 0) (n := us.length - ws.length + 1) (fun i σ HA => ∃ (fs : List Int) (v3 v6 v7 : Option V), σ = [some (.ref a1), some (.ref a2), some (.ref f), v3, some (.ref p1), some (.ref p2), v6, v7] ∧ (∀ c o, c ≠ f → H3 c = some o → HA c = some o) ∧ HA f = some (.lst (fs.map V.int)) ∧ fs.length = i ∧ Quot ws us fs) ⟨[], none, none, none, rfl, fun _ _ _ z => z, hf, rfl, fun p hp => nomatch hp⟩ ?_ ?_
    · rintro i σ HA hi ⟨fs, v3, v6, v7, rfl, keep, hfA, hfl, hQ⟩
      have hp1A := keep _ _ p1f (s3 _ _ hp1')
      have hp2A := keep _ _ p2f (s3 _ _ hp2)
      refine ⟨_, rfl, _, rfl, p2, _, _, _, rfl, rfl, .inl (.inl hp2A), (by rw [Int.zero_add]; exact at_ints (by rw [xP_len]; omega)), ?_⟩
      refine ⟨_, rfl, _, rfl, p1, _, rfl, .inl (.inl (.inl hp1A)), _, _, rfl, rfl, ?_⟩
      refine ⟨_, _, rfl, _, _, rfl, rfl, 1, ((min i ws.length : Nat) : Int) + 1, ?_, ⟨by omega, by omega, by omega, by omega⟩, ?_⟩
      · simp only [List.cons.injEq, V.int.injEq, and_true, List.length_map, true_and, xP_len]
        split <;> omega
      rw [show (((min i ws.length : Nat) : Int) + 1 - 1).toNat = min i ws.length by omega]
      refine for_range (lo := 1) (n := min i ws.length) (fun j σ HB => ∃ v7 : Option V, σ = [some (.ref a1), some (.ref a2), some (.ref f), some (.int (0 + (i : Int))), some (.ref p1), some (.ref p2), some (.int ((xP us).getD i 0 - sumN j fun s => (xP ws).getD (s + 1) 0 * fs.getD (i - (s + 1)) 0)), v7] ∧ HB = HA) ⟨v7, by rw [sumN, Int.sub_zero]; rfl, rfl⟩ ?_ ?_
      · rintro j σ HB hj ⟨v7, rfl, rfl⟩
        have ht := (Weights.tame w1).xP.at (j + 1)
        refine ⟨_, rfl, _, rfl, _, rfl, p1, _, _, _, rfl, rfl, .inl (.inl hp1A), (by rw [show (1 : Int) + (j : Int) = ((j + 1 : Nat) : Int) by omega]; exact at_ints (by rw [xP_len]; omega)), _, rfl, _, rfl, _, rfl, _, _, rfl, rfl, f, _, _, _, rfl, rfl, .inl (.inl hfA), (by rw [show (0 : Int) + (i : Int) - (1 + (j : Int)) = ((i - (j + 1) : Nat) : Int) by omega]; exact at_ints (by omega)), _, _, rfl, rfl, .inl (.inl ⟨by omega, by omega⟩), _, _, rfl, rfl, ?_⟩
        refine ⟨some (.int (1 + (j : Int))), ?_, rfl⟩
        rw [sumN, ← Int.sub_sub]
        rfl
      · rintro σ HB ⟨v7, rfl, rfl⟩
        refine ⟨_, rfl, .inl ⟨rfl, _, .inl (.inl hfA)⟩, _, rfl, f, _, _, rfl, rfl, hfA, by rw [List.length_map]; exact small1000 (by omega), ?_⟩
        refine ⟨fs ++ [(xP us).getD i 0 - sumN (min i ws.length) fun s => (xP ws).getD (s + 1) 0 * fs.getD (i - (s + 1)) 0], _, _, _, rfl, fun c o nc z => by rw [upd_ne nc]; exact keep c o nc z, by rw [upd_same, List.map_append]; rfl, by rw [List.length_append, hfl]; rfl, quot_next hQ (by rw [hfl])⟩
    · rintro σ HA ⟨fs, v3, v6, v7, rfl, keep, hfA, hfl, hQ⟩
      have hp1A := keep _ _ p1f (s3 _ _ hp1')
      have hp2A := keep _ _ p2f (s3 _ _ hp2)
      have sHA : Same H HA := fun c o z => keep c o (ne_of_none z nHf) (s3 _ _ (s02 _ _ z))
      refine ⟨_, rfl, _, rfl, p1, f, xP ws, fs, rfl, .inl (.inl hp1A), .inl (.inl hfA), by rw [xP_len]; omega, by omega, by rw [xP_len]; omega, .inl w1.tame.xP, fun p3 H4 np3 s4 hp3 => ?_⟩
      have hL := lead_quot hQ (by omega) (by omega)
      have ecv : cvL (xP ws) fs (xP ws).length 0 = (List.range (ws.length + 1 + fs.length - 1)).map (prodF (xP ws) fs) := by unfold cvL; rw [xP_len]; unfold prodF; rw [xP_len]
      rw [ecv] at hp3
      refine ⟨_, rfl, neD_lst (.inl (.inl hp3)) (.inl (.inl (s4 _ _ hp2A))) ⟨_, rfl, ?_⟩⟩
      have sH4 := sHA.trans s4
      by_cases c : (List.range (ws.length + 1 + fs.length - 1)).map (prodF (xP ws) fs) = xP us
      · rw [if_pos c] at hL
        rw [decide_eq_true c]
        refine iteF ?_
        refine ⟨_, rfl, _, rfl, f, _, rfl, .inl (.inl (s4 _ _ hfA)), fun g ng => ?_⟩
        rw [show (some (1 : Int)) = some ((1 : Nat) : Int) from rfl, cut_drop, ← List.map_drop]
        obtain ⟨H5, e5, s5, hg⟩ := fresh (.lst ((fs.drop 1).map V.int)) ng
        rw [e5]
        refine ⟨g, rfl, ⟨_, .inl (.inl hg)⟩, fun D nD => ?_⟩
        refine lc_mapL (K := K) (xs := (fs.drop 1).map V.int) (((fs.drop 1).map fun n => -n).map V.int) nD (.inl (.inl hg)) (by rw [List.length_map, List.length_map, List.length_map]) (by rw [List.length_map, List.length_drop]; exact small1000 (by omega)) (fun x => rfl) ?_ ?_
        · intro i x y H' hx hy s Qt qt
          obtain ⟨n, hn, rfl⟩ := int_at hx
          rw [List.getElem?_map, List.getElem?_map, hn] at hy
          cases hy
          exact ⟨_, rfl, _, rfl, qt _ (Same.refl _)⟩
        · intro H6 s6 hD
          exact q1 D _ _ ((sH4.trans s5).free nD) ((sH4.trans s5).trans s6) hD hL
      · rw [if_neg c] at hL
        rw [decide_eq_false c]
        exact iteT (q0 _ sH4 hL)
  · exact ⟨_, rfl, _, rfl, bad_alt h q⟩
  · obtain ⟨a1, rfl, h1⟩ := h1
    refine ⟨_, rfl, _, rfl, .inl ⟨a1, ws, rfl, h1, fun p1 H1 np1 s1 hp1 => ?_⟩⟩
    exact ⟨_, rfl, _, rfl, bad_alt (h2.same s1) (q.same s1)⟩
end
end My

namespace My
/-! ### rests alike for a depth -/
theorem pow_dbl {d : Nat} (h : 1 ≤ d) : (2 : Int) ^ d = 2 * 2 ^ (d - 1) := by
  obtain ⟨k, rfl⟩ : ∃ k, d = k + 1 := ⟨d - 1, by omega⟩
  rw [Nat.add_sub_cancel, Int.pow_succ, Int.mul_comm]
theorem wrap_iff {a b : Int} {d : Nat} : wrapI a d = wrapI b d ↔ (2 * 2 ^ (d - 1) : Int) ∣ a - b := by
  constructor
  · intro h
    obtain ⟨k, hk⟩ := wrap_eq a d
    obtain ⟨k', hk'⟩ := wrap_eq b d
    refine ⟨k' - k, ?_⟩
    rw [Int.mul_comm, Int.sub_mul]
    omega
  · rintro ⟨c, hc⟩
    have e : a = b + c * (2 * 2 ^ (d - 1)) := by rw [Int.mul_comm]; omega
    rw [e, wrap_add]
theorem restD_front (w row : List Int) (p : Nat) : restD w row p = row.getD p 0 - sumN w.length fun s => w.getD s 0 * row.getD (p - (s + 1)) 0 := by
  unfold restD
  rw [sumN_front, xP_zero, Int.one_mul, Nat.sub_zero]
  have e : (sumN w.length fun i => (xP w).getD (i + 1) 0 * row.getD (p - (i + 1)) 0) = -1 * sumN w.length fun s => w.getD s 0 * row.getD (p - (s + 1)) 0 := by
    rw [← sumN_mul]
    refine sumN_congr fun i _ => ?_
    rw [xP_succ, Int.neg_mul, Int.neg_one_mul]
  rw [e]
  omega
theorem rest_at {w row : List Int} {p : Nat} (h2 : p < row.length) : restAt w 0 row p = if p < w.length then row.getD p 0 else row.getD p 0 - sumN w.length fun s => w.getD s 0 * row.getD (p - (s + 1)) 0 := by
  unfold restAt
  by_cases c : p < w.length
  · rw [if_pos c, if_pos c, Int.sub_zero]
  · rw [if_neg c, if_neg c, rest_sum (by omega) h2, restD_front]
theorem rest_zero {N : Int} {w row : List Int} (h : ∀ i, N ∣ w.getD i 0) {p : Nat} (hp : p < row.length) : N ∣ restAt w 0 row p - row.getD p 0 := by
  rw [rest_at hp]
  by_cases c : p < w.length
  · rw [if_pos c, Int.sub_self]
    exact Int.dvd_zero _
  · rw [if_neg c]
    have := sumN_dvd (N := N) (n := w.length) (f := fun s => w.getD s 0 * row.getD (p - (s + 1)) 0) fun i _ => Int.dvd_mul_of_dvd_left (h i)
    rw [show ∀ a b : Int, a - b - a = -b from fun a b => by omega]
    exact Int.dvd_neg.mpr this
theorem rest_alike {N : Int} {w v row : List Int} (hl : w.length = v.length) (h : ∀ i, N ∣ w.getD i 0 - v.getD i 0) {p : Nat} (hp : p < row.length) : N ∣ restAt w 0 row p - restAt v 0 row p := by
  rw [rest_at hp, rest_at hp, hl]
  by_cases c : p < v.length
  · rw [if_pos c, if_pos c, Int.sub_self]
    exact Int.dvd_zero _
  · rw [if_neg c, if_neg c]
    have := sumN_dvd (N := N) (n := v.length) (f := fun s => (w.getD s 0 - v.getD s 0) * row.getD (p - (s + 1)) 0) fun i _ => Int.dvd_mul_of_dvd_left (h i)
    have e : (sumN v.length fun s => (w.getD s 0 - v.getD s 0) * row.getD (p - (s + 1)) 0) = (sumN v.length fun s => w.getD s 0 * row.getD (p - (s + 1)) 0) + -1 * sumN v.length fun s => v.getD s 0 * row.getD (p - (s + 1)) 0 := by
      rw [← sumN_mul, ← sumN_add]
      refine sumN_congr fun i _ => ?_
      rw [Int.sub_mul, Int.neg_one_mul]
      omega
    rw [e] at this
    rw [show ∀ a b c : Int, a - b - (a - c) = -(b + -1 * c) from fun a b c => by omega]
    exact Int.dvd_neg.mpr this
theorem rests_ext {d : Nat} {w v row : List Int} (h : ∀ p, p < row.length → (2 * 2 ^ (d - 1) : Int) ∣ restAt w 0 row p - restAt v 0 row p) : restsF w 0 d row = restsF v 0 d row := by
  unfold restsF toldR
  rw [List.map_map, List.map_map]
  refine List.map_congr_left fun p hp => ?_
  exact wrap_iff.mpr (h p (List.mem_range.mp hp))
theorem rests_ne {d : Nat} {w v row : List Int} {p : Nat} (hp : p < row.length) (h : ¬ (2 * 2 ^ (d - 1) : Int) ∣ restAt w 0 row p - restAt v 0 row p) : restsF w 0 d row ≠ restsF v 0 d row := by
  intro e
  refine h (wrap_iff.mp ?_)
  have e2 : (restsF w 0 d row)[p]? = (restsF v 0 d row)[p]? := by rw [e]
  unfold restsF toldR at e2
  rw [List.getElem?_map, List.getElem?_map, List.getElem?_map, List.getElem?_map, List.getElem?_range hp] at e2
  exact Option.some.inj e2
/-- one sample and none else, a place behind -/
def unitR (many spot : Nat) (e : Int) : List Int := ((List.range many).map fun k => if k = many - 1 - spot then e else 0) ++ [0]
theorem unitR_len (many spot : Nat) (e : Int) : (unitR many spot e).length = many + 1 := by unfold unitR; rw [List.length_append, List.length_map, List.length_range]; rfl
theorem unit_get (many spot : Nat) (e : Int) (k : Nat) : (unitR many spot e).getD k 0 = if k < many ∧ k = many - 1 - spot then e else 0 := by
  unfold unitR
  by_cases c : k < many
  · rw [List.getD_eq_getElem?_getD, List.getElem?_append_left (by rw [List.length_map, List.length_range]; exact c), ← List.getD_eq_getElem?_getD, getD_range _ c]
    by_cases c2 : k = many - 1 - spot
    · rw [if_pos c2, if_pos ⟨c, c2⟩]
    · rw [if_neg c2, if_neg (fun z => c2 z.2)]
  · rw [if_neg (fun z => c z.1), List.getD_eq_getElem?_getD, List.getElem?_append_right (by rw [List.length_map, List.length_range]; omega), List.length_map, List.length_range]
    cases h : k - many with
    | zero => rfl
    | succ n => rfl
/-- a weight that counts behind so many samples -/
def wU (X : List Int) (many spot : Nat) : Int := if X.length ≤ many then X.getD spot 0 else 0
theorem unit_rest {X : List Int} {many spot : Nat} {e : Int} (hs : spot < many) : restAt X 0 (unitR many spot e) many = -(wU X many spot * e) := by
  have e0 : (unitR many spot e).getD many 0 = 0 := by rw [unit_get, if_neg (fun z => absurd z.1 (Nat.lt_irrefl _))]
  rw [rest_at (by rw [unitR_len]; omega), e0]
  unfold wU
  by_cases c : X.length ≤ many
  · rw [if_neg (by omega), if_pos c]
    by_cases c2 : spot < X.length
    · rw [sumN_only (k := spot) c2 fun i hi ne => by rw [unit_get, if_neg (by omega), Int.mul_zero], unit_get, if_pos (by omega)]
      omega
    · rw [sumN_none fun i hi => by rw [unit_get, if_neg (by omega), Int.mul_zero], getD_over X spot (by omega), Int.zero_mul]
      rfl
  · rw [if_pos (by omega), if_neg c, Int.zero_mul]
    rfl
/-- what parting_rests tells -/
def Part (w v : List Int) (d : Nat) : Option (List Int) → Prop
  | none => ∀ row, restsF w 0 d row = restsF v 0 d row
  | some t => Samples d t ∧ t.length ≤ max w.length v.length + 1 ∧ restsF w 0 d t ≠ restsF v 0 d t
theorem Part.symm {w v : List Int} {d : Nat} {r : Option (List Int)} (h : Part w v d r) : Part v w d r := by
  cases r with
  | none => exact fun row => (h row).symm
  | some t => exact ⟨h.1, by have := h.2.1; omega, fun e => h.2.2 e.symm⟩
theorem part_alike {s l : List Int} {d : Nat} (hl : s.length = l.length) (h : ∀ i, i < l.length → (2 * 2 ^ (d - 1) : Int) ∣ s.getD i 0 - l.getD i 0) : Part s l d none := fun row => rests_ext fun p hp => rest_alike hl (fun i => by
  by_cases c : i < l.length
  · exact h i c
  · rw [getD_over s i (by omega), getD_over l i (by omega)]
    exact Int.dvd_zero _) hp
theorem part_zero {s l : List Int} {d : Nat} (h1 : ∀ i, i < s.length → (2 * 2 ^ (d - 1) : Int) ∣ s.getD i 0) (h2 : ∀ i, i < l.length → (2 * 2 ^ (d - 1) : Int) ∣ l.getD i 0) : Part s l d none := fun row => rests_ext fun p hp => by
  have z : ∀ X : List Int, (∀ i, i < X.length → (2 * 2 ^ (d - 1) : Int) ∣ X.getD i 0) → ∀ i, (2 * 2 ^ (d - 1) : Int) ∣ X.getD i 0 := fun X hX i => by
    by_cases c : i < X.length
    · exact hX i c
    · rw [getD_over X i (by omega)]
      exact Int.dvd_zero _
  have a := rest_zero (row := row) (z s h1) hp
  have b := rest_zero (row := row) (z l h2) hp
  have := Int.dvd_sub a b
  rw [show ∀ a b c : Int, a - c - (b - c) = a - b from fun a b c => by omega] at this
  exact this
theorem part_some {s l : List Int} {d many spot : Nat} (hd : 1 ≤ d) (hm : many ≤ max s.length l.length) (hs : spot < many) (hU : ¬ (2 * 2 ^ (d - 1) : Int) ∣ wU s many spot - wU l many spot) : Part s l d (some (unitR many spot (if 1 < d then 1 else -1))) := by
  have hp : (1 : Int) ≤ 2 ^ (d - 1) := Int.pow_pos (by decide)
  refine ⟨fun n hn => ?_, by rw [unitR_len]; omega, rests_ne (p := many) (by rw [unitR_len]; omega) fun z => hU ?_⟩
  · have h2 : 1 < d → (2 : Int) ≤ 2 ^ (d - 1) := fun c => by
      obtain ⟨k, rfl⟩ : ∃ k, d = k + 2 := ⟨d - 2, by omega⟩
      rw [show k + 2 - 1 = k + 1 by omega, Int.pow_succ]
      have : (1 : Int) ≤ 2 ^ k := Int.pow_pos (by decide)
      omega
    unfold unitR at hn
    rcases List.mem_append.mp hn with hn | hn
    · obtain ⟨k, _, rfl⟩ := List.mem_map.mp hn
      by_cases c : 1 < d
      · have := h2 c
        rw [if_pos c]
        split <;> omega
      · rw [if_neg c]
        split <;> omega
    · rw [List.mem_singleton.mp hn]
      omega
  · rw [unit_rest hs, unit_rest hs] at z
    by_cases c : 1 < d
    · rw [if_pos c, Int.mul_one, Int.mul_one] at z
      rw [show ∀ a b : Int, -a - -b = -(a - b) from fun a b => by omega] at z
      exact Int.dvd_neg.mp z
    · rw [if_neg c] at z
      rw [show ∀ a b : Int, -(a * -1) - -(b * -1) = a - b from fun a b => by omega] at z
      exact z
theorem mod_eq {N a b : Int} : a % N = b % N ↔ N ∣ a - b := by
  rw [Int.emod_eq_emod_iff_emod_sub_eq_zero]
  exact ⟨Int.dvd_of_emod_eq_zero, Int.emod_eq_zero_of_dvd⟩
end My

namespace My
open PySem PySem.Spec PyProof.Rows L2 Pre
/-! ### a row of which two guessers have unlike rests -/
theorem join_te {c : Bool} {te1 te2 : TE} {σ : L2.St} {H : Hp} {R : VK} (Pv : V → Hp → Prop) (h1 : c = true → ∀ R' : VK, (∀ v H', Pv v H' → R' v H') → te1 σ H R') (h2 : c = false → ∀ R' : VK, (∀ v H', Pv v H' → R' v H') → te2 σ H R') (cont : ∀ v H', Pv v H' → R v H') : if c = true then te1 σ H R else te2 σ H R := by
  cases c with
  | true => exact h1 rfl R cont
  | false => exact h2 rfl R cont
theorem sel_if {α β : Type} (l : List α) (p : α → Bool) (f : α → β) : (l.map fun x => if p x = true then some (f x) else none).filterMap id = (l.filter p).map f := by
  induction l with
  | nil => rfl
  | cons x r ih =>
    rw [List.map_cons, List.filterMap_cons, List.filter_cons]
    by_cases c : p x = true
    · rw [if_pos c, if_pos c, List.map_cons, ← ih]; rfl
    · rw [if_neg c, if_neg c, ← ih]; rfl
theorem rep_zero (n : Nat) : (List.replicate n [V.int 0]).flatten = (List.replicate n (0 : Int)).map V.int := by
  induction n with
  | zero => rfl
  | succ n ih => rw [List.replicate_succ, List.flatten_cons, ih, List.replicate_succ]; rfl
theorem rep_get (n k : Nat) : (List.replicate n (0 : Int)).getD k 0 = 0 := by
  rw [List.getD_eq_getElem?_getD, List.getElem?_replicate]
  split <;> rfl
theorem all_zero {l : List Int} (h : (l.filter fun x => decide (x ≠ 0)) = []) (k : Nat) : l.getD k 0 = 0 := by
  by_cases c : k < l.length
  · have := List.filter_eq_nil_iff.mp h _ (List.getElem_mem c)
    rw [List.getD_eq_getElem?_getD, List.getElem?_eq_getElem c]
    exact Classical.byContradiction fun z => this (decide_eq_true z)
  · exact getD_over l k (by omega)
theorem some_other {l : List Int} (h : (l.filter fun x => decide (x ≠ 0)) ≠ []) : ∃ k, k < l.length ∧ l.getD k 0 ≠ 0 := by
  refine Classical.byContradiction fun z => h (List.filter_eq_nil_iff.mpr fun x hx c => z ?_)
  obtain ⟨k, hk, e⟩ := List.mem_iff_getElem.mp hx
  refine ⟨k, hk, ?_⟩
  rw [List.getD_eq_getElem?_getD, List.getElem?_eq_getElem hk]
  show l[k] ≠ 0
  rw [e]
  exact of_decide_eq_true c
/-- weights modulo a number -/
def mdL (N : Int) (l : List Int) : List Int := l.map fun n => n % N
theorem mdL_len (N : Int) (l : List Int) : (mdL N l).length = l.length := List.length_map _
theorem mdL_get (N : Int) (l : List Int) (k : Nat) : (mdL N l).getD k 0 = l.getD k 0 % N := by
  unfold mdL
  rw [List.getD_eq_getElem?_getD, List.getD_eq_getElem?_getD, List.getElem?_map]
  cases l[k]? with
  | none => exact (Int.zero_emod N).symm
  | some n => rfl
local macro_rules | `(tactic| walk_at "go") => `(tactic| repeat (first | (with_reducible first | refine iteT ?_ | refine iteF ?_ | refine iteNtt ?_ | refine iteNff ?_ | refine iteET (by omega) ?_ | refine iteEF (by omega) ?_ | refine iteENT (by omega) ?_ | refine iteENF (by omega) ?_ | refine iteDT (by omega) ?_ | refine iteDF (by omega) ?_ | refine iteNT (by omega) ?_ | refine iteNF (by omega) ?_) | refine ⟨_, rfl, ?_⟩ | refine ⟨_, _, rfl, rfl, ?_⟩ | refine ⟨_, _, rfl, ?_⟩ | refine ⟨rfl, ?_⟩ | refine .inl ⟨_, rfl, ?_⟩ | refine .inr ⟨_, rfl, ?_⟩))
local macro_rules | `(tactic| walk_at "b") => `(tactic| try dsimp (config := { proj := false, iota := false, eta := false, zeta := false }) only)
section
variable {P : Program} {w : World} {K : PySem.W.Frag} {mg : Str → Option Value} {base : Heap} [pf : Sup.PF P fileS]
def sp_parting_rests (C : Addr) (K : PySem.W.Frag) (CE : Addr) : Sp := fun vs H Q E => ∃ o t x3 : V, vs = [o, t, x3] ∧ ((∃ (ws us : List Int) (d : Nat), GoodX C H o ws ∧ GoodX C H t us ∧ x3 = .int d ∧ 1 ≤ d ∧ d ≤ 32 ∧ (∀ H', Same H H' → Part ws us d none → Q .non H') ∧ ∀ p H' ts, H p = none → Same H H' → H' p = some (.lst (ts.map V.int)) → Part ws us d (some ts) → Q (.ref p) H') ∨ ∃ x, Two C K H o t x ∧ EE H E CE x)
theorem G_parting_rests (T : Top K mg) : FnOk P w K mg base (L2.CX P w) 4 T.f_parting_rests T.fd_parting_rests ["one", "other", "depth"] (sp_parting_rests T.C_Guesser K T.C_InvalidGuesser) := by
  refine T.F_parting_rests.ok (CX := L2.CX P w) sc_parting_rests (fun vs H Q E h => by obtain ⟨o, t, x3, rfl, _⟩ := h; rfl) (fun cdv A outer s H vs Q E hr h => ?_)
  obtain ⟨o, t, x3, rfl, h⟩ := h
  refine ⟨_, (pss_cons (ps_expr (pe_call (G_sum_of (P := P) T) (hr.mono (by decide)) (by rfl) T.g_sum_of T.F_sum_of.kp T.b_sum_of .nil (passes_call (takes_of rfl rfl rfl rfl) (fun _ _ _ _ h => h)) (pa_cons (pv 0) pa_nil)))
  (pss_cons (ps_expr (pe_call (G_sum_of (P := P) T) (hr.mono (by decide)) (by rfl) T.g_sum_of T.F_sum_of.kp T.b_sum_of .nil (passes_call (takes_of rfl rfl rfl rfl) (fun _ _ _ _ h => h)) (pa_cons (pv 1) pa_nil)))
  (pss_cons (ps_expr (pe_call (G_check_depth (P := P) T) (hr.mono (by decide)) (by rfl) T.g_check_depth T.F_check_depth.kp T.b_check_depth .nil pass0 (pa_cons (pv 2) (pa_cons (pe_glob (v := .int 32) rfl T.m_MOST_DEPTH_guessers ⟨_, rfl⟩) pa_nil))))
  (pss_cons (ps_asg (pe_ifExp (pt_cmpR op_le (pe_callB (k_len K rfl) (by rfl) T.n_len (by decide +kernel) (pa_cons (pe_fld (pv 0) rfl) pa_nil)) (pe_callB (k_len K rfl) (by rfl) T.n_len (by decide +kernel) (pa_cons (pe_fld (pv 1) rfl) pa_nil)) (nomark _)) (pe_tup (pa_cons (pv 0) (pa_cons (pv 1) pa_nil))) (pe_tup (pa_cons (pv 1) (pa_cons (pv 0) pa_nil)))) (k_pgT K rfl (by rfl) (pgs_cons (pg_name (i := 8) sc_parting_rests.nd rfl (by first | exact Or.inl rfl | exact Or.inr rfl)) (pgs_cons (pg_name (i := 9) sc_parting_rests.nd rfl (by first | exact Or.inl rfl | exact Or.inr rfl)) pgs_nil))))
  (pss_cons (ps_set (i := 3) sc_parting_rests.nd rfl (Or.inr rfl) (pe_lc (own := [("weight", 10)]) (g := gName 10) (tt := tYes) (by rfl) sc_parting_rests.nd (k_piL K rfl (pe_fld (pv 8) rfl)) (blkOk_by (own := [("weight", 10)]) (N := N_parting_rests) (sc := defScope s_parting_rests) (by decide +kernel)) (fun _ _ _ _ _ => (pg_name (i := 10) sc_parting_rests.nd rfl (by first | exact Or.inl rfl | exact Or.inr rfl))) (fun _ _ _ _ _ => pts_nil) (fun _ _ _ _ _ => (pe_op op_mod (pv 10) (pe_op op_shl pe_int (pv 2))))))
  (pss_cons (ps_set (i := 4) sc_parting_rests.nd rfl (Or.inr rfl) (pe_lc (own := [("weight", 10)]) (g := gName 10) (tt := tYes) (by rfl) sc_parting_rests.nd (k_piL K rfl (pe_fld (pv 9) rfl)) (blkOk_by (own := [("weight", 10)]) (N := N_parting_rests) (sc := defScope s_parting_rests) (by decide +kernel)) (fun _ _ _ _ _ => (pg_name (i := 10) sc_parting_rests.nd rfl (by first | exact Or.inl rfl | exact Or.inr rfl))) (fun _ _ _ _ _ => pts_nil) (fun _ _ _ _ _ => (pe_op op_mod (pv 10) (pe_op op_shl pe_int (pv 2))))))
  (pss_cons (ps_set (i := 5) sc_parting_rests.nd rfl (by first | exact Or.inl rfl | exact Or.inr rfl) (pe_callB (k_len K rfl) (by rfl) T.n_len (by decide +kernel) (pa_cons (pv 4) pa_nil)))
  (pss_cons (ps_if (PW.pt (pw_and (pt_cmpR op_lt (pe_callB (k_len K rfl) (by rfl) T.n_len (by decide +kernel) (pa_cons (pv 3) pa_nil)) (pv 5) (nomark _)) (pw_and1 (pt_cmpR (k_neD K rfl hr.units) (pe_lc (own := [("weight", 10)]) (g := gName 10) (by rfl) sc_parting_rests.nd (k_piL K rfl (pv 3)) (blkOk_by (own := [("weight", 10)]) (N := N_parting_rests) (sc := defScope s_parting_rests) (by decide +kernel)) (fun _ _ _ _ _ => (pg_name (i := 10) sc_parting_rests.nd rfl (by first | exact Or.inl rfl | exact Or.inr rfl))) (fun _ _ _ _ _ => (pts_one (pt_cmpR op_ne (pv 10) pe_int (nomark _)))) (fun _ _ _ _ _ => (pv 10))) (pe_lst pa_nil) (nomark _)))))
    (pss_one (ps_asg (pe_tup (pa_cons (pe_op op_rep (pe_lst (pa_cons pe_int pa_nil)) (pe_callB (k_len K rfl) (by rfl) T.n_len (by decide +kernel) (pa_cons (pv 3) pa_nil))) (pa_cons (pe_callB (k_len K rfl) (by rfl) T.n_len (by decide +kernel) (pa_cons (pv 3) pa_nil)) pa_nil))) (k_pgT K rfl (by rfl) (pgs_cons (pg_name (i := 4) sc_parting_rests.nd rfl (by first | exact Or.inl rfl | exact Or.inr rfl)) (pgs_cons (pg_name (i := 5) sc_parting_rests.nd rfl (by first | exact Or.inl rfl | exact Or.inr rfl)) pgs_nil)))))
    (pss_one (ps_if (pt_cmpR op_lt (pe_callB (k_len K rfl) (by rfl) T.n_len (by decide +kernel) (pa_cons (pv 3) pa_nil)) (pv 5) (nomark _))
    (pss_one (ps_set (i := 3) sc_parting_rests.nd rfl (by first | exact Or.inl rfl | exact Or.inr rfl) (pe_op op_rep (pe_lst (pa_cons pe_int pa_nil)) (pv 5))))
    pss_nil)))
  (pss_cons (ps_set (i := 6) sc_parting_rests.nd rfl (Or.inr rfl) (pe_lc (own := [("spot", 11)]) (g := gName 11) (by rfl) sc_parting_rests.nd (pi_range1 (by rfl) T.n_range (pa_cons (pv 5) pa_nil)) (blkOk_by (own := [("spot", 11)]) (N := N_parting_rests) (sc := defScope s_parting_rests) (by decide +kernel)) (fun _ _ _ _ _ => (pg_name (i := 11) sc_parting_rests.nd rfl (by first | exact Or.inl rfl | exact Or.inr rfl))) (fun _ _ _ _ _ => (pts_one (pt_cmpR op_ne (pe_ix (k_ixL K rfl) (pv 3) (pv 11) (fun _ _ => rfl)) (pe_ix (k_ixL K rfl) (pv 4) (pv 11) (fun _ _ => rfl)) (nomark _)))) (fun _ _ _ _ _ => (pv 11))))
  (pss_cons (ps_if (pt_cmpR (k_eqD K rfl hr.units) (pv 6) (pe_lst pa_nil) (nomark _))
    (pss_one (ps_ret pe_non))
    pss_nil)
  (pss_cons (ps_set (i := 7) sc_parting_rests.nd rfl (by first | exact Or.inl rfl | exact Or.inr rfl) (pe_ifExp (pt_cmpR op_gt (pv 2) pe_int (nomark _)) pe_int (pe_un un_neg pe_int)))
  (pss_one (ps_ret (pe_op op_cat (pe_lc (own := [("place", 12)]) (g := gName 12) (tt := tYes) (by rfl) sc_parting_rests.nd (pi_range1 (by rfl) T.n_range (pa_cons (pv 5) pa_nil)) (blkOk_by (own := [("place", 12)]) (N := N_parting_rests) (sc := defScope s_parting_rests) (by decide +kernel)) (fun _ _ _ _ _ => (pg_name (i := 12) sc_parting_rests.nd rfl (by first | exact Or.inl rfl | exact Or.inr rfl))) (fun _ _ _ _ _ => pts_nil) (fun _ _ _ _ _ => (pe_ifExp (pt_cmpR op_eq (pv 12) (pe_op op_sub (pe_op op_sub (pv 5) pe_int) (pe_ix (k_ixL K rfl) (pv 6) pe_int (fun _ _ => rfl))) (nomark _)) (pv 7) pe_int))) (pe_lst (pa_cons pe_int pa_nil)))))))))))))))), ?_⟩
  rcases h with ⟨ws, us, d, h1, h2, rfl, d1, d2, q0, q1⟩ | ⟨x, ⟨h, rfl⟩ | ⟨ws, h1, h2, rfl⟩, q⟩
  · obtain ⟨a1, rfl, g1⟩ := h1
    obtain ⟨a2, rfl, g2⟩ := h2
    have hp := pow_dbl d1
    have hpos := pow_pos' d
    refine ⟨_, rfl, _, rfl, .inl ⟨a1, ws, rfl, g1, fun p1 H1 np1 s1 hp1 => ?_⟩⟩
    refine ⟨_, rfl, _, rfl, .inl ⟨a2, us, rfl, g2.same s1, fun p2 H2 np2 s2 hp2 => ?_⟩⟩
    have s02 := s1.trans s2
    refine ⟨_, rfl, (d : Int), 32, rfl, by omega, by omega, ?_⟩
    obtain ⟨W1, _, dx1, b1, ha1, hb1⟩ := g1.same s02
    obtain ⟨W2, _, dx2, b2, ha2, hb2⟩ := g2.same s02
    refine ⟨_, rfl, a1, T.C_Guesser, dx1, _, _, rfl, ha1, T.cl_Guesser, T.na_Guesser_parts, rfl, b1, _, rfl, .inl (.inl (.inl hb1)), _, rfl, a2, T.C_Guesser, dx2, _, _, rfl, ha2, T.cl_Guesser, T.na_Guesser_parts, rfl, b2, _, rfl, .inl (.inl (.inl hb2)), _, _, rfl, rfl, _, rfl, ?_⟩
    rw [List.length_map, List.length_map]
    refine join_te (fun v H' => ∃ (tp sa la dxs dxl bs bl : Addr) (S L : List Int), v = .ref tp ∧ H' tp = some (.tup [.ref sa, .ref la]) ∧ Same H2 H' ∧ H' sa = some (.ins T.C_Guesser dxs [("parts", .ref bs), ("down", .int (0 : Nat))]) ∧ H' la = some (.ins T.C_Guesser dxl [("parts", .ref bl), ("down", .int (0 : Nat))]) ∧ H' bs = some (.lst (S.map V.int)) ∧ H' bl = some (.lst (L.map V.int)) ∧ S.length ≤ L.length ∧ L.length ≤ 8 ∧ ∀ r, Part S L d r → Part ws us d r) (fun c R' k => ?_) (fun c R' k => ?_) ?_
    · refine ⟨_, rfl, _, rfl, (by show 2 ≤ sizeLine; decide), fun tp ntp => k _ _ ?_⟩
      have sx : Same H2 (upd H2 tp (.tup [.ref a1, .ref a2])) := same_upd ntp
      exact ⟨tp, a1, a2, dx1, dx2, b1, b2, ws, us, rfl, upd_same, sx, sx _ _ ha1, sx _ _ ha2, sx _ _ hb1, sx _ _ hb2, by have := of_decide_eq_true c; omega, W2.1, fun r z => z⟩
    · refine ⟨_, rfl, _, rfl, (by show 2 ≤ sizeLine; decide), fun tp ntp => k _ _ ?_⟩
      have sx : Same H2 (upd H2 tp (.tup [.ref a2, .ref a1])) := same_upd ntp
      exact ⟨tp, a2, a1, dx2, dx1, b2, b1, us, ws, rfl, upd_same, sx, sx _ _ ha2, sx _ _ ha1, sx _ _ hb2, sx _ _ hb1, by have := of_decide_eq_false c; omega, W1.1, fun r z => z.symm⟩
    rintro v H3 ⟨tp, sa, la, dxs, dxl, bs, bl, S, L, rfl, htp, s3, hsa, hla, hbs, hbl, hSL, hL8, hpart⟩
    clear ha1 ha2 hb1 hb2
    refine ⟨tp, _, rfl, .inl (.inl htp), rfl, _, _, rfl, _, _, rfl, rfl, ?_⟩
    refine ⟨_, rfl, sa, T.C_Guesser, dxs, _, _, rfl, hsa, T.cl_Guesser, T.na_Guesser_parts, rfl, bs, rfl, ⟨_, .inl (.inl hbs)⟩, fun F nF => ?_⟩
    refine lc_mapL (K := K) (xs := S.map V.int) ((mdL (2 ^ d) S).map V.int) nF (.inl (.inl hbs)) (by rw [List.length_map, List.length_map, mdL_len]) (by rw [List.length_map]; exact small1000 (by omega)) (fun x => rfl) ?_ ?_
    · intro i x y H' hx hy s Qt qt
      obtain ⟨n, hn, rfl⟩ := int_at hx
      unfold mdL at hy
      rw [List.getElem?_map, List.getElem?_map, hn] at hy
      cases hy
      refine ⟨_, rfl, _, rfl, _, _, rfl, rfl, ⟨by omega, by omega, by decide⟩, _, _, rfl, rfl, ?_, ?_⟩
      · show (0 : Int) < 1 * 2 ^ ((d : Int)).toNat
        rw [Int.one_mul, Int.toNat_natCast]
        exact hpos
      walk_at "b"
      rw [Int.one_mul, Int.toNat_natCast]
      exact qt _ (Same.refl _)
    intro H4 s4 hF
    refine ⟨_, rfl, la, T.C_Guesser, dxl, _, _, rfl, (s4 _ _ hla), T.cl_Guesser, T.na_Guesser_parts, rfl, bl, rfl, ⟨_, .inl (.inl (s4 _ _ hbl))⟩, fun G nG => ?_⟩
    refine lc_mapL (K := K) (xs := L.map V.int) ((mdL (2 ^ d) L).map V.int) nG (.inl (.inl (s4 _ _ hbl))) (by rw [List.length_map, List.length_map, mdL_len]) (by rw [List.length_map]; exact small1000 (by omega)) (fun x => rfl) ?_ ?_
    · intro i x y H' hx hy s Qt qt
      obtain ⟨n, hn, rfl⟩ := int_at hx
      unfold mdL at hy
      rw [List.getElem?_map, List.getElem?_map, hn] at hy
      cases hy
      refine ⟨_, rfl, _, rfl, _, _, rfl, rfl, ⟨by omega, by omega, by decide⟩, _, _, rfl, rfl, ?_, ?_⟩
      · show (0 : Int) < 1 * 2 ^ ((d : Int)).toNat
        rw [Int.one_mul, Int.toNat_natCast]
        exact hpos
      walk_at "b"
      rw [Int.one_mul, Int.toNat_natCast]
      exact qt _ (Same.refl _)
    intro H5 s5 hG
    have hF5 := s5 _ _ hF
    have s05 := ((s02.trans s3).trans s4).trans s5
    refine ⟨_, rfl, G, _, rfl, .inl (.inl (.inl hG)), ?_⟩
    rw [List.length_map, mdL_len]
    by_cases cA : S.length < L.length
    · refine ⟨_, rfl, F, _, rfl, .inl (.inl (.inl hF5)), _, rfl, _, _, rfl, rfl, _, rfl, ?_⟩
      rw [List.length_map, mdL_len]
      refine iteDT (by omega) ?_
      refine ⟨_, rfl, F, rfl, ⟨_, .inl (.inl hF5)⟩, fun D nD => ?_⟩
      refine lc_selL (K := K) (xs := (mdL (2 ^ d) S).map V.int) ((mdL (2 ^ d) S).map fun x => if decide (x ≠ 0) = true then some (V.int x) else none) nD (.inl (.inl hF5)) (by rw [List.length_map, List.length_map]) (by rw [List.length_map, mdL_len]; exact small1000 (by omega)) (fun x => rfl) ?_ ?_
      · intro i x o H' hx ho s Qt qt
        obtain ⟨n, hn, rfl⟩ := int_at hx
        rw [List.getElem?_map, hn] at ho
        cases ho
        dsimp only at qt
        refine ⟨_, rfl, rfl, _, rfl, ?_⟩
        by_cases c0 : n = 0
        · rw [decide_eq_false (fun z => z c0)] at qt
          exact iteENF c0 (qt _ (Same.refl _))
        · rw [decide_eq_true c0] at qt
          exact iteENT c0 ⟨_, rfl, qt _ (Same.refl _)⟩
      intro H6 s6 hD
      rw [sel_if] at hD
      refine ⟨Nat.zero_le _, fun em nem => ?_⟩
      obtain ⟨H7, e7, s7, hem⟩ := fresh (.lst ([] : List V)) nem
      rw [e7]
      refine neD_lst (ms := []) (.inl (.inl (s7 _ _ hD))) (.inl (.inl hem)) ⟨_, rfl, ?_⟩
      have s57 := s6.trans s7
      by_cases cB : ((mdL (2 ^ d) S).filter fun x => decide (x ≠ 0)) = []
      · rw [decide_eq_true cB]
        refine iteF ?_
        refine ⟨_, rfl, F, _, rfl, .inl (.inl (.inl (s57 _ _ hF5))), _, rfl, _, _, rfl, rfl, _, rfl, ?_⟩
        rw [List.length_map, mdL_len]
        refine iteDT (by omega) ⟨(show 1 ≤ sizeLine by decide), fun z nz => ?_⟩
        obtain ⟨H8, e8, s8, hz⟩ := fresh (.lst [V.int 0]) nz
        rw [e8]
        refine ⟨_, rfl, z, _, _, rfl, rfl, hz, by omega, by omega, by show 1 * _ ≤ sizeLine; rw [sizeLine_eq]; omega, fun AF nAF => ?_⟩
        rw [Int.toNat_natCast, rep_zero]
        obtain ⟨H9, e9, s9, hAF⟩ := fresh (.lst ((List.replicate L.length (0 : Int)).map V.int)) nAF
        rw [e9]
        have s09 := ((s05.trans s57).trans s8).trans s9
        have hAG := s9 _ _ (s8 _ _ (s57 _ _ hG))
        have hLF : ∀ k, k < L.length → (List.replicate L.length (0 : Int)).getD k 0 = wU S L.length k % 2 ^ d := fun k hk => by
          rw [rep_get]
          unfold wU
          rw [if_pos hSL, ← mdL_get, all_zero cB]
        have hLL : ∀ k, k < L.length → (mdL (2 ^ d) L).getD k 0 = wU L L.length k % 2 ^ d := fun k hk => by
          unfold wU
          rw [if_pos (Nat.le_refl _), mdL_get]
        have hlF : (List.replicate L.length (0 : Int)).length = L.length := List.length_replicate
        have hlL : (mdL (2 ^ d) L).length = L.length := mdL_len _ _
        have hnone : (∀ k, k < L.length → (List.replicate L.length (0 : Int)).getD k 0 = (mdL (2 ^ d) L).getD k 0) → Part S L d none := fun h => by
          refine part_zero (fun i _ => ?_) (fun i hi => ?_)
          · rw [← hp]
            have := all_zero cB i
            rw [mdL_get] at this
            exact Int.dvd_of_emod_eq_zero this
          · rw [← hp]
            have := h i hi
            rw [rep_get, mdL_get] at this
            exact Int.dvd_of_emod_eq_zero this.symm
        have hm : L.length ≤ L.length := Nat.le_refl _
        generalize hmm : L.length = m at *
        generalize List.replicate m (0 : Int) = LF at *
        generalize mdL (2 ^ d) L = LL at *
        generalize G = AG at *
        refine ⟨_, rfl, _, rfl, by omega, by omega, fun SP nSP => ?_⟩
        rw [Int.toNat_natCast]
        refine lc_selR (lo := 0) (n := m) ((List.range m).map fun k => if decide (LF.getD k 0 ≠ LL.getD k 0) = true then some (V.int (k : Int)) else none) nSP (by rw [List.length_map, List.length_range]) (small1000 (by omega)) (fun x => rfl) ?_ ?_
        · intro i o H' hi ho s Qt qt
          rw [List.getElem?_map, List.getElem?_range hi] at ho
          cases ho
          dsimp only at qt
          refine ⟨_, rfl, _, rfl, AF, _, _, _, rfl, rfl, .inl (.inl (s _ _ hAF)), (by rw [Int.zero_add]; exact at_ints (by omega)), _, rfl, _, rfl, AG, _, _, _, rfl, rfl, .inl (.inl (s _ _ hAG)), (by rw [Int.zero_add]; exact at_ints (by omega)), rfl, _, rfl, ?_⟩
          by_cases c0 : LF.getD i 0 = LL.getD i 0
          · rw [decide_eq_false (fun z => z c0)] at qt
            exact iteENF c0 (qt _ (Same.refl _))
          · rw [decide_eq_true c0] at qt
            refine iteENT c0 ⟨_, rfl, ?_⟩
            rw [Int.zero_add]
            exact qt _ (Same.refl _)
        intro HA sA hSP
        rw [sel_if] at hSP
        have hSP : HA SP = some (.lst ((((List.range m).filter fun k => decide (LF.getD k 0 ≠ LL.getD k 0)).map fun k : Nat => (k : Int)).map V.int)) := by rw [List.map_map]; exact hSP
        refine ⟨_, rfl, Nat.zero_le _, fun em2 nem2 => ?_⟩
        obtain ⟨HB, eB, sB, hem2⟩ := fresh (.lst ([] : List V)) nem2
        rw [eB]
        refine eqD_lst (ms := []) (.inl (.inl (sB _ _ hSP))) (.inl (.inl hem2)) ⟨_, rfl, ?_⟩
        have s0B := (s09.trans sA).trans sB
        by_cases cN : ((List.range m).filter fun k => decide (LF.getD k 0 ≠ LL.getD k 0)) = []
        · rw [cN]
          refine iteT (q0 _ s0B (hpart _ (hnone fun k hk => ?_)))
          have := List.filter_eq_nil_iff.mp cN k (List.mem_range.mpr hk)
          exact Classical.byContradiction fun z => this (decide_eq_true z)
        rw [decide_eq_false (fun z => cN (List.map_eq_nil_iff.mp z))]
        refine iteF ?_
        have hSPB := sB _ _ hSP
        obtain ⟨j, rj, ej⟩ : ∃ j rj, ((List.range m).filter fun k => decide (LF.getD k 0 ≠ LL.getD k 0)) = j :: rj := by
          cases h : (List.range m).filter fun k => decide (LF.getD k 0 ≠ LL.getD k 0) with
          | nil => exact absurd h cN
          | cons j rj => exact ⟨j, rj, rfl⟩
        have hj : j ∈ (List.range m).filter fun k => decide (LF.getD k 0 ≠ LL.getD k 0) := by rw [ej]; exact List.mem_cons_self
        obtain ⟨hj1, hj2⟩ := List.mem_filter.mp hj
        have hj1 := List.mem_range.mp hj1
        have hj2 := of_decide_eq_true hj2
        rw [ej] at hSPB
        have hU : ¬ (2 * 2 ^ (d - 1) : Int) ∣ wU S m j - wU L m j := by
          rw [← hp, ← mod_eq, ← hLF j hj1, ← hLL j hj1]
          exact hj2
        have hj0 : atI (((j :: rj).map fun k : Nat => (k : Int)).map V.int) 0 = some (V.int (j : Int)) := at_ints (l := (j :: rj).map fun k : Nat => (k : Int)) (k := 0) (by simp)
        have hPS := hpart _ (part_some d1 (by omega) hj1 hU)
        refine ⟨_, rfl, _, _, rfl, rfl, _, rfl, ?_⟩
        refine join_te (fun v H' => v = .int (if 1 < d then 1 else -1) ∧ H' = HB) (fun c R' k => k _ _ ⟨by rw [if_pos (show 1 < d by have := of_decide_eq_true c; omega)], rfl⟩) (fun c R' k => ⟨_, rfl, k _ _ ⟨by rw [if_neg (show ¬ 1 < d by have := of_decide_eq_false c; omega)], rfl⟩⟩) ?_
        rintro v HB' ⟨rfl, rfl⟩
        generalize (if 1 < d then (1 : Int) else -1) = ee at *
        refine ⟨_, rfl, _, rfl, by omega, by omega, fun TD nTD => ?_⟩
        rw [Int.toNat_natCast]
        refine lc_mapR (lo := 0) (n := m) (((List.range m).map fun k => if k = m - 1 - j then ee else 0).map V.int) nTD (by rw [List.length_map, List.length_map, List.length_range]) (small1000 (by omega)) (fun x => rfl) ?_ ?_
        · intro i y H' hi hy s Qt qt
          rw [List.getElem?_map, List.getElem?_map, List.getElem?_range hi] at hy
          cases hy
          refine ⟨_, rfl, _, rfl, _, _, rfl, rfl, _, rfl, SP, _, _, _, rfl, rfl, .inl (.inl (s _ _ hSPB)), hj0, _, _, rfl, rfl, rfl, _, rfl, ?_⟩
          by_cases c1 : i = m - 1 - j
          · dsimp only at qt
            rw [if_pos c1] at qt
            exact iteET (by omega) ⟨_, rfl, qt _ (Same.refl _)⟩
          · dsimp only at qt
            rw [if_neg c1] at qt
            exact iteEF (by omega) (qt _ (Same.refl _))
        intro HC sC hTD
        refine ⟨(by show 1 ≤ sizeLine; decide), fun z2 nz2 => ?_⟩
        obtain ⟨HD, eD, sD, hz2⟩ := fresh (.lst [V.int 0]) nz2
        rw [eD]
        refine ⟨TD, z2, _, _, rfl, rfl, sD _ _ hTD, hz2, by rw [List.length_map, List.length_map, List.length_range, sizeLine_eq]; show _ + 1 ≤ _; omega, fun R nR => ?_⟩
        have s0D := (s0B.trans sC).trans sD
        refine q1 R _ (unitR m j ee) (s0D.free nR) (s0D.trans (same_upd nR)) ?_ hPS
        rw [upd_same]
        unfold unitR
        rw [List.map_append]
        rfl
      · rw [decide_eq_false cB]
        refine iteT ⟨(show 1 ≤ sizeLine by decide), fun z nz => ?_⟩
        obtain ⟨H8, e8, s8, hz⟩ := fresh (.lst [V.int 0]) nz
        rw [e8]
        refine ⟨_, rfl, F, _, rfl, .inl (.inl (.inl (s8 _ _ (s57 _ _ hF5)))), z, _, _, rfl, rfl, hz, by omega, by rw [List.length_map, mdL_len]; omega, by rw [List.length_map, mdL_len]; show 1 * _ ≤ sizeLine; rw [sizeLine_eq]; omega, fun AG nAG => ?_⟩
        rw [List.length_map, mdL_len, Int.toNat_natCast, rep_zero]
        obtain ⟨H8', e8', s8', hAG'⟩ := fresh (.lst ((List.replicate S.length (0 : Int)).map V.int)) nAG
        rw [e8']
        refine ⟨_, rfl, F, _, rfl, .inl (.inl (.inl (s8' _ _ (s8 _ _ (s57 _ _ hF5))))), (by show 2 ≤ sizeLine; decide), fun tq ntq => ⟨tq, _, rfl, .inl (.inl upd_same), rfl, _, _, rfl, _, _, rfl, rfl, ?_⟩⟩
        rw [List.length_map, mdL_len]
        obtain ⟨H9, e9, s9, _⟩ := fresh (.tup [V.ref AG, V.int (S.length : Int)]) ntq
        rw [e9]
        have s09 := (((s05.trans s57).trans s8).trans s8').trans s9
        have hAG := s9 _ _ hAG'
        have hAF := s9 _ _ (s8' _ _ (s8 _ _ (s57 _ _ hF5)))
        have hLF : ∀ k, k < S.length → (mdL (2 ^ d) S).getD k 0 = wU S S.length k % 2 ^ d := fun k hk => by
          unfold wU
          rw [if_pos (Nat.le_refl _), mdL_get]
        have hLL : ∀ k, k < S.length → (List.replicate S.length (0 : Int)).getD k 0 = wU L S.length k % 2 ^ d := fun k hk => by
          rw [rep_get]
          unfold wU
          rw [if_neg (by omega), Int.zero_emod]
        have hlF : (mdL (2 ^ d) S).length = S.length := mdL_len _ _
        have hlL : (List.replicate S.length (0 : Int)).length = S.length := List.length_replicate
        have hnone : (∀ k, k < S.length → (mdL (2 ^ d) S).getD k 0 = (List.replicate S.length (0 : Int)).getD k 0) → Part S L d none := fun h => by
          obtain ⟨k, hk, hne⟩ := some_other cB
          rw [mdL_len] at hk
          have := h k hk
          rw [rep_get] at this
          exact absurd this hne
        have hm : S.length ≤ L.length := hSL
        generalize hmm : S.length = m at *
        generalize List.replicate m (0 : Int) = LL at *
        generalize mdL (2 ^ d) S = LF at *
        generalize F = AF at *
        refine ⟨_, rfl, _, rfl, by omega, by omega, fun SP nSP => ?_⟩
        rw [Int.toNat_natCast]
        refine lc_selR (lo := 0) (n := m) ((List.range m).map fun k => if decide (LF.getD k 0 ≠ LL.getD k 0) = true then some (V.int (k : Int)) else none) nSP (by rw [List.length_map, List.length_range]) (small1000 (by omega)) (fun x => rfl) ?_ ?_
        · intro i o H' hi ho s Qt qt
          rw [List.getElem?_map, List.getElem?_range hi] at ho
          cases ho
          dsimp only at qt
          refine ⟨_, rfl, _, rfl, AF, _, _, _, rfl, rfl, .inl (.inl (s _ _ hAF)), (by rw [Int.zero_add]; exact at_ints (by omega)), _, rfl, _, rfl, AG, _, _, _, rfl, rfl, .inl (.inl (s _ _ hAG)), (by rw [Int.zero_add]; exact at_ints (by omega)), rfl, _, rfl, ?_⟩
          by_cases c0 : LF.getD i 0 = LL.getD i 0
          · rw [decide_eq_false (fun z => z c0)] at qt
            exact iteENF c0 (qt _ (Same.refl _))
          · rw [decide_eq_true c0] at qt
            refine iteENT c0 ⟨_, rfl, ?_⟩
            rw [Int.zero_add]
            exact qt _ (Same.refl _)
        intro HA sA hSP
        rw [sel_if] at hSP
        have hSP : HA SP = some (.lst ((((List.range m).filter fun k => decide (LF.getD k 0 ≠ LL.getD k 0)).map fun k : Nat => (k : Int)).map V.int)) := by rw [List.map_map]; exact hSP
        refine ⟨_, rfl, Nat.zero_le _, fun em2 nem2 => ?_⟩
        obtain ⟨HB, eB, sB, hem2⟩ := fresh (.lst ([] : List V)) nem2
        rw [eB]
        refine eqD_lst (ms := []) (.inl (.inl (sB _ _ hSP))) (.inl (.inl hem2)) ⟨_, rfl, ?_⟩
        have s0B := (s09.trans sA).trans sB
        by_cases cN : ((List.range m).filter fun k => decide (LF.getD k 0 ≠ LL.getD k 0)) = []
        · rw [cN]
          refine iteT (q0 _ s0B (hpart _ (hnone fun k hk => ?_)))
          have := List.filter_eq_nil_iff.mp cN k (List.mem_range.mpr hk)
          exact Classical.byContradiction fun z => this (decide_eq_true z)
        rw [decide_eq_false (fun z => cN (List.map_eq_nil_iff.mp z))]
        refine iteF ?_
        have hSPB := sB _ _ hSP
        obtain ⟨j, rj, ej⟩ : ∃ j rj, ((List.range m).filter fun k => decide (LF.getD k 0 ≠ LL.getD k 0)) = j :: rj := by
          cases h : (List.range m).filter fun k => decide (LF.getD k 0 ≠ LL.getD k 0) with
          | nil => exact absurd h cN
          | cons j rj => exact ⟨j, rj, rfl⟩
        have hj : j ∈ (List.range m).filter fun k => decide (LF.getD k 0 ≠ LL.getD k 0) := by rw [ej]; exact List.mem_cons_self
        obtain ⟨hj1, hj2⟩ := List.mem_filter.mp hj
        have hj1 := List.mem_range.mp hj1
        have hj2 := of_decide_eq_true hj2
        rw [ej] at hSPB
        have hU : ¬ (2 * 2 ^ (d - 1) : Int) ∣ wU S m j - wU L m j := by
          rw [← hp, ← mod_eq, ← hLF j hj1, ← hLL j hj1]
          exact hj2
        have hj0 : atI (((j :: rj).map fun k : Nat => (k : Int)).map V.int) 0 = some (V.int (j : Int)) := at_ints (l := (j :: rj).map fun k : Nat => (k : Int)) (k := 0) (by simp)
        have hPS := hpart _ (part_some d1 (by omega) hj1 hU)
        refine ⟨_, rfl, _, _, rfl, rfl, _, rfl, ?_⟩
        refine join_te (fun v H' => v = .int (if 1 < d then 1 else -1) ∧ H' = HB) (fun c R' k => k _ _ ⟨by rw [if_pos (show 1 < d by have := of_decide_eq_true c; omega)], rfl⟩) (fun c R' k => ⟨_, rfl, k _ _ ⟨by rw [if_neg (show ¬ 1 < d by have := of_decide_eq_false c; omega)], rfl⟩⟩) ?_
        rintro v HB' ⟨rfl, rfl⟩
        generalize (if 1 < d then (1 : Int) else -1) = ee at *
        refine ⟨_, rfl, _, rfl, by omega, by omega, fun TD nTD => ?_⟩
        rw [Int.toNat_natCast]
        refine lc_mapR (lo := 0) (n := m) (((List.range m).map fun k => if k = m - 1 - j then ee else 0).map V.int) nTD (by rw [List.length_map, List.length_map, List.length_range]) (small1000 (by omega)) (fun x => rfl) ?_ ?_
        · intro i y H' hi hy s Qt qt
          rw [List.getElem?_map, List.getElem?_map, List.getElem?_range hi] at hy
          cases hy
          refine ⟨_, rfl, _, rfl, _, _, rfl, rfl, _, rfl, SP, _, _, _, rfl, rfl, .inl (.inl (s _ _ hSPB)), hj0, _, _, rfl, rfl, rfl, _, rfl, ?_⟩
          by_cases c1 : i = m - 1 - j
          · dsimp only at qt
            rw [if_pos c1] at qt
            exact iteET (by omega) ⟨_, rfl, qt _ (Same.refl _)⟩
          · dsimp only at qt
            rw [if_neg c1] at qt
            exact iteEF (by omega) (qt _ (Same.refl _))
        intro HC sC hTD
        refine ⟨(by show 1 ≤ sizeLine; decide), fun z2 nz2 => ?_⟩
        obtain ⟨HD, eD, sD, hz2⟩ := fresh (.lst [V.int 0]) nz2
        rw [eD]
        refine ⟨TD, z2, _, _, rfl, rfl, sD _ _ hTD, hz2, by rw [List.length_map, List.length_map, List.length_range, sizeLine_eq]; show _ + 1 ≤ _; omega, fun R nR => ?_⟩
        have s0D := (s0B.trans sC).trans sD
        refine q1 R _ (unitR m j ee) (s0D.free nR) (s0D.trans (same_upd nR)) ?_ hPS
        rw [upd_same]
        unfold unitR
        rw [List.map_append]
        rfl
    · refine ⟨_, rfl, F, _, rfl, .inl (.inl (.inl hF5)), _, rfl, _, _, rfl, rfl, _, rfl, ?_⟩
      rw [List.length_map, mdL_len]
      refine iteDF (by omega) ?_
      refine ⟨_, rfl, F, _, rfl, .inl (.inl (.inl hF5)), _, rfl, _, _, rfl, rfl, _, rfl, ?_⟩
      rw [List.length_map, mdL_len]
      refine iteDF (by omega) ?_
      have hEL : S.length = L.length := by omega
      have s09 := s05
      have hAG := hG
      have hAF := hF5
      have hLF : ∀ k, k < L.length → (mdL (2 ^ d) S).getD k 0 = wU S L.length k % 2 ^ d := fun k hk => by
        unfold wU
        rw [if_pos hSL, mdL_get]
      have hLL : ∀ k, k < L.length → (mdL (2 ^ d) L).getD k 0 = wU L L.length k % 2 ^ d := fun k hk => by
        unfold wU
        rw [if_pos (Nat.le_refl _), mdL_get]
      have hlF : (mdL (2 ^ d) S).length = L.length := by rw [mdL_len]; exact hEL
      have hlL : (mdL (2 ^ d) L).length = L.length := mdL_len _ _
      have hnone : (∀ k, k < L.length → (mdL (2 ^ d) S).getD k 0 = (mdL (2 ^ d) L).getD k 0) → Part S L d none := fun h => part_alike hEL fun i hi => by
        rw [← hp, ← mod_eq, ← mdL_get, ← mdL_get]
        exact h i hi
      have hm : L.length ≤ L.length := Nat.le_refl _
      generalize hmm : L.length = m at *
      generalize mdL (2 ^ d) S = LF at *
      generalize mdL (2 ^ d) L = LL at *
      generalize F = AF at *
      generalize G = AG at *
      generalize H5 = H9 at *
      refine ⟨_, rfl, _, rfl, by omega, by omega, fun SP nSP => ?_⟩
      rw [Int.toNat_natCast]
      refine lc_selR (lo := 0) (n := m) ((List.range m).map fun k => if decide (LF.getD k 0 ≠ LL.getD k 0) = true then some (V.int (k : Int)) else none) nSP (by rw [List.length_map, List.length_range]) (small1000 (by omega)) (fun x => rfl) ?_ ?_
      · intro i o H' hi ho s Qt qt
        rw [List.getElem?_map, List.getElem?_range hi] at ho
        cases ho
        dsimp only at qt
        refine ⟨_, rfl, _, rfl, AF, _, _, _, rfl, rfl, .inl (.inl (s _ _ hAF)), (by rw [Int.zero_add]; exact at_ints (by omega)), _, rfl, _, rfl, AG, _, _, _, rfl, rfl, .inl (.inl (s _ _ hAG)), (by rw [Int.zero_add]; exact at_ints (by omega)), rfl, _, rfl, ?_⟩
        by_cases c0 : LF.getD i 0 = LL.getD i 0
        · rw [decide_eq_false (fun z => z c0)] at qt
          exact iteENF c0 (qt _ (Same.refl _))
        · rw [decide_eq_true c0] at qt
          refine iteENT c0 ⟨_, rfl, ?_⟩
          rw [Int.zero_add]
          exact qt _ (Same.refl _)
      intro HA sA hSP
      rw [sel_if] at hSP
      have hSP : HA SP = some (.lst ((((List.range m).filter fun k => decide (LF.getD k 0 ≠ LL.getD k 0)).map fun k : Nat => (k : Int)).map V.int)) := by rw [List.map_map]; exact hSP
      refine ⟨_, rfl, Nat.zero_le _, fun em2 nem2 => ?_⟩
      obtain ⟨HB, eB, sB, hem2⟩ := fresh (.lst ([] : List V)) nem2
      rw [eB]
      refine eqD_lst (ms := []) (.inl (.inl (sB _ _ hSP))) (.inl (.inl hem2)) ⟨_, rfl, ?_⟩
      have s0B := (s09.trans sA).trans sB
      by_cases cN : ((List.range m).filter fun k => decide (LF.getD k 0 ≠ LL.getD k 0)) = []
      · rw [cN]
        refine iteT (q0 _ s0B (hpart _ (hnone fun k hk => ?_)))
        have := List.filter_eq_nil_iff.mp cN k (List.mem_range.mpr hk)
        exact Classical.byContradiction fun z => this (decide_eq_true z)
      rw [decide_eq_false (fun z => cN (List.map_eq_nil_iff.mp z))]
      refine iteF ?_
      have hSPB := sB _ _ hSP
      obtain ⟨j, rj, ej⟩ : ∃ j rj, ((List.range m).filter fun k => decide (LF.getD k 0 ≠ LL.getD k 0)) = j :: rj := by
        cases h : (List.range m).filter fun k => decide (LF.getD k 0 ≠ LL.getD k 0) with
        | nil => exact absurd h cN
        | cons j rj => exact ⟨j, rj, rfl⟩
      have hj : j ∈ (List.range m).filter fun k => decide (LF.getD k 0 ≠ LL.getD k 0) := by rw [ej]; exact List.mem_cons_self
      obtain ⟨hj1, hj2⟩ := List.mem_filter.mp hj
      have hj1 := List.mem_range.mp hj1
      have hj2 := of_decide_eq_true hj2
      rw [ej] at hSPB
      have hU : ¬ (2 * 2 ^ (d - 1) : Int) ∣ wU S m j - wU L m j := by
        rw [← hp, ← mod_eq, ← hLF j hj1, ← hLL j hj1]
        exact hj2
      have hj0 : atI (((j :: rj).map fun k : Nat => (k : Int)).map V.int) 0 = some (V.int (j : Int)) := at_ints (l := (j :: rj).map fun k : Nat => (k : Int)) (k := 0) (by simp)
      have hPS := hpart _ (part_some d1 (by omega) hj1 hU)
      refine ⟨_, rfl, _, _, rfl, rfl, _, rfl, ?_⟩
      refine join_te (fun v H' => v = .int (if 1 < d then 1 else -1) ∧ H' = HB) (fun c R' k => k _ _ ⟨by rw [if_pos (show 1 < d by have := of_decide_eq_true c; omega)], rfl⟩) (fun c R' k => ⟨_, rfl, k _ _ ⟨by rw [if_neg (show ¬ 1 < d by have := of_decide_eq_false c; omega)], rfl⟩⟩) ?_
      rintro v HB' ⟨rfl, rfl⟩
      generalize (if 1 < d then (1 : Int) else -1) = ee at *
      refine ⟨_, rfl, _, rfl, by omega, by omega, fun TD nTD => ?_⟩
      rw [Int.toNat_natCast]
      refine lc_mapR (lo := 0) (n := m) (((List.range m).map fun k => if k = m - 1 - j then ee else 0).map V.int) nTD (by rw [List.length_map, List.length_map, List.length_range]) (small1000 (by omega)) (fun x => rfl) ?_ ?_
      · intro i y H' hi hy s Qt qt
        rw [List.getElem?_map, List.getElem?_map, List.getElem?_range hi] at hy
        cases hy
        refine ⟨_, rfl, _, rfl, _, _, rfl, rfl, _, rfl, SP, _, _, _, rfl, rfl, .inl (.inl (s _ _ hSPB)), hj0, _, _, rfl, rfl, rfl, _, rfl, ?_⟩
        by_cases c1 : i = m - 1 - j
        · dsimp only at qt
          rw [if_pos c1] at qt
          exact iteET (by omega) ⟨_, rfl, qt _ (Same.refl _)⟩
        · dsimp only at qt
          rw [if_neg c1] at qt
          exact iteEF (by omega) (qt _ (Same.refl _))
      intro HC sC hTD
      refine ⟨(by show 1 ≤ sizeLine; decide), fun z2 nz2 => ?_⟩
      obtain ⟨HD, eD, sD, hz2⟩ := fresh (.lst [V.int 0]) nz2
      rw [eD]
      refine ⟨TD, z2, _, _, rfl, rfl, sD _ _ hTD, hz2, by rw [List.length_map, List.length_map, List.length_range, sizeLine_eq]; show _ + 1 ≤ _; omega, fun R nR => ?_⟩
      have s0D := (s0B.trans sC).trans sD
      refine q1 R _ (unitR m j ee) (s0D.free nR) (s0D.trans (same_upd nR)) ?_ hPS
      rw [upd_same]
      unfold unitR
      rw [List.map_append]
      rfl
  · exact ⟨_, rfl, _, rfl, bad_alt h q⟩
  · obtain ⟨a1, rfl, h1⟩ := h1
    refine ⟨_, rfl, _, rfl, .inl ⟨a1, ws, rfl, h1, fun p1 H1 np1 s1 hp1 => ?_⟩⟩
    exact ⟨_, rfl, _, rfl, bad_alt (h2.same s1) (q.same s1)⟩
def sp_same_rests (C : Addr) (K : PySem.W.Frag) (CE : Addr) : Sp := fun vs H Q E => ∃ o t x3 : V, vs = [o, t, x3] ∧ ((∃ (ws us : List Int) (d : Nat), GoodX C H o ws ∧ GoodX C H t us ∧ x3 = .int d ∧ 1 ≤ d ∧ d ≤ 32 ∧ ∀ H' r, Same H H' → Part ws us d r → Q (.bl r.isNone) H') ∨ ∃ x, Two C K H o t x ∧ EE H E CE x)
theorem G_same_rests (T : Top K mg) : FnOk P w K mg base (L2.CX P w) 5 T.f_same_rests T.fd_same_rests ["one", "other", "depth"] (sp_same_rests T.C_Guesser K T.C_InvalidGuesser) := by
  refine T.F_same_rests.ok (CX := L2.CX P w) sc_same_rests (fun vs H Q E h => by obtain ⟨o, t, x3, rfl, _⟩ := h; rfl) (fun cdv A outer s H vs Q E hr h => ?_)
  obtain ⟨o, t, x3, rfl, h⟩ := h
  refine ⟨_, (pss_one (ps_ret (pe_cmpR op_isN (pe_call (G_parting_rests (P := P) T) (hr.mono (by decide)) (by rfl) T.g_parting_rests T.F_parting_rests.kp T.b_parting_rests .nil (passes_call (takes_of rfl rfl rfl rfl) (fun _ _ _ _ h => h)) (pa_cons (pv 0) (pa_cons (pv 1) (pa_cons (pv 2) pa_nil)))) pe_non (nomark _)))), ?_⟩
  rcases h with ⟨ws, us, d, h1, h2, rfl, d1, d2, q⟩ | ⟨x, h, q⟩
  · refine ⟨_, rfl, _, rfl, _, rfl, _, _, _, rfl, .inl ⟨ws, us, d, h1, h2, rfl, d1, d2, fun H' s hp => ?_, fun p H' ts np s hp hP => ?_⟩⟩
    · exact ⟨rfl, q H' none s hp⟩
    · exact ⟨rfl, q H' (some ts) s hP⟩
  · exact ⟨_, rfl, _, rfl, _, rfl, _, _, _, rfl, .inr ⟨x, h, q⟩⟩
end
end My


namespace My
open PySem PySem.Spec PyProof.Rows L2 Pre
/-! ### the law's own guesses, rests, products -/
theorem wrap_law {d : Nat} (h : 1 ≤ d) (n : Int) : wrapI n d = if n % 2 ^ d ≥ 2 ^ (d - 1) then n % 2 ^ d - 2 ^ d else n % 2 ^ d := by
  have hp := pw d
  rw [pow_dbl h]
  have e := Int.emod_add_mul_ediv n (2 * 2 ^ (d - 1))
  have h0 := Int.emod_nonneg n (show (2 * 2 ^ (d - 1) : Int) ≠ 0 by omega)
  have h1 := Int.emod_lt_of_pos n (show (0 : Int) < 2 * 2 ^ (d - 1) by omega)
  generalize n % (2 * 2 ^ (d - 1)) = r at e h0 h1
  rw [← e, Int.mul_comm (2 * 2 ^ (d - 1)), wrap_add]
  by_cases hr : r ≥ 2 ^ (d - 1)
  · rw [if_pos hr]
    have := wrap_add (r - 2 * 2 ^ (d - 1)) 1 d
    rw [show r - 2 * 2 ^ (d - 1) + 1 * (2 * 2 ^ (d - 1)) = r by omega] at this
    rw [this]
    exact wrap_id (by omega) (by omega)
  · rw [if_neg hr]
    exact wrap_id (by omega) (by omega)
local macro_rules | `(tactic| walk_at "go") => `(tactic| repeat (first | (with_reducible first | refine iteT ?_ | refine iteF ?_ | refine iteNtt ?_ | refine iteNff ?_ | refine iteET (by omega) ?_ | refine iteEF (by omega) ?_ | refine iteENT (by omega) ?_ | refine iteENF (by omega) ?_ | refine iteDT (by omega) ?_ | refine iteDF (by omega) ?_ | refine iteNT (by omega) ?_ | refine iteNF (by omega) ?_) | refine ⟨_, rfl, ?_⟩ | refine ⟨_, _, rfl, rfl, ?_⟩ | refine ⟨_, _, rfl, ?_⟩ | refine ⟨rfl, ?_⟩ | refine .inl ⟨_, rfl, ?_⟩ | refine .inr ⟨_, rfl, ?_⟩))
local macro_rules | `(tactic| walk_at "b") => `(tactic| try dsimp (config := { proj := false, iota := false, eta := false, zeta := false }) only)
section
variable {P : Program} {w : World} {K : PySem.W.Frag} {mg : Str → Option Value} {base : Heap} [pf : Sup.PF P fileS]
def sp_law_wrapped : Sp := fun vs H Q _ => ∃ (n : Int) (d : Nat), vs = [.int n, .int d] ∧ 1 ≤ d ∧ d ≤ 64 ∧ Q (.int (wrapI n d)) H
theorem G_law_wrapped (T : Top K mg) : FnOk P w K mg base CX0 1 T.f_law_wrapped T.fd_law_wrapped ["_law_number", "_law_depth"] sp_law_wrapped := by
  refine T.F_law_wrapped.ok sc_law_wrapped (fun vs H Q E h => by obtain ⟨n, d, rfl, _⟩ := h; rfl) (fun cdv A outer s H vs Q E hr h => ?_)
  obtain ⟨n, d, rfl, h0, h1, q⟩ := h
  refine ⟨_, PSs.nox (pss_cons (ps_set (i := 0) sc_law_wrapped.nd rfl (by first | exact Or.inl rfl | exact Or.inr rfl) (pe_op op_mod (pv 0) (pe_op op_shl pe_int (pv 1))))
  (pss_one (ps_ret (pe_ifExp (pt_cmpR op_ge (pv 0) (pe_op op_shl pe_int (pe_op op_sub (pv 1) pe_int)) (nomark _)) (pe_op op_sub (pv 0) (pe_op op_shl pe_int (pv 1))) (pv 0))))), ?_⟩
  have hp := pow_pos' d
  rw [wrap_law h0 n] at q
  refine ⟨_, rfl, _, rfl, _, _, rfl, rfl, ⟨by omega, by omega, by decide⟩, _, _, rfl, rfl, ?_, ?_⟩
  · show (0 : Int) < 1 * 2 ^ ((d : Int)).toNat
    rw [Int.one_mul, Int.toNat_natCast]
    exact hp
  dsimp only
  refine ⟨_, rfl, _, rfl, _, _, rfl, rfl, _, _, rfl, rfl, ⟨by omega, by omega, by decide⟩, _, _, rfl, rfl, _, rfl, ?_⟩
  rw [Int.one_mul, Int.one_mul, Int.toNat_natCast, pred_toNat h0]
  by_cases hc : n % 2 ^ d ≥ 2 ^ (d - 1)
  · rw [decide_eq_true hc]
    rw [if_pos hc] at q
    refine iteT ⟨_, rfl, _, rfl, _, _, rfl, rfl, ⟨by omega, by omega, by decide⟩, _, _, rfl, rfl, ?_⟩
    dsimp only
    rw [Int.one_mul, Int.toNat_natCast]
    exact q
  · rw [decide_eq_false hc]
    rw [if_neg hc] at q
    exact iteF ⟨_, rfl, q⟩
def sp_law_guess (K : PySem.W.Frag) : Sp := fun vs H Q _ => ∃ (a b : Addr) (ws : List Int) (bs : List Int), vs = [.ref a, .int 0, .ref b] ∧ SqL K H a (ws.map V.int) ∧ SqL K H b (bs.map V.int) ∧ Tame ws ∧ ws.length ≤ bs.length ∧ bs.length ≤ 1000 ∧ Q (.int (guessF ws 0 bs)) H
theorem G_law_guess (T : Top K mg) : FnOk P w K mg base CX0 1 T.f_law_guess T.fd_law_guess ["_law_weights", "_law_shift", "_law_before"] (sp_law_guess K) := by
  refine T.F_law_guess.ok sc_law_guess (fun vs H Q E h => by obtain ⟨a, b, ws, bs, rfl, _⟩ := h; rfl) (fun cdv A outer s H vs Q E hr h => ?_)
  obtain ⟨a, b, ws, bs, rfl, hA, hB, hW, hl, hb, q⟩ := h
  refine ⟨_, PSs.nox (pss_cons (ps_set (i := 3) sc_law_guess.nd rfl (by first | exact Or.inl rfl | exact Or.inr rfl) pe_int)
  (pss_cons (ps_for PassesOwn.never rfl (pi_range1 (by rfl) T.n_range (pa_cons (pe_callB (k_len K rfl) (by rfl) T.n_len (by decide +kernel) (pa_cons (pv 0) pa_nil)) pa_nil)) (pg_name (i := 4) sc_law_guess.nd rfl (by first | exact Or.inl rfl | exact Or.inr rfl))
    (pss_one (ps_set (i := 3) sc_law_guess.nd rfl (by first | exact Or.inl rfl | exact Or.inr rfl) (pe_op op_add (pv 3) (pe_op op_mulA (pe_ix (k_ixL K rfl) (pv 0) (pv 4) (fun _ _ => rfl)) (pe_ix (k_ixL K rfl) (pv 2) (pe_op op_sub (pe_op op_sub (pe_callB (k_len K rfl) (by rfl) T.n_len (by decide +kernel) (pa_cons (pv 2) pa_nil)) pe_int) (pv 4)) (fun _ _ => rfl)))))))
  (pss_one (ps_ret (pe_op op_fdivW (pv 3) (pe_op op_shl pe_int (pv 1))))))), ?_⟩
  refine ⟨_, rfl, a, _, rfl, .inl hA, _, rfl, by omega, by rw [List.length_map]; omega, ?_⟩
  rw [List.length_map, Int.toNat_natCast]
  refine for_range (lo := 0) (n := ws.length) (fun i σ H1 => ∃ v4, σ = [some (.ref a), some (.int 0), some (.ref b), some (.int (dot (ws.take i) bs.reverse)), v4] ∧ H1 = H) ⟨none, rfl, rfl⟩ ?_ ?_
  · rintro i σ H1 hi ⟨v4, rfl, rfl⟩
    have hwb := hW.at i
    refine ⟨_, rfl, _, rfl, _, rfl, a, _, _, .int (ws.getD i 0), rfl, rfl, hA, ?_, _, rfl, _, rfl, b, _, rfl, .inl hB, _, _, rfl, rfl, _, rfl, _, _, rfl, rfl, b, _, _, .int (bs.reverse.getD i 0), rfl, rfl, hB, ?_, _, _, rfl, rfl, .inl (.inl ⟨by omega, by omega⟩), _, _, rfl, rfl, ?_⟩
    · rw [Int.zero_add]
      exact at_ints hi
    · refine at_of (j := bs.length - 1 - i) (by rw [List.length_map]; omega) (cut_get (by omega) rfl)
    refine ⟨some (.int (0 + (i : Int))), ?_, rfl⟩
    rw [dot_take i ws bs.reverse hi (by rw [List.length_reverse]; omega)]
    rfl
  · rintro σ H1 ⟨v4, rfl, rfl⟩
    rw [List.take_length]
    refine ⟨_, rfl, _, rfl, _, _, rfl, rfl, ⟨by decide, by decide, by decide⟩, _, _, rfl, rfl, ?_, ?_⟩
    · show CDivW _ (1 * 2 ^ ((0 : Int)).toNat)
      exact wide_div (b := 60) (by decide) (by decide) (by decide) (by decide)
    exact q
def sp_law_rests_behind (K : PySem.W.Frag) : Sp := fun vs H Q _ => ∃ (a b : Addr) (ws row : List Int), vs = [.ref a, .ref b] ∧ SqL K H a (ws.map V.int) ∧ SqL K H b (row.map V.int) ∧ Tame ws ∧ ws.length ≤ 100 ∧ row.length ≤ 1000 ∧ ∀ p H', H p = none → Same H H' → H' p = some (.lst ((rbL ws row).map V.int)) → Q (.ref p) H'
theorem G_law_rests_behind (T : Top K mg) : FnOk P w K mg base CX0 2 T.f_law_rests_behind T.fd_law_rests_behind ["_law_weights", "_law_row"] (sp_law_rests_behind K) := by
  refine T.F_law_rests_behind.ok sc_law_rests_behind (fun vs H Q E h => by obtain ⟨a, b, ws, row, rfl, _⟩ := h; rfl) (fun cdv A outer s H vs Q E hr h => ?_)
  obtain ⟨a, b, ws, row, rfl, hA, hB, hW, hw, hl, q⟩ := h
  refine ⟨_, PSs.nox (pss_cons (ps_set (i := 2) sc_law_rests_behind.nd rfl (by first | exact Or.inl rfl | exact Or.inr rfl) (pe_lst pa_nil))
  (pss_cons (ps_for PassesOwn.never rfl (pi_range2 (by rfl) T.n_range (pa_cons (pe_callB (k_len K rfl) (by rfl) T.n_len (by decide +kernel) (pa_cons (pv 0) pa_nil)) (pa_cons (pe_callB (k_len K rfl) (by rfl) T.n_len (by decide +kernel) (pa_cons (pv 1) pa_nil)) pa_nil))) (pg_name (i := 3) sc_law_rests_behind.nd rfl (by first | exact Or.inl rfl | exact Or.inr rfl))
    (pss_one (ps_expr (pe_bm PySem.F.plainAttrs_list PySem.F.slot_list_append PySem.F.type_list_append mt_append (pv 2) (pa_cons (pe_op op_sub (pe_ix (k_ixL K rfl) (pv 1) (pv 3) (fun _ _ => rfl)) (pe_call (G_law_guess (P := P) T) (hr.mono (by decide)) (by rfl) T.g_law_guess T.F_law_guess.kp T.b_law_guess .nil pass0 (pa_cons (pv 0) (pa_cons pe_int (pa_cons (pe_slice (k_slL K rfl) (pv 1) po_none (po_some (pv 3))) pa_nil))))) pa_nil)))))
  (pss_one (ps_ret (pv 2))))), ?_⟩
  refine ⟨Nat.zero_le _, fun f nf => ?_⟩
  obtain ⟨H1, e1, s1, h1⟩ := fresh (.lst ([] : List V)) nf
  rw [e1]
  refine ⟨_, rfl, a, _, rfl, .inl (s1.seq hA), _, rfl, b, _, rfl, .inl (s1.seq hB), _, _, rfl, ⟨by omega, by rw [List.length_map]; omega, by omega, by rw [List.length_map]; omega⟩, ?_⟩
  rw [List.length_map, List.length_map]
  have en : (((row.length : Nat) : Int) - (ws.length : Int)).toNat = row.length - ws.length := by omega
  rw [en]
  refine for_range (lo := (ws.length : Int)) (n := row.length - ws.length) (fun i σ H2 => ∃ v3, σ = [some (.ref a), some (.ref b), some (.ref f), v3] ∧ Same H H2 ∧ H2 f = some (.lst (((rbL ws row).take i).map V.int))) ⟨none, rfl, s1, h1⟩ ?_ ?_
  · rintro i σ H2 hi ⟨v3, rfl, s2, h2⟩
    have hB2 := s2.seq hB
    have hA2 := s2.seq hA
    have hpl : ws.length + i < row.length := by omega
    refine ⟨_, rfl, .inl ⟨rfl, _, .inl (.inl h2)⟩, _, rfl, _, rfl, b, _, _, _, rfl, rfl, hB2, (by rw [← Int.natCast_add]; exact at_ints hpl), ?_⟩
    refine ⟨_, rfl, _, rfl, _, rfl, _, rfl, b, _, rfl, hB2, fun c nc => ?_⟩
    rw [← Int.natCast_add, cut_take, ← List.map_take]
    obtain ⟨H3, e3, s3, h3⟩ := fresh (.lst ((row.take (ws.length + i)).map V.int)) nc
    rw [e3]
    refine ⟨a, c, ws, row.take (ws.length + i), rfl, s3.seq hA2, .inl (.inl h3), hW, by rw [List.length_take]; omega, by rw [List.length_take]; omega, ?_⟩
    refine ⟨_, _, rfl, rfl, f, _, _, rfl, rfl, s3 _ _ h2, by rw [List.length_map, List.length_take]; exact small1000 (by omega), ?_⟩
    refine ⟨_, rfl, same_over nf (s2.trans s3), ?_⟩
    rw [upd_same]
    show some (HO.lst (((rbL ws row).take i).map V.int ++ [V.int (row.getD (ws.length + i) 0 - guessF ws 0 (row.take (ws.length + i)))])) = _
    rw [rest_sum (by omega) hpl]
    have e : (rbL ws row).take (i + 1) = (rbL ws row).take i ++ [restD ws row (ws.length + i)] := by
      rw [List.take_add_one]
      congr 1
      unfold rbL
      rw [List.getElem?_map, List.getElem?_range hi]
      rfl
    rw [e, List.map_append]
    rfl
  · rintro σ H2 ⟨v3, rfl, s2, h2⟩
    refine ⟨_, rfl, q f _ nf s2 ?_⟩
    rw [h2, List.take_of_length_le (by rw [rbL_len]; exact Nat.le_refl _)]
def sp_law_rests_of (K : PySem.W.Frag) : Sp := fun vs H Q _ => ∃ (a b : Addr) (ws : List Int) (d : Nat) (row : List Int), vs = [.ref a, .int 0, .int d, .ref b] ∧ SqL K H a (ws.map V.int) ∧ SqL K H b (row.map V.int) ∧ Tame ws ∧ ws.length ≤ 100 ∧ row.length ≤ 1000 ∧ 1 ≤ d ∧ d ≤ 64 ∧
  ∀ p H', H p = none → Same H H' → H' p = some (.lst ((restsF ws 0 d row).map V.int)) → Q (.ref p) H'
theorem G_law_rests_of (T : Top K mg) : FnOk P w K mg base CX0 2 T.f_law_rests_of T.fd_law_rests_of ["_law_weights", "_law_shift", "_law_depth", "_law_row"] (sp_law_rests_of K) := by
  refine T.F_law_rests_of.ok sc_law_rests_of (fun vs H Q E h => by obtain ⟨a, b, ws, d, row, rfl, _⟩ := h; rfl) (fun cdv A outer s H vs Q E hr h => ?_)
  obtain ⟨a, b, ws, d, row, rfl, hA, hB, hW, hw, hl, d1, d2, q⟩ := h
  refine ⟨_, PSs.nox (pss_cons (ps_set (i := 4) sc_law_rests_of.nd rfl (by first | exact Or.inl rfl | exact Or.inr rfl) (pe_lst pa_nil))
  (pss_cons (ps_for PassesOwn.never rfl (pi_range1 (by rfl) T.n_range (pa_cons (pe_callB (k_len K rfl) (by rfl) T.n_len (by decide +kernel) (pa_cons (pv 3) pa_nil)) pa_nil)) (pg_name (i := 5) sc_law_rests_of.nd rfl (by first | exact Or.inl rfl | exact Or.inr rfl))
    (pss_cons (ps_set (i := 6) sc_law_rests_of.nd rfl (by first | exact Or.inl rfl | exact Or.inr rfl) (pe_ifExp (pt_cmpR op_lt (pv 5) (pe_callB (k_len K rfl) (by rfl) T.n_len (by decide +kernel) (pa_cons (pv 0) pa_nil)) (nomark _)) pe_int (pe_call (G_law_guess (P := P) T) (hr.mono (by decide)) (by rfl) T.g_law_guess T.F_law_guess.kp T.b_law_guess .nil pass0 (pa_cons (pv 0) (pa_cons (pv 1) (pa_cons (pe_slice (k_slL K rfl) (pv 3) po_none (po_some (pv 5))) pa_nil))))))
  (pss_one (ps_expr (pe_bm PySem.F.plainAttrs_list PySem.F.slot_list_append PySem.F.type_list_append mt_append (pv 4) (pa_cons (pe_call (G_law_wrapped (P := P) T) (hr.mono (by decide)) (by rfl) T.g_law_wrapped T.F_law_wrapped.kp T.b_law_wrapped .nil pass0 (pa_cons (pe_op op_sub (pe_ix (k_ixL K rfl) (pv 3) (pv 5) (fun _ _ => rfl)) (pv 6)) (pa_cons (pv 2) pa_nil))) pa_nil))))))
  (pss_one (ps_ret (pv 4))))), ?_⟩
  refine ⟨Nat.zero_le _, fun f nf => ?_⟩
  obtain ⟨H1, e1, s1, h1⟩ := fresh (.lst ([] : List V)) nf
  rw [e1]
  refine ⟨_, rfl, b, _, rfl, .inl (s1.seq hB), _, rfl, by omega, by rw [List.length_map]; omega, ?_⟩
  rw [List.length_map, Int.toNat_natCast]
  have hrl : (restsF ws 0 d row).length = row.length := by unfold restsF; rw [List.length_map, toldR_len]
  refine for_range (lo := 0) (n := row.length) (fun i σ H2 => ∃ v5 v6, σ = [some (.ref a), some (.int 0), some (.int d), some (.ref b), some (.ref f), v5, v6] ∧ Same H H2 ∧ H2 f = some (.lst (((restsF ws 0 d row).take i).map V.int))) ⟨none, none, rfl, s1, h1⟩ ?_ ?_
  · rintro i σ H2 hi ⟨v5, v6, rfl, s2, h2⟩
    have hB2 := s2.seq hB
    have hA2 := s2.seq hA
    have step : (restsF ws 0 d row).take (i + 1) = (restsF ws 0 d row).take i ++ [wrapI (row.getD i 0 - (if i < ws.length then 0 else guessF ws 0 (row.take i))) d] := by
      rw [List.take_add_one]
      congr 1
      unfold restsF toldR
      rw [List.getElem?_map, List.getElem?_map, List.getElem?_range hi]
      rfl
    refine ⟨_, rfl, _, rfl, a, _, rfl, .inl hA2, _, _, rfl, rfl, _, rfl, ?_⟩
    rw [List.length_map]
    refine join_te (fun v H' => v = .int (if i < ws.length then 0 else guessF ws 0 (row.take i)) ∧ Same H2 H') (fun c R' k => k _ _ ⟨by rw [if_pos (by have := of_decide_eq_true c; omega)], Same.refl _⟩) (fun c R' k => ?_) ?_
    · have hc : ¬ i < ws.length := by have := of_decide_eq_false c; omega
      refine ⟨_, rfl, _, rfl, _, rfl, _, rfl, _, rfl, b, _, rfl, hB2, fun c nc => ?_⟩
      rw [Int.zero_add, cut_take, ← List.map_take]
      obtain ⟨H3, e3, s3, h3⟩ := fresh (.lst ((row.take i).map V.int)) nc
      rw [e3]
      exact ⟨a, c, ws, row.take i, rfl, s3.seq hA2, .inl (.inl h3), hW, by rw [List.length_take]; omega, by rw [List.length_take]; omega, k _ _ ⟨by rw [if_neg hc], s3⟩⟩
    rintro v H3 ⟨rfl, s3⟩
    refine ⟨_, rfl, .inl ⟨rfl, _, .inl (.inl (s3 _ _ h2))⟩, _, rfl, _, rfl, b, _, _, _, rfl, rfl, s3.seq hB2, (by rw [Int.zero_add]; exact at_ints hi), _, rfl, _, _, rfl, rfl, _, rfl, _, d, rfl, d1, d2, f, _, _, rfl, rfl, s3 _ _ h2, by rw [List.length_map, List.length_take]; exact small1000 (by omega), ?_⟩
    refine ⟨_, _, rfl, same_over nf (s2.trans s3), ?_⟩
    rw [upd_same, step, List.map_append]
    rfl
  · rintro σ H2 ⟨v5, v6, rfl, s2, h2⟩
    refine ⟨_, rfl, q f _ nf s2 ?_⟩
    rw [h2, List.take_of_length_le (by omega)]
def sp_law_product (K : PySem.W.Frag) : Sp := fun vs H Q _ => ∃ (a b : Addr) (ws us : List Int), vs = [.ref a, .ref b] ∧ SqL K H a (ws.map V.int) ∧ SqL K H b (us.map V.int) ∧ Tame ws ∧ ws.length ≤ 90 ∧ us.length ≤ 90 ∧ ∀ p H', H p = none → Same H H' → H' p = some (.lst ((prodW ws us).map V.int)) → Q (.ref p) H'
theorem G_law_product (T : Top K mg) : FnOk P w K mg base CX0 1 T.f_law_product T.fd_law_product ["_law_one", "_law_other"] (sp_law_product K) := by
  refine T.F_law_product.ok sc_law_product (fun vs H Q E h => by obtain ⟨a, b, ws, us, rfl, _⟩ := h; rfl) (fun cdv A outer s H vs Q E hr h => ?_)
  obtain ⟨a, b, ws, us, rfl, hA, hB, hW, hw, hu, q⟩ := h
  refine ⟨_, PSs.nox (pss_cons (ps_par (by rfl) sc_law_product.nd (i := 4) (j := 5) rfl rfl (by decide) rfl rfl (pa_cons (pe_op op_cat (pe_lst (pa_cons pe_int pa_nil)) (pe_lc (own := [("_law_weight", 8)]) (g := gName 8) (tt := tYes) (by rfl) sc_law_product.nd (k_piL K rfl (pv 0)) (blkOk_by (own := [("_law_weight", 8)]) (N := N_law_product) (sc := defScope s_law_product) (by decide +kernel)) (fun _ _ _ _ _ => (pg_name (i := 8) sc_law_product.nd rfl (by first | exact Or.inl rfl | exact Or.inr rfl))) (fun _ _ _ _ _ => pts_nil) (fun _ _ _ _ _ => (pe_op op_sub pe_int (pv 8))))) (pa_cons (pe_op op_cat (pe_lst (pa_cons pe_int pa_nil)) (pe_lc (own := [("_law_weight", 8)]) (g := gName 8) (tt := tYes) (by rfl) sc_law_product.nd (k_piL K rfl (pv 1)) (blkOk_by (own := [("_law_weight", 8)]) (N := N_law_product) (sc := defScope s_law_product) (by decide +kernel)) (fun _ _ _ _ _ => (pg_name (i := 8) sc_law_product.nd rfl (by first | exact Or.inl rfl | exact Or.inr rfl))) (fun _ _ _ _ _ => pts_nil) (fun _ _ _ _ _ => (pe_op op_sub pe_int (pv 8))))) pa_nil)) (by rfl))
  (pss_cons (ps_set (i := 2) sc_law_product.nd rfl (by first | exact Or.inl rfl | exact Or.inr rfl) (pe_op op_rep (pe_lst (pa_cons pe_int pa_nil)) (pe_op op_sub (pe_op op_add (pe_callB (k_len K rfl) (by rfl) T.n_len (by decide +kernel) (pa_cons (pv 4) pa_nil)) (pe_callB (k_len K rfl) (by rfl) T.n_len (by decide +kernel) (pa_cons (pv 5) pa_nil))) pe_int)))
  (pss_cons (ps_for PassesOwn.never rfl (pi_range1 (by rfl) T.n_range (pa_cons (pe_callB (k_len K rfl) (by rfl) T.n_len (by decide +kernel) (pa_cons (pv 4) pa_nil)) pa_nil)) (pg_name (i := 3) sc_law_product.nd rfl (by first | exact Or.inl rfl | exact Or.inr rfl))
    (pss_one (ps_for PassesOwn.never rfl (pi_range1 (by rfl) T.n_range (pa_cons (pe_callB (k_len K rfl) (by rfl) T.n_len (by decide +kernel) (pa_cons (pv 5) pa_nil)) pa_nil)) (pg_name (i := 6) sc_law_product.nd rfl (by first | exact Or.inl rfl | exact Or.inr rfl))
    (pss_one (ps_asg (pe_op op_add (pe_ix (k_ixL K rfl) (pv 2) (pe_op op_add (pv 3) (pv 6)) (fun _ _ => rfl)) (pe_op op_mulA (pe_ix (k_ixL K rfl) (pv 4) (pv 3) (fun _ _ => rfl)) (pe_ix (k_ixL K rfl) (pv 5) (pv 6) (fun _ _ => rfl)))) (pg_sub (pv 2) (pe_op op_add (pv 3) (pv 6)) set_list))))))
  (pss_one (ps_ret (pe_lc (own := [("_law_item", 7)]) (g := gName 7) (tt := tYes) (by rfl) sc_law_product.nd (k_piL K rfl (pe_slice (k_slL K rfl) (pv 2) (po_some pe_int) po_none)) (blkOk_by (own := [("_law_item", 7)]) (N := N_law_product) (sc := defScope s_law_product) (by decide +kernel)) (fun _ _ _ _ _ => (pg_name (i := 7) sc_law_product.nd rfl (by first | exact Or.inl rfl | exact Or.inr rfl))) (fun _ _ _ _ _ => pts_nil) (fun _ _ _ _ _ => (pe_op op_sub pe_int (pv 7))))))))), ?_⟩
  have neg : ∀ l : List Int, [V.int 1] ++ (l.map fun n => -n).map V.int = (xP l).map V.int := fun l => rfl
  refine ⟨(by show 1 ≤ sizeLine; decide), fun z1 nz1 => ?_⟩
  obtain ⟨H1, e1, s1, hz1⟩ := fresh (.lst [V.int 1]) nz1
  rw [e1]
  refine ⟨_, rfl, a, rfl, ⟨_, s1.seq hA⟩, fun D1 nD1 => ?_⟩
  refine lc_mapL (K := K) (xs := ws.map V.int) ((ws.map fun n => -n).map V.int) nD1 (s1.seq hA) (by rw [List.length_map, List.length_map, List.length_map]) (by rw [List.length_map]; exact small1000 (by omega)) (fun x => rfl) ?_ ?_
  · intro i x y H' hx hy s Qt qt
    obtain ⟨n, hn, rfl⟩ := int_at hx
    rw [List.getElem?_map, List.getElem?_map, hn] at hy
    cases hy
    refine ⟨_, rfl, _, _, rfl, rfl, ?_⟩
    show Qt (V.int (0 - n)) H'
    rw [Int.zero_sub]
    exact qt _ (Same.refl _)
  intro H2 s2 hD1
  refine ⟨z1, D1, _, _, rfl, rfl, s2 _ _ hz1, hD1, by rw [List.length_map, List.length_map, sizeLine_eq]; show 1 + _ ≤ _; omega, fun A nA => ?_⟩
  rw [neg]
  obtain ⟨H3, e3, s3, hA3⟩ := fresh (.lst ((xP ws).map V.int)) nA
  rw [e3]
  have s03 := (s1.trans s2).trans s3
  refine ⟨(by show 1 ≤ sizeLine; decide), fun z2 nz2 => ?_⟩
  obtain ⟨H4, e4, s4, hz2⟩ := fresh (.lst [V.int 1]) nz2
  rw [e4]
  refine ⟨_, rfl, b, rfl, ⟨_, (s03.trans s4).seq hB⟩, fun D2 nD2 => ?_⟩
  refine lc_mapL (K := K) (xs := us.map V.int) ((us.map fun n => -n).map V.int) nD2 ((s03.trans s4).seq hB) (by rw [List.length_map, List.length_map, List.length_map]) (by rw [List.length_map]; exact small1000 (by omega)) (fun x => rfl) ?_ ?_
  · intro i x y H' hx hy s Qt qt
    obtain ⟨n, hn, rfl⟩ := int_at hx
    rw [List.getElem?_map, List.getElem?_map, hn] at hy
    cases hy
    refine ⟨_, rfl, _, _, rfl, rfl, ?_⟩
    show Qt (V.int (0 - n)) H'
    rw [Int.zero_sub]
    exact qt _ (Same.refl _)
  intro H5 s5 hD2
  refine ⟨z2, D2, _, _, rfl, rfl, s5 _ _ hz2, hD2, by rw [List.length_map, List.length_map, sizeLine_eq]; show 1 + _ ≤ _; omega, fun B nB => ?_⟩
  rw [neg]
  obtain ⟨H6, e6, s6, hB6⟩ := fresh (.lst ((xP us).map V.int)) nB
  rw [e6]
  have s36 := (s4.trans s5).trans s6
  have hA6 := s36 _ _ hA3
  refine ⟨_, _, rfl, ?_⟩
  have s06 := s03.trans s36
  refine ⟨(by show 1 ≤ sizeLine; decide), fun z3 nz3 => ?_⟩
  obtain ⟨H7, e7, s7, hz3⟩ := fresh (.lst [V.int 0]) nz3
  rw [e7]
  refine ⟨_, rfl, A, _, rfl, .inl (.inl (.inl (s7 _ _ hA6))), _, rfl, B, _, rfl, .inl (.inl (.inl (s7 _ _ hB6))), _, _, rfl, rfl, _, _, rfl, rfl, ?_⟩
  have en : (((xP ws).map V.int).length : Int) + (((xP us).map V.int).length : Int) - 1 = (((xP ws).length + (xP us).length - 1 : Nat) : Int) := by rw [List.length_map, List.length_map, xP_len, xP_len]; omega
  walk_at "b"
  rw [en]
  refine ⟨z3, _, _, rfl, rfl, hz3, by omega, by rw [xP_len, xP_len]; omega, by rw [Int.toNat_natCast]; show 1 * _ ≤ sizeLine; rw [sizeLine_eq, xP_len, xP_len]; omega, fun f nf => ?_⟩
  have e0 : (List.replicate ((xP ws).length + (xP us).length - 1) [V.int 0]).flatten = (cvL (xP ws) (xP us) 0 0).map V.int := by
    rw [cvL_nil]
    induction (xP ws).length + (xP us).length - 1 with
    | zero => rfl
    | succ n ih => rw [List.replicate_succ, List.flatten_cons, ih, List.replicate_succ]; rfl
  rw [Int.toNat_natCast, e0]
  obtain ⟨H8, e8, s8, hf⟩ := fresh (.lst ((cvL (xP ws) (xP us) 0 0).map V.int)) nf
  rw [e8]
  have s08 := (s06.trans s7).trans s8
  have nHf : H f = none := (s06.trans s7).free nf
  have nf7 : H7 f = none := nf
  have hA8 := s8 _ _ (s7 _ _ hA6)
  have hB8 := s8 _ _ (s7 _ _ hB6)
  have Af : A ≠ f := ne_of_none (s7 _ _ hA6) nf
  have Bf : B ≠ f := ne_of_none (s7 _ _ hB6) nf
  refine ⟨_, rfl, A, _, rfl, .inl (.inl (.inl hA8)), _, rfl, by omega, by rw [List.length_map, xP_len]; omega, ?_⟩
  rw [List.length_map, Int.toNat_natCast]
  refine for_range (lo := 0) (n := (xP ws).length) (fun i σ HA => ∃ v3 v6 v7 v8 : Option V, σ = [some (.ref a), some (.ref b), some (.ref f), v3, some (.ref A), some (.ref B), v6, v7, v8] ∧ (∀ c o, c ≠ f → H8 c = some o → HA c = some o) ∧ HA f = some (.lst ((cvL (xP ws) (xP us) i 0).map V.int))) ⟨none, none, none, none, rfl, fun _ _ _ z => z, hf⟩ ?_ ?_
  · rintro i σ HA hi ⟨v3, v6, v7, v8, rfl, keep, hfA⟩
    have hBA := keep _ _ Bf hB8
    refine ⟨_, rfl, B, _, rfl, .inl (.inl (.inl hBA)), _, rfl, by omega, by rw [List.length_map, xP_len]; omega, ?_⟩
    rw [List.length_map, Int.toNat_natCast]
    refine for_range (lo := 0) (n := (xP us).length) (fun j σ HA => ∃ v6 : Option V, σ = [some (.ref a), some (.ref b), some (.ref f), some (.int (0 + (i : Int))), some (.ref A), some (.ref B), v6, v7, v8] ∧ (∀ c o, c ≠ f → H8 c = some o → HA c = some o) ∧ HA f = some (.lst ((cvL (xP ws) (xP us) i j).map V.int))) ⟨v6, rfl, keep, hfA⟩ ?_ ?_
    · rintro j σ HB hj ⟨v6, rfl, keep, hfB⟩
      have hA9 := keep _ _ Af hA8
      have hB9 := keep _ _ Bf hB8
      have hlen : i + j < (cvL (xP ws) (xP us) i j).length := by rw [cvL_len]; omega
      have ei : (0 : Int) + (i : Int) + (0 + (j : Int)) = ((i + j : Nat) : Int) := by omega
      have hmul := (Tame.xP hW).at i
      refine ⟨_, rfl, _, rfl, _, rfl, _, _, rfl, rfl, f, _, _, _, rfl, rfl, .inl (.inl hfB), (by rw [ei]; exact at_ints (k := i + j) hlen), _, rfl, _, rfl, A, _, _, _, rfl, rfl, .inl (.inl hA9), (by rw [Int.zero_add]; exact at_ints hi), _, rfl, _, rfl, B, _, _, _, rfl, rfl, .inl (.inl hB9), (by rw [Int.zero_add]; exact at_ints hj), _, _, rfl, rfl, .inl (.inl ⟨by omega, by omega⟩), _, _, rfl, rfl, ?_⟩
      refine ⟨_, rfl, _, rfl, _, rfl, _, _, rfl, rfl, f, _, _, i + j, rfl, rfl, hfB, (by rw [ei]; exact ix_ints (k := i + j) hlen), ?_⟩
      refine ⟨some (.int (0 + (j : Int))), rfl, fun c o nc z => by rw [upd_ne nc]; exact keep c o nc z, ?_⟩
      rw [upd_same]
      show some (HO.lst (((cvL (xP ws) (xP us) i j).map V.int).set (i + j) (.int _))) = some (HO.lst ((cvL (xP ws) (xP us) i (j + 1)).map V.int))
      rw [map_set, cvL_step (by rw [cvL_len] at hlen; exact hlen)]
    · rintro σ HB ⟨v6, rfl, keep, hfB⟩
      rw [cvL_next] at hfB
      exact ⟨_, _, _, _, rfl, keep, hfB⟩
  · rintro σ HA ⟨v3, v6, v7, v8, rfl, keep, hfA⟩
    have sHA : Same H HA := fun c o z => keep c o (ne_of_none z nHf) (s08 _ _ z)
    refine ⟨_, rfl, _, rfl, f, _, rfl, .inl (.inl hfA), fun c nc => ?_⟩
    rw [show (some (1 : Int)) = some ((1 : Nat) : Int) from rfl, cut_drop, ← List.map_drop]
    obtain ⟨HC, eC, sC, hC'⟩ := fresh (.lst (((cvL (xP ws) (xP us) (xP ws).length 0).drop 1).map V.int)) nc
    rw [eC]
    have hcv := cv_prod ws us
    have hll : ((cvL (xP ws) (xP us) (xP ws).length 0).drop 1).length ≤ 200 := by rw [List.length_drop, cvL_len, xP_len, xP_len]; omega
    generalize (cvL (xP ws) (xP us) (xP ws).length 0).drop 1 = L at *
    refine ⟨c, rfl, ⟨_, .inl (.inl hC')⟩, fun D nD => ?_⟩
    refine lc_mapL (K := K) (xs := L.map V.int) ((L.map fun n => -n).map V.int) nD (.inl (.inl hC')) (by rw [List.length_map, List.length_map, List.length_map]) (by rw [List.length_map]; exact small1000 (by omega)) (fun x => rfl) ?_ ?_
    · intro i x y H' hx hy s Qt qt
      obtain ⟨n, hn, rfl⟩ := int_at hx
      rw [List.getElem?_map, List.getElem?_map, hn] at hy
      cases hy
      refine ⟨_, rfl, _, _, rfl, rfl, ?_⟩
      show Qt (V.int (0 - n)) H'
      rw [Int.zero_sub]
      exact qt _ (Same.refl _)
    · intro HD sD hD
      rw [hcv] at hD
      exact q D _ ((sHA.trans sC).free nD) ((sHA.trans sC).trans sD) hD
end
end My

namespace My
open PySem PySem.Spec PyProof.Rows L2 Pre
/-! ### rests of rests; what leads to what: the law -/
theorem keep_same {H0 H' : Hp} {x dx C : Addr} (nx : H0 x = none) (ndx : H0 dx = none) (kp : ∀ b o, b ≠ x → (upd (upd H0 dx (.own x)) x (.ins C dx [])) b = some o → H' b = some o) : Same H0 H' := fun b o e => by
  refine kp b o (ne_of_none e nx) ?_
  rw [upd_ne (ne_of_none e nx), upd_ne (ne_of_none e ndx)]
  exact e
/-- small weights -/
def Few (w : List Int) : Prop := w.length ≤ 4 ∧ ∀ x ∈ w, x.natAbs ≤ 4
theorem Few.weights {w : List Int} (h : Few w) : Weights w := ⟨by have := h.1; omega, fun n hn => by have := h.2 n hn; omega⟩
theorem Few.tame {w : List Int} (h : Few w) : Tame w := h.weights.tame
theorem prodW_tame {w v : List Int} (hw : Few w) (hv : Few v) : Tame (prodW w v) := by
  have hx : ∀ w : List Int, Few w → ∀ x ∈ xP w, x.natAbs ≤ 4 := fun w h x hx => by
    rcases List.mem_cons.mp hx with e | e
    · rw [e]; decide
    · obtain ⟨m, hm, rfl⟩ := List.mem_map.mp e
      rw [Int.natAbs_neg]
      exact h.2 m hm
  intro n hn
  unfold prodW at hn
  obtain ⟨k, _, rfl⟩ := List.mem_map.mp hn
  have h1 : (prodF (xP w) (xP v) (k + 1)).natAbs ≤ (xP w).length * 16 := by
    rw [prodF_eq]
    refine sumN_abs fun s _ => ?_
    split
    · rw [Int.natAbs_mul]
      exact Nat.mul_le_mul (small_getD (hx w hw) s) (small_getD (hx v hv) _)
    · exact Nat.zero_le _
  rw [xP_len] at h1
  have := hw.1
  exact ⟨by omega, by omega⟩
local macro_rules | `(tactic| walk_at "go") => `(tactic| repeat (first | (with_reducible first | refine iteT ?_ | refine iteF ?_ | refine iteNtt ?_ | refine iteNff ?_ | refine iteET (by omega) ?_ | refine iteEF (by omega) ?_ | refine iteENT (by omega) ?_ | refine iteENF (by omega) ?_ | refine iteDT (by omega) ?_ | refine iteDF (by omega) ?_ | refine iteNT (by omega) ?_ | refine iteNF (by omega) ?_) | refine ⟨_, rfl, ?_⟩ | refine ⟨_, _, rfl, rfl, ?_⟩ | refine ⟨_, _, rfl, ?_⟩ | refine ⟨rfl, ?_⟩ | refine .inl ⟨_, rfl, ?_⟩ | refine .inr ⟨_, rfl, ?_⟩))
local macro_rules | `(tactic| walk_at "b") => `(tactic| try dsimp (config := { proj := false, iota := false, eta := false, zeta := false }) only)
section
variable {P : Program} {w : World} {K : PySem.W.Frag} {mg : Str → Option Value} {base : Heap} [pf : Sup.PF P fileS]
def sp_law_right : Sp := fun vs H Q _ => ∃ (g a b : Addr) (ws us : List Int) (n : Nat), vs = [.ref g, .ref a, .ref b] ∧ GenAt H g n ∧ n ≤ 10 ^ 7 ∧ H a = some (.lst (ws.map V.int)) ∧ H b = some (.lst (us.map V.int)) ∧ a ≠ g ∧ b ≠ g ∧ Few ws ∧ Few us ∧ ∀ H', But g H H' → GenAt H' g (n + 10 ^ 5) → Q (.bl true) H'
theorem G_law_right (T : Top K mg) : FnOk P w K mg base CX0 5 T.f_law_right T.fd_law_right ["_law_generator_here", "_law_one", "_law_other"] sp_law_right := by
  refine T.F_law_right.ok sc_law_right (fun vs H Q E h => by obtain ⟨g, a, b, ws, us, n, rfl, _⟩ := h; rfl) (fun cdv A outer s H vs Q E hr h => ?_)
  obtain ⟨g, a, b, ws, us, n, rfl, hG, hn, ha, hb, ag, bg, fw, fu, q⟩ := h
  refine ⟨_, PSs.nox (pss_cons (ps_set (i := 3) sc_law_right.nd rfl (by first | exact Or.inl rfl | exact Or.inr rfl) (pe_call (G_after (P := P) T) (hr.mono (by decide)) (by rfl) T.g_after T.F_after.kp T.b_after .nil passL (pa_cons (pe_make T.mk_Guesser (G_Guesser___init__ (P := P) T) (hr.mono (by decide)) (by rfl) T.gc_Guesser T.b_Guesser___init__ .nil pass0 (pa_cons (pe_callTy (k_listOf K rfl) (by rfl) T.n_list (by decide +kernel) (pa_cons (pv 1) pa_nil)) (pa_cons pe_int pa_nil))) (pa_cons (pe_make T.mk_Guesser (G_Guesser___init__ (P := P) T) (hr.mono (by decide)) (by rfl) T.gc_Guesser T.b_Guesser___init__ .nil pass0 (pa_cons (pe_callTy (k_listOf K rfl) (by rfl) T.n_list (by decide +kernel) (pa_cons (pv 2) pa_nil)) (pa_cons pe_int pa_nil))) pa_nil))))
  (pss_cons (ps_if (PW.pt (pw_or (pt_cmpR (k_neD K rfl hr.units) (pv 3) (pe_call (G_law_product (P := P) T) (hr.mono (by decide)) (by rfl) T.g_law_product T.F_law_product.kp T.b_law_product .nil pass0 (pa_cons (pv 1) (pa_cons (pv 2) pa_nil))) (nomark _)) (pw_or1 (pt_cmpR (k_neD K rfl hr.units) (pe_call (G_after (P := P) T) (hr.mono (by decide)) (by rfl) T.g_after T.F_after.kp T.b_after .nil passL (pa_cons (pe_make T.mk_Guesser (G_Guesser___init__ (P := P) T) (hr.mono (by decide)) (by rfl) T.gc_Guesser T.b_Guesser___init__ .nil pass0 (pa_cons (pe_callTy (k_listOf K rfl) (by rfl) T.n_list (by decide +kernel) (pa_cons (pv 2) pa_nil)) (pa_cons pe_int pa_nil))) (pa_cons (pe_make T.mk_Guesser (G_Guesser___init__ (P := P) T) (hr.mono (by decide)) (by rfl) T.gc_Guesser T.b_Guesser___init__ .nil pass0 (pa_cons (pe_callTy (k_listOf K rfl) (by rfl) T.n_list (by decide +kernel) (pa_cons (pv 1) pa_nil)) (pa_cons pe_int pa_nil))) pa_nil))) (pv 3) (nomark _)))))
    (pss_one (ps_ret pe_bl))
    pss_nil)
  (pss_cons (ps_setLc (i := 4) (own := [("_law_place", 6)]) (g := gName 6) (tt := tYes) (by rfl) sc_law_right.nd rfl rfl (sw_true rfl rfl rfl (by decide +kernel)) (pi_range1 (by rfl) T.n_range (pa_cons (pe_op op_add (pe_op op_add (pe_callB (k_len K rfl) (by rfl) T.n_len (by decide +kernel) (pa_cons (pv 1) pa_nil)) (pe_callB (k_len K rfl) (by rfl) T.n_len (by decide +kernel) (pa_cons (pv 2) pa_nil))) pe_int) pa_nil)) (blkOk_by (own := [("_law_place", 6)]) (N := N_law_right) (sc := defScope s_law_right) (by decide +kernel)) (fun _ _ _ _ _ => (pg_name (i := 6) sc_law_right.nd rfl (by first | exact Or.inl rfl | exact Or.inr rfl))) (fun _ _ _ _ _ => pts_nil) (fun _ _ _ _ _ => (pe_op op_sub (pe_call (G_law_random (P := P) T) (hr.mono (by decide)) (by rfl) T.g_law_random T.F_law_random.kp T.b_law_random .nil pass0 (pa_cons (pv 0) (pa_cons (pe_op op_powW pe_int pe_int) pa_nil))) (pe_op op_mul pe_int (pe_op op_powW pe_int pe_int)))))
  (pss_cons (ps_set (i := 5) sc_law_right.nd rfl (by first | exact Or.inl rfl | exact Or.inr rfl) (pe_call (G_law_rests_behind (P := P) T) (hr.mono (by decide)) (by rfl) T.g_law_rests_behind T.F_law_rests_behind.kp T.b_law_rests_behind .nil pass0 (pa_cons (pv 2) (pa_cons (pe_call (G_law_rests_behind (P := P) T) (hr.mono (by decide)) (by rfl) T.g_law_rests_behind T.F_law_rests_behind.kp T.b_law_rests_behind .nil pass0 (pa_cons (pv 1) (pa_cons (pv 4) pa_nil))) pa_nil))))
  (pss_cons (ps_if (pt_cmpR (k_neD K rfl hr.units) (pe_slice (k_slL K rfl) (pe_call (G_plain_rests (P := P) T) (hr.mono (by decide)) (by rfl) T.g_plain_rests T.F_plain_rests.kp T.b_plain_rests .nil pass0 (pa_cons (pe_make T.mk_Guesser (G_Guesser___init__ (P := P) T) (hr.mono (by decide)) (by rfl) T.gc_Guesser T.b_Guesser___init__ .nil pass0 (pa_cons (pe_callTy (k_listOf K rfl) (by rfl) T.n_list (by decide +kernel) (pa_cons (pv 1) pa_nil)) (pa_cons pe_int pa_nil))) (pa_cons (pv 4) pa_nil))) (po_some (pe_callB (k_len K rfl) (by rfl) T.n_len (by decide +kernel) (pa_cons (pv 1) pa_nil))) po_none) (pe_call (G_law_rests_behind (P := P) T) (hr.mono (by decide)) (by rfl) T.g_law_rests_behind T.F_law_rests_behind.kp T.b_law_rests_behind .nil pass0 (pa_cons (pv 1) (pa_cons (pv 4) pa_nil))) (nomark _))
    (pss_one (ps_ret pe_bl))
    pss_nil)
  (pss_one (ps_ret (pe_and (pe_cmpR (k_eqD K rfl hr.units) (pv 5) (pe_call (G_law_rests_behind (P := P) T) (hr.mono (by decide)) (by rfl) T.g_law_rests_behind T.F_law_rests_behind.kp T.b_law_rests_behind .nil pass0 (pa_cons (pv 3) (pa_cons (pv 4) pa_nil))) (nomark _)) (pe_one (pe_cmpR (k_eqD K rfl hr.units) (pv 5) (pe_call (G_law_rests_behind (P := P) T) (hr.mono (by decide)) (by rfl) T.g_law_rests_behind T.F_law_rests_behind.kp T.b_law_rests_behind .nil pass0 (pa_cons (pv 1) (pa_cons (pe_call (G_law_rests_behind (P := P) T) (hr.mono (by decide)) (by rfl) T.g_law_rests_behind T.F_law_rests_behind.kp T.b_law_rests_behind .nil pass0 (pa_cons (pv 2) (pa_cons (pv 4) pa_nil))) pa_nil))) (nomark _))))))))))), ?_⟩
  have hw := fw.weights
  have hu := fu.weights
  have l1 := fw.1
  have l2 := fu.1
  refine ⟨_, rfl, a, _, rfl, .inl (.inl (.inl ha)), fun lA nlA => ?_⟩
  obtain ⟨HA, eA, sA, hlA⟩ := fresh (.lst (ws.map V.int)) nlA
  rw [eA]
  intro xA dxA nxA ndxA nexA
  have tA : Same HA (upd (upd HA dxA (.own xA)) xA (.ins T.C_Guesser dxA [])) := fun b o e => by
    rw [upd_ne (ne_of_none e nxA), upd_ne (ne_of_none e ndxA)]
    exact e
  refine ⟨xA, lA, dxA, ws, 0, rfl, upd_same, .inl (tA _ _ hlA), hw, by decide, fun JA kpA GA hnA => ⟨rfl, ?_⟩⟩
  have uA : Same H JA := sA.trans (keep_same nxA ndxA kpA)
  clear tA kpA nexA
  refine ⟨_, rfl, b, _, rfl, .inl (.inl (.inl (uA _ _ hb))), fun lB nlB => ?_⟩
  obtain ⟨HB, eB, sB, hlB⟩ := fresh (.lst (us.map V.int)) nlB
  rw [eB]
  intro xB dxB nxB ndxB nexB
  have tB : Same HB (upd (upd HB dxB (.own xB)) xB (.ins T.C_Guesser dxB [])) := fun b o e => by
    rw [upd_ne (ne_of_none e nxB), upd_ne (ne_of_none e ndxB)]
    exact e
  refine ⟨xB, lB, dxB, us, 0, rfl, upd_same, .inl (tB _ _ hlB), hu, by decide, fun JB kpB GB hnB => ⟨rfl, ?_⟩⟩
  have uB : Same JA JB := sB.trans (keep_same nxB ndxB kpB)
  clear tB kpB nexB
  refine ⟨_, _, rfl, .inl ⟨ws, us, ⟨xA, rfl, GA.same uB⟩, ⟨xB, rfl, GB⟩, fun pt H1 npt s1 hpt => ?_⟩⟩
  have s01 := (uA.trans uB).trans s1
  refine ⟨_, rfl, _, rfl, _, rfl, a, b, ws, us, rfl, .inl (.inl (s01 _ _ ha)), .inl (.inl (s01 _ _ hb)), fw.tame, by omega, by omega, fun p2 H2 np2 s2 hp2 => ?_⟩
  have s02 := s01.trans s2
  refine ne_lst (.inl (.inl (s2 _ _ hpt))) (.inl (.inl hp2)) ⟨_, rfl, iteF ?_⟩
  refine ⟨_, rfl, b, _, rfl, .inl (.inl (.inl (s02 _ _ hb))), fun lC nlC => ?_⟩
  obtain ⟨HC, eC, sC, hlC⟩ := fresh (.lst (us.map V.int)) nlC
  rw [eC]
  intro xC dxC nxC ndxC nexC
  have tC : Same HC (upd (upd HC dxC (.own xC)) xC (.ins T.C_Guesser dxC [])) := fun b o e => by
    rw [upd_ne (ne_of_none e nxC), upd_ne (ne_of_none e ndxC)]
    exact e
  refine ⟨xC, lC, dxC, us, 0, rfl, upd_same, .inl (tC _ _ hlC), hu, by decide, fun JC kpC GC hnC => ⟨rfl, ?_⟩⟩
  have uC : Same H2 JC := sC.trans (keep_same nxC ndxC kpC)
  clear tC kpC nexC
  refine ⟨_, rfl, a, _, rfl, .inl (.inl (.inl (uC _ _ (s02 _ _ ha)))), fun lD nlD => ?_⟩
  obtain ⟨HD, eD, sD, hlD⟩ := fresh (.lst (ws.map V.int)) nlD
  rw [eD]
  intro xD dxD nxD ndxD nexD
  have tD : Same HD (upd (upd HD dxD (.own xD)) xD (.ins T.C_Guesser dxD [])) := fun b o e => by
    rw [upd_ne (ne_of_none e nxD), upd_ne (ne_of_none e ndxD)]
    exact e
  refine ⟨xD, lD, dxD, ws, 0, rfl, upd_same, .inl (tD _ _ hlD), hw, by decide, fun JD kpD GD hnD => ⟨rfl, ?_⟩⟩
  have uD : Same JC JD := sD.trans (keep_same nxD ndxD kpD)
  clear tD kpD nexD
  refine ⟨_, _, rfl, .inl ⟨us, ws, ⟨xC, rfl, GC.same uD⟩, ⟨xD, rfl, GD⟩, fun p3 H3 np3 s3 hp3 => ?_⟩⟩
  have s23 := (uC.trans uD).trans s3
  have s03 := s02.trans s23
  have hpt3 := s23 _ _ (s2 _ _ hpt)
  rw [prodW_comm us ws] at hp3
  refine ⟨_, rfl, ne_lst (.inl (.inl hp3)) (.inl (.inl hpt3)) ⟨_, rfl, iteF ?_⟩⟩
  have g3 := hG.same s03
  refine ⟨_, rfl, a, _, rfl, .inl (.inl (.inl (s03 _ _ ha))), _, rfl, b, _, rfl, .inl (.inl (.inl (s03 _ _ hb))), _, _, rfl, rfl, _, _, rfl, rfl, _, rfl, ?_⟩
  rw [List.length_map, List.length_map]
  refine ⟨by omega, by omega, fun D nD => ?_⟩
  rw [show (((ws.length : Nat) : Int) + ((us.length : Nat) : Int) + 4).toNat = ws.length + us.length + 4 by omega]
  refine lc_drawR (lo := 0) (n := ws.length + us.length + 4) g n 1000 (fun _ => True) nD g3 (small1000 (by omega)) (fun x => rfl) ?_ ?_
  · intro i H' hi b1 g1 Qt qt
    refine ⟨_, rfl, _, _, rfl, rfl, ⟨by decide, by decide +kernel⟩, g, _, _, rfl, g1, by omega, by decide, small_2900 (by decide), fun r H2 r0 r1 g2 b2 => ?_⟩
    refine ⟨_, _, rfl, rfl, ⟨by decide, by decide +kernel⟩, _, _, rfl, rfl, .inl ⟨by decide, by decide⟩, _, _, rfl, rfl, ?_⟩
    exact qt _ _ trivial b2 (g2.mono (by omega))
  intro H4 ys b4 g4 hD hyl _
  have ptg : pt ≠ g := (hG.same (uA.trans uB)).ne npt
  have hpt4 := b4 _ _ ptg hpt3
  have ha4 := b4 _ _ ag (s03 _ _ ha)
  have hb4 := b4 _ _ bg (s03 _ _ hb)
  have e1 := rest_twice (w := ws) (v := us) (row := ys) (by omega)
  have e2 := rest_twice (w := us) (v := ws) (row := ys) (by omega)
  rw [prodW_comm us ws] at e2
  refine ⟨_, rfl, _, rfl, _, rfl, a, D, ws, ys, rfl, .inl (.inl ha4), .inl (.inl hD), fw.tame, by omega, by omega, fun p5 H5 np5 s5 hp5 => ?_⟩
  refine ⟨b, p5, us, rbL ws ys, rfl, .inl (.inl (s5 _ _ hb4)), .inl (.inl hp5), fu.tame, by omega, by rw [rbL_len]; omega, fun p6 H6 np6 s6 hp6 => ?_⟩
  rw [e1] at hp6
  have s46 := s5.trans s6
  refine ⟨_, rfl, a, _, rfl, .inl (.inl (.inl (s46 _ _ ha4))), fun lE nlE => ?_⟩
  obtain ⟨HE, eE, sE, hlE⟩ := fresh (.lst (ws.map V.int)) nlE
  rw [eE]
  intro xE dxE nxE ndxE nexE
  have tE : Same HE (upd (upd HE dxE (.own xE)) xE (.ins T.C_Guesser dxE [])) := fun b o e => by
    rw [upd_ne (ne_of_none e nxE), upd_ne (ne_of_none e ndxE)]
    exact e
  refine ⟨xE, lE, dxE, ws, 0, rfl, upd_same, .inl (tE _ _ hlE), hw, by decide, fun JE kpE GE hnE => ⟨rfl, ?_⟩⟩
  have uE : Same H6 JE := sE.trans (keep_same nxE ndxE kpE)
  clear tE kpE nexE
  refine ⟨_, rfl, xE, D, ws, 0, ys, rfl, GE, .inl (uE _ _ (s46 _ _ hD)), by omega, fun H7 p7 s7 np7 hp7 => ?_⟩
  have s47 := (s46.trans uE).trans s7
  refine ⟨_, rfl, a, _, rfl, .inl (.inl (.inl (s47 _ _ ha4))), _, rfl, p7, _, rfl, .inl (.inl hp7), fun c nc => ?_⟩
  rw [List.length_map, cut_drop, ← List.map_drop, rbL_drop]
  obtain ⟨H8, e8, s8, hc⟩ := fresh (.lst ((rbL ws ys).map V.int)) nc
  rw [e8]
  have s48 := s47.trans s8
  refine ⟨_, rfl, _, rfl, a, D, ws, ys, rfl, .inl (.inl (s48 _ _ ha4)), .inl (.inl (s48 _ _ hD)), fw.tame, by omega, by omega, fun p9 H9 np9 s9 hp9 => ?_⟩
  refine ne_lst (.inl (.inl (s9 _ _ hc))) (.inl (.inl hp9)) ⟨_, rfl, iteF ?_⟩
  have s49 := s48.trans s9
  have hp6' := ((uE.trans s7).trans s8).trans s9 _ _ hp6
  refine ⟨_, rfl, _, rfl, _, rfl, pt, D, prodW ws us, ys, rfl, .inl (.inl (s49 _ _ hpt4)), .inl (.inl (s49 _ _ hD)), prodW_tame fw fu, by rw [prodW_len]; omega, by omega, fun p10 H10 np10 s10 hp10 => ?_⟩
  refine eq_lst (.inl (.inl (s10 _ _ hp6'))) (.inl (.inl hp10)) ⟨_, rfl, iteT ?_⟩
  have s410 := s49.trans s10
  refine ⟨_, rfl, _, rfl, _, rfl, _, rfl, b, D, us, ys, rfl, .inl (.inl (s410 _ _ hb4)), .inl (.inl (s410 _ _ hD)), fu.tame, by omega, by omega, fun p11 H11 np11 s11 hp11 => ?_⟩
  refine ⟨a, p11, ws, rbL us ys, rfl, .inl (.inl (s11 _ _ (s410 _ _ ha4))), .inl (.inl hp11), fw.tame, by omega, by rw [rbL_len]; omega, fun p12 H12 np12 s12 hp12 => ?_⟩
  rw [e2] at hp12
  have s412 := (s410.trans s11).trans s12
  refine eq_lst (.inl (.inl ((s10.trans (s11.trans s12)) _ _ hp6'))) (.inl (.inl hp12)) ?_
  refine q _ (((But.of s03).trans b4).same s412) ((g4.same s412).mono (by omega))
end
end My

namespace My
open PySem PySem.Spec PyProof.Rows L2 Pre
/-! ### what leads to what: the law -/
local macro_rules | `(tactic| walk_at "go") => `(tactic| repeat (first | (with_reducible first | refine iteT ?_ | refine iteF ?_ | refine iteNtt ?_ | refine iteNff ?_ | refine iteET (by omega) ?_ | refine iteEF (by omega) ?_ | refine iteENT (by omega) ?_ | refine iteENF (by omega) ?_ | refine iteDT (by omega) ?_ | refine iteDF (by omega) ?_ | refine iteNT (by omega) ?_ | refine iteNF (by omega) ?_) | refine ⟨_, rfl, ?_⟩ | refine ⟨_, _, rfl, rfl, ?_⟩ | refine ⟨_, _, rfl, ?_⟩ | refine ⟨rfl, ?_⟩ | refine .inl ⟨_, rfl, ?_⟩ | refine .inr ⟨_, rfl, ?_⟩))
local macro_rules | `(tactic| walk_at "b") => `(tactic| try dsimp (config := { proj := false, iota := false, eta := false, zeta := false }) only)
section
variable {P : Program} {w : World} {K : PySem.W.Frag} {mg : Str → Option Value} {base : Heap} [pf : Sup.PF P fileS]
def sp_law_divided (K : PySem.W.Frag) : Sp := fun vs H Q _ => ∃ (a b : Addr) (ws ms : List Int), vs = [.ref a, .ref b] ∧ SqL K H a (ws.map V.int) ∧ SqL K H b (ms.map V.int) ∧ Few ws ∧ ms.length ≤ 8 ∧ (∀ H', Same H H' → Q .non H') ∧ ∀ p H' ts, H p = none → Same H H' → H' p = some (.lst (ts.map V.int)) → prodW ws ts = ms → Q (.ref p) H'
theorem G_law_divided (T : Top K mg) : FnOk P w K mg base CX0 2 T.f_law_divided T.fd_law_divided ["_law_one", "_law_bent"] (sp_law_divided K) := by
  refine T.F_law_divided.ok sc_law_divided (fun vs H Q E h => by obtain ⟨a, b, ws, ms, rfl, _⟩ := h; rfl) (fun cdv A outer s H vs Q E hr h => ?_)
  obtain ⟨a, b, ws, ms, rfl, hA, hB, fw, hm, q0, q1⟩ := h
  refine ⟨_, PSs.nox (pss_cons (ps_set (i := 2) sc_law_divided.nd rfl (by first | exact Or.inl rfl | exact Or.inr rfl) (pe_op op_sub (pe_callB (k_len K rfl) (by rfl) T.n_len (by decide +kernel) (pa_cons (pv 1) pa_nil)) (pe_callB (k_len K rfl) (by rfl) T.n_len (by decide +kernel) (pa_cons (pv 0) pa_nil))))
  (pss_cons (ps_set (i := 3) sc_law_divided.nd rfl (by first | exact Or.inl rfl | exact Or.inr rfl) (pe_lst pa_nil))
  (pss_cons (ps_for PassesOwn.never rfl (pi_range1 (by rfl) T.n_range (pa_cons (pv 2) pa_nil)) (pg_name (i := 4) sc_law_divided.nd rfl (by first | exact Or.inl rfl | exact Or.inr rfl))
    (pss_cons (ps_set (i := 5) sc_law_divided.nd rfl (by first | exact Or.inl rfl | exact Or.inr rfl) (pe_ix (k_ixL K rfl) (pv 1) (pv 4) (fun _ _ => rfl)))
  (pss_cons (ps_for PassesOwn.never rfl (pi_range1 (by rfl) T.n_range (pa_cons (pe_callB (k_len K rfl) (by rfl) T.n_len (by decide +kernel) (pa_cons (pv 0) pa_nil)) pa_nil)) (pg_name (i := 6) sc_law_divided.nd rfl (by first | exact Or.inl rfl | exact Or.inr rfl))
    (pss_one (ps_if (pt_cmpR op_eq (pv 6) (pv 4) (nomark _))
    (pss_one (ps_set (i := 5) sc_law_divided.nd rfl (by first | exact Or.inl rfl | exact Or.inr rfl) (pe_op op_sub (pv 5) (pe_ix (k_ixL K rfl) (pv 0) (pv 6) (fun _ _ => rfl)))))
    (pss_one (ps_if (pt_cmpR op_lt (pv 6) (pv 4) (nomark _))
    (pss_one (ps_set (i := 5) sc_law_divided.nd rfl (by first | exact Or.inl rfl | exact Or.inr rfl) (pe_op op_add (pv 5) (pe_op op_mulA (pe_ix (k_ixL K rfl) (pv 0) (pv 6) (fun _ _ => rfl)) (pe_ix (k_ixL K rfl) (pv 3) (pe_op op_sub (pe_op op_sub (pv 4) (pv 6)) pe_int) (fun _ _ => rfl))))))
    pss_nil)))))
  (pss_one (ps_expr (pe_bm PySem.F.plainAttrs_list PySem.F.slot_list_append PySem.F.type_list_append mt_append (pv 3) (pa_cons (pv 5) pa_nil)))))))
  (pss_one (ps_ret (pe_ifExp (pt_cmpR (k_eqD K rfl hr.units) (pe_call (G_law_product (P := P) T) (hr.mono (by decide)) (by rfl) T.g_law_product T.F_law_product.kp T.b_law_product .nil pass0 (pa_cons (pv 0) (pa_cons (pv 3) pa_nil))) (pv 1) (nomark _)) (pv 3) pe_non)))))), ?_⟩
  have l1 := fw.1
  refine ⟨_, rfl, b, _, rfl, .inl hB, _, rfl, a, _, rfl, .inl hA, _, _, rfl, rfl, ?_⟩
  refine ⟨Nat.zero_le _, fun f nf => ?_⟩
  obtain ⟨H1, e1, s1, h1⟩ := fresh (.lst ([] : List V)) nf
  rw [e1]
  walk_at "b"
  rw [List.length_map, List.length_map]
  refine ⟨_, rfl, _, rfl, by omega, by omega, ?_⟩
  refine for_range (lo := 0) (n := (((ms.length : Nat) : Int) - ((ws.length : Nat) : Int)).toNat) (fun i σ HA => ∃ (fs : List Int) (v4 v5 v6 : Option V), σ = [some (.ref a), some (.ref b), some (.int (((ms.length : Nat) : Int) - ((ws.length : Nat) : Int))), some (.ref f), v4, v5, v6] ∧ Same H HA ∧ HA f = some (.lst (fs.map V.int)) ∧ fs.length = i) ⟨[], none, none, none, rfl, s1, h1, rfl⟩ ?_ ?_
  · rintro i σ HA hi ⟨fs, v4, v5, v6, rfl, sA, hfA, hfl⟩
    have hBA := sA.seq hB
    have hAA := sA.seq hA
    refine ⟨_, rfl, _, rfl, b, _, _, _, rfl, rfl, hBA, (by rw [Int.zero_add]; exact at_ints (by omega)), ?_⟩
    refine ⟨_, rfl, a, _, rfl, .inl hAA, _, rfl, by omega, by rw [List.length_map]; omega, ?_⟩
    rw [List.length_map, Int.toNat_natCast]
    refine for_range (lo := 0) (n := ws.length) (fun j σ HB => ∃ (z : Int) (v6 : Option V), σ = [some (.ref a), some (.ref b), some (.int (((ms.length : Nat) : Int) - ((ws.length : Nat) : Int))), some (.ref f), some (.int (0 + (i : Int))), some (.int z), v6] ∧ HB = HA) ⟨_, v6, rfl, rfl⟩ ?_ ?_
    · rintro j σ HB hj ⟨z, v6, rfl, rfl⟩
      have hwb := fw.tame.at j
      refine ⟨_, rfl, _, rfl, rfl, _, rfl, ?_⟩
      by_cases c : j = i
      · refine iteET (by omega) ?_
        refine ⟨_, rfl, _, rfl, _, rfl, a, _, _, _, rfl, rfl, hAA, (by rw [Int.zero_add]; exact at_ints hj), _, _, rfl, rfl, ?_⟩
        exact ⟨_, _, rfl, rfl⟩
      refine iteEF (by omega) ?_
      refine ⟨_, rfl, _, rfl, _, _, rfl, rfl, _, rfl, ?_⟩
      by_cases c2 : j < i
      · refine iteDT (by omega) ?_
        refine ⟨_, rfl, _, rfl, _, rfl, a, _, _, _, rfl, rfl, hAA, (by rw [Int.zero_add]; exact at_ints hj), _, rfl, _, rfl, _, rfl, _, _, rfl, rfl, _, _, rfl, rfl, f, _, _, _, rfl, rfl, .inl (.inl hfA), (by rw [show (0 : Int) + (i : Int) - (0 + (j : Int)) - 1 = ((i - j - 1 : Nat) : Int) by omega]; exact at_ints (by omega)), _, _, rfl, rfl, .inl (.inl ⟨by omega, by omega⟩), _, _, rfl, rfl, ?_⟩
        exact ⟨_, _, rfl, rfl⟩
      · refine iteDF (by omega) ?_
        exact ⟨_, _, rfl, rfl⟩
    · rintro σ HB ⟨z, v6, rfl, rfl⟩
      refine ⟨_, rfl, .inl ⟨rfl, _, .inl (.inl hfA)⟩, _, rfl, f, _, _, rfl, rfl, hfA, by rw [List.length_map]; exact small1000 (by omega), ?_⟩
      refine ⟨fs ++ [z], _, _, _, rfl, same_over nf sA, ?_, ?_⟩
      · rw [upd_same, List.map_append]
        rfl
      · rw [List.length_append, hfl]
        rfl
  · rintro σ HA ⟨fs, v4, v5, v6, rfl, sA, hfA, hfl⟩
    refine ⟨_, rfl, _, rfl, a, f, ws, fs, rfl, sA.seq hA, .inl (.inl hfA), fw.tame, by omega, by omega, fun p H2 np s2 hp => ?_⟩
    refine ⟨_, rfl, ?_⟩
    have hB2 := (sA.trans s2).seq hB
    refine eqD_lst (.inl (.inl hp)) hB2 ⟨_, rfl, ?_⟩
    by_cases c : prodW ws fs = ms
    · rw [decide_eq_true c]
      exact iteT ⟨_, rfl, q1 f _ fs nf (sA.trans s2) (s2 _ _ hfA) c⟩
    · rw [decide_eq_false c]
      exact iteF (q0 _ (sA.trans s2))
def absI (n : Int) : Int := if n < 0 then -n else n
def sp_law_leads_right : Sp := fun vs H Q _ => ∃ (g a b : Addr) (ws ts : List Int) (n : Nat), vs = [.ref g, .ref a, .ref b] ∧ GenAt H g n ∧ n ≤ 10 ^ 7 ∧ H a = some (.lst (ws.map V.int)) ∧ H b = some (.lst (ts.map V.int)) ∧ a ≠ g ∧ b ≠ g ∧ Few ws ∧ Few ts ∧ ∀ H', But g H H' → GenAt H' g (n + 10 ^ 5) → Q (.bl true) H'
theorem G_law_leads_right (T : Top K mg) : FnOk P w K mg base CX0 5 T.f_law_leads_right T.fd_law_leads_right ["_law_generator_here", "_law_one", "_law_third"] sp_law_leads_right := by
  refine T.F_law_leads_right.ok sc_law_leads_right (fun vs H Q E h => by obtain ⟨g, a, b, ws, ts, n, rfl, _⟩ := h; rfl) (fun cdv A outer s H vs Q E hr h => ?_)
  obtain ⟨g, a, b, ws, ts, n, rfl, hG, hn, ha, hb, ag, bg, fw, ft, q⟩ := h
  refine ⟨_, PSs.nox (pss_cons (ps_set (i := 3) sc_law_leads_right.nd rfl (by first | exact Or.inl rfl | exact Or.inr rfl) (pe_call (G_law_product (P := P) T) (hr.mono (by decide)) (by rfl) T.g_law_product T.F_law_product.kp T.b_law_product .nil pass0 (pa_cons (pv 1) (pa_cons (pv 2) pa_nil))))
  (pss_cons (ps_if (PW.pt (pw_and (pt_cmpR op_le (pe_callB (k_len K rfl) (by rfl) T.n_len (by decide +kernel) (pa_cons (pv 3) pa_nil)) pe_int (nomark _)) (pw_and1 (pt_cmpR op_le (pe_callB (k_max K rfl rfl) (by rfl) T.n_max (by decide +kernel) (pa_cons (pe_op op_cat (pe_lc (own := [("_law_weight", 7)]) (g := gName 7) (tt := tYes) (by rfl) sc_law_leads_right.nd (k_piL K rfl (pv 3)) (blkOk_by (own := [("_law_weight", 7)]) (N := N_law_leads_right) (sc := defScope s_law_leads_right) (by decide +kernel)) (fun _ _ _ _ _ => (pg_name (i := 7) sc_law_leads_right.nd rfl (by first | exact Or.inl rfl | exact Or.inr rfl))) (fun _ _ _ _ _ => pts_nil) (fun _ _ _ _ _ => (pe_callB call_abs (by rfl) T.n_abs (by decide +kernel) (pa_cons (pv 7) pa_nil)))) (pe_lst (pa_cons pe_int pa_nil))) pa_nil)) (pe_op op_powW pe_int pe_int) (nomark _)))))
    (pss_cons (ps_if (pt_cmpR (k_neD K rfl hr.units) (pe_call (G_leads_to (P := P) T) (hr.mono (by decide)) (by rfl) T.g_leads_to T.F_leads_to.kp T.b_leads_to .nil passL (pa_cons (pe_make T.mk_Guesser (G_Guesser___init__ (P := P) T) (hr.mono (by decide)) (by rfl) T.gc_Guesser T.b_Guesser___init__ .nil pass0 (pa_cons (pe_callTy (k_listOf K rfl) (by rfl) T.n_list (by decide +kernel) (pa_cons (pv 1) pa_nil)) (pa_cons pe_int pa_nil))) (pa_cons (pe_make T.mk_Guesser (G_Guesser___init__ (P := P) T) (hr.mono (by decide)) (by rfl) T.gc_Guesser T.b_Guesser___init__ .nil pass0 (pa_cons (pe_callTy (k_listOf K rfl) (by rfl) T.n_list (by decide +kernel) (pa_cons (pv 3) pa_nil)) (pa_cons pe_int pa_nil))) pa_nil))) (pv 2) (nomark _))
    (pss_one (ps_ret pe_bl))
    pss_nil)
  (pss_cons (ps_if (PW.pt (pw_and (pt_cmpR (k_neD K rfl hr.units) (pv 2) (pe_lst pa_nil) (nomark _)) (pw_and1 (pt_cmpR op_notN (pe_call (G_leads_to (P := P) T) (hr.mono (by decide)) (by rfl) T.g_leads_to T.F_leads_to.kp T.b_leads_to .nil passL (pa_cons (pe_make T.mk_Guesser (G_Guesser___init__ (P := P) T) (hr.mono (by decide)) (by rfl) T.gc_Guesser T.b_Guesser___init__ .nil pass0 (pa_cons (pe_callTy (k_listOf K rfl) (by rfl) T.n_list (by decide +kernel) (pa_cons (pv 3) pa_nil)) (pa_cons pe_int pa_nil))) (pa_cons (pe_make T.mk_Guesser (G_Guesser___init__ (P := P) T) (hr.mono (by decide)) (by rfl) T.gc_Guesser T.b_Guesser___init__ .nil pass0 (pa_cons (pe_callTy (k_listOf K rfl) (by rfl) T.n_list (by decide +kernel) (pa_cons (pv 1) pa_nil)) (pa_cons pe_int pa_nil))) pa_nil))) pe_non (nomark _)))))
    (pss_one (ps_ret pe_bl))
    pss_nil)
  (pss_cons (ps_set (i := 4) sc_law_leads_right.nd rfl (by first | exact Or.inl rfl | exact Or.inr rfl) (pe_callTy (k_listOf K rfl) (by rfl) T.n_list (by decide +kernel) (pa_cons (pv 3) pa_nil)))
  (pss_cons (ps_if (PW.pt (pw_or (pt_cmpR (k_eqD K rfl hr.units) (pv 4) (pe_lst pa_nil) (nomark _)) (pw_or1 (pt_cmpR (k_eqD K rfl hr.units) (pv 1) (pe_lst pa_nil) (nomark _)))))
    (pss_one (ps_ret pe_bl))
    pss_nil)
  (pss_cons (ps_set (i := 5) sc_law_leads_right.nd rfl (by first | exact Or.inl rfl | exact Or.inr rfl) (pe_call (G_law_random (P := P) T) (hr.mono (by decide)) (by rfl) T.g_law_random T.F_law_random.kp T.b_law_random .nil pass0 (pa_cons (pv 0) (pa_cons (pe_callB (k_len K rfl) (by rfl) T.n_len (by decide +kernel) (pa_cons (pv 4) pa_nil)) pa_nil))))
  (pss_cons (ps_asg (pe_op op_add (pe_ix (k_ixL K rfl) (pv 4) (pv 5) (fun _ _ => rfl)) (pe_ifExp (pt_cmpR op_lt (pe_ix (k_ixL K rfl) (pv 4) (pv 5) (fun _ _ => rfl)) (pe_op op_powW pe_int pe_int) (nomark _)) pe_int (pe_un un_neg pe_int))) (pg_sub (pv 4) (pv 5) set_list))
  (pss_cons (ps_set (i := 6) sc_law_leads_right.nd rfl (by first | exact Or.inl rfl | exact Or.inr rfl) (pe_call (G_leads_to (P := P) T) (hr.mono (by decide)) (by rfl) T.g_leads_to T.F_leads_to.kp T.b_leads_to .nil passL (pa_cons (pe_make T.mk_Guesser (G_Guesser___init__ (P := P) T) (hr.mono (by decide)) (by rfl) T.gc_Guesser T.b_Guesser___init__ .nil pass0 (pa_cons (pe_callTy (k_listOf K rfl) (by rfl) T.n_list (by decide +kernel) (pa_cons (pv 1) pa_nil)) (pa_cons pe_int pa_nil))) (pa_cons (pe_make T.mk_Guesser (G_Guesser___init__ (P := P) T) (hr.mono (by decide)) (by rfl) T.gc_Guesser T.b_Guesser___init__ .nil pass0 (pa_cons (pv 4) (pa_cons pe_int pa_nil))) pa_nil))))
  (pss_cons (ps_if (PW.pt (pw_and (pt_cmpR op_notN (pv 6) pe_non (nomark _)) (pw_and1 (pt_cmpR (k_neD K rfl hr.units) (pe_call (G_law_product (P := P) T) (hr.mono (by decide)) (by rfl) T.g_law_product T.F_law_product.kp T.b_law_product .nil pass0 (pa_cons (pv 1) (pa_cons (pv 6) pa_nil))) (pv 4) (nomark _)))))
    (pss_one (ps_ret pe_bl))
    pss_nil)
  (pss_cons (ps_if (PW.pt (pw_and (pt_cmpR op_isN (pv 6) pe_non (nomark _)) (pw_and (pt_cmpR op_ge (pv 5) (pe_callB (k_len K rfl) (by rfl) T.n_len (by decide +kernel) (pa_cons (pv 2) pa_nil)) (nomark _)) (pw_and1 (pt_cmpR op_ne (pe_ix (k_ixL K rfl) (pv 1) (pe_un un_neg pe_int) (fun _ _ => rfl)) pe_int (nomark _))))))
    (pss_one (ps_ret pe_bl))
    pss_nil)
  (pss_one (ps_ret (pe_or (pe_cmpR op_notN (pv 6) pe_non (nomark _)) (pe_one (pe_cmpR op_isN (pe_call (G_law_divided (P := P) T) (hr.mono (by decide)) (by rfl) T.g_law_divided T.F_law_divided.kp T.b_law_divided .nil pass0 (pa_cons (pv 1) (pa_cons (pv 4) pa_nil))) pe_non (nomark _)))))))))))))))
    pss_nil)
  (pss_one (ps_ret pe_bl)))), ?_⟩
  have hw := fw.weights
  have l1 := fw.1
  have l2 := ft.1
  refine ⟨_, rfl, _, rfl, a, b, ws, ts, rfl, .inl (.inl ha), .inl (.inl hb), fw.tame, by omega, by omega, fun p H1 np s1 hp => ?_⟩
  have hpl := prodW_len ws ts
  obtain ⟨ms, hms⟩ : ∃ ms, ms = prodW ws ts := ⟨_, rfl⟩
  rw [← hms] at hp hpl
  refine ⟨_, rfl, p, _, rfl, .inl (.inl (.inl hp)), _, _, rfl, rfl, _, rfl, ?_⟩
  rw [List.length_map]
  refine iteDT (by omega) ?_
  refine ⟨_, rfl, p, rfl, ⟨_, .inl (.inl hp)⟩, fun D nD => ?_⟩
  refine lc_mapL (K := K) (xs := ms.map V.int) ((ms.map absI).map V.int) nD (.inl (.inl hp)) (by rw [List.length_map, List.length_map, List.length_map]) (by rw [List.length_map]; exact small1000 (by omega)) (fun x => rfl) ?_ ?_
  · intro i x y H' hx hy s Qt qt
    obtain ⟨m, hm, rfl⟩ := int_at hx
    rw [List.getElem?_map, List.getElem?_map, hm] at hy
    cases hy
    exact ⟨_, rfl, _, rfl, qt _ (Same.refl _)⟩
  intro H2 s2 hD
  refine ⟨(by show 1 ≤ sizeLine; decide), fun z nz => ?_⟩
  obtain ⟨H3, e3, s3, hz⟩ := fresh (.lst [V.int 0]) nz
  rw [e3]
  refine ⟨D, z, _, _, rfl, rfl, s3 _ _ hD, hz, by rw [List.length_map, List.length_map, sizeLine_eq]; show _ + 1 ≤ _; omega, fun e ne => ?_⟩
  obtain ⟨H4, e4, s4, he⟩ := fresh (.lst ((ms.map absI ++ [0]).map V.int)) ne
  rw [show upd H3 e (.lst ((ms.map absI).map V.int ++ [V.int 0])) = H4 by rw [← e4, List.map_append]; rfl]
  refine ⟨e, _, rfl, .inl (.inl he), by rw [List.length_append]; show 0 < _ + 1; omega, fun mx hmx hle => ?_⟩
  refine ⟨_, _, rfl, rfl, ⟨by decide, by decide +kernel⟩, _, _, rfl, rfl, _, rfl, ?_⟩
  have e15 : (2 : Int) ^ (15 : Int).toNat = 32768 := by decide
  have s04 := ((s1.trans s2).trans s3).trans s4
  rcases Classical.em (mx ≤ (2 : Int) ^ (15 : Int).toNat) with c | c
  rotate_left
  · exact iteDF c (q _ (But.of s04) ((hG.same s04).mono (by omega)))
  refine iteDT c ?_
  have hW : Weights ms := ⟨by omega, fun m hm => by
    have := hle (absI m) (List.mem_append_left _ (List.mem_map.mpr ⟨m, hm, rfl⟩))
    unfold absI at this
    split at this <;> omega⟩
  have hp4 := s4 _ _ (s3 _ _ (s2 _ _ hp))
  refine ⟨_, rfl, a, _, rfl, .inl (.inl (.inl (s04 _ _ ha))), fun lA nlA => ?_⟩
  obtain ⟨HA, eA, sA, hlA⟩ := fresh (.lst (ws.map V.int)) nlA
  rw [eA]
  intro xA dxA nxA ndxA nexA
  have tA : Same HA (upd (upd HA dxA (.own xA)) xA (.ins T.C_Guesser dxA [])) := fun b o e => by
    rw [upd_ne (ne_of_none e nxA), upd_ne (ne_of_none e ndxA)]
    exact e
  refine ⟨xA, lA, dxA, ws, 0, rfl, upd_same, .inl (tA _ _ hlA), hw, by decide, fun JA kpA GA hnA => ⟨rfl, ?_⟩⟩
  have uA : Same H4 JA := sA.trans (keep_same nxA ndxA kpA)
  clear tA kpA nexA
  refine ⟨_, rfl, p, _, rfl, .inl (.inl (.inl (uA _ _ hp4))), fun lB nlB => ?_⟩
  obtain ⟨HB, eB, sB, hlB⟩ := fresh (.lst (ms.map V.int)) nlB
  rw [eB]
  intro xB dxB nxB ndxB nexB
  have tB : Same HB (upd (upd HB dxB (.own xB)) xB (.ins T.C_Guesser dxB [])) := fun b o e => by
    rw [upd_ne (ne_of_none e nxB), upd_ne (ne_of_none e ndxB)]
    exact e
  refine ⟨xB, lB, dxB, ms, 0, rfl, upd_same, .inl (tB _ _ hlB), hW, by decide, fun JB kpB GB hnB => ⟨rfl, ?_⟩⟩
  have uB : Same JA JB := sB.trans (keep_same nxB ndxB kpB)
  clear tB kpB nexB
  refine ⟨_, _, rfl, .inl ⟨ws, ms, ⟨xA, rfl, GA.same uB⟩, ⟨xB, rfl, GB⟩, fun H' s hL => absurd (hL.2 ts hms) (fun z => nomatch z), fun p5 H5 t np5 s5 hp5 hL => ?_⟩⟩
  have et := hL.2 ts hms
  cases et
  have s45 := (uA.trans uB).trans s5
  have s05 := s04.trans s45
  refine ⟨_, rfl, ne_lst (.inl (.inl hp5)) (.inl (.inl (s05 _ _ hb))) ⟨_, rfl, iteF ?_⟩⟩
  have hp5' := s45 _ _ hp4
  refine ⟨_, rfl, Nat.zero_le _, fun em nem => ?_⟩
  obtain ⟨H6, e6, s6, hem⟩ := fresh (.lst ([] : List V)) nem
  rw [e6]
  have s06 := s05.trans s6
  refine neD_lst (ms := []) (.inl (.inl (s06 _ _ hb))) (.inl (.inl hem)) ⟨_, rfl, ?_⟩
  have hp6 := s6 _ _ hp5'
  by_cases cT : ts = []
  · rw [decide_eq_true cT]
    refine iteF ?_
    have s07 := s06
    have hp7 := hp6
    generalize H6 = H7 at *
    refine ⟨_, rfl, p, _, rfl, .inl (.inl (.inl hp7)), fun bt nbt => ?_⟩
    obtain ⟨H8, e8, s8, hbt⟩ := fresh (.lst (ms.map V.int)) nbt
    rw [e8]
    have s08 := s07.trans s8
    refine ⟨_, rfl, Nat.zero_le _, fun em2 nem2 => ?_⟩
    obtain ⟨H9, e9, s9, hem2⟩ := fresh (.lst ([] : List V)) nem2
    rw [e9]
    have s09 := s08.trans s9
    refine eqD_lst (ms := []) (.inl (.inl (s9 _ _ hbt))) (.inl (.inl hem2)) ⟨_, rfl, ?_⟩
    by_cases cM : ms = []
    · rw [decide_eq_true cM]
      exact iteT (q _ (But.of s09) ((hG.same s09).mono (by omega)))
    rw [decide_eq_false cM]
    refine iteF ⟨_, rfl, Nat.zero_le _, fun em3 nem3 => ?_⟩
    obtain ⟨H10, e10, s10, hem3⟩ := fresh (.lst ([] : List V)) nem3
    rw [e10]
    have s010 := s09.trans s10
    refine eqD_lst (ms := []) (.inl (.inl (s010 _ _ ha))) (.inl (.inl hem3)) ⟨_, rfl, ?_⟩
    by_cases cW : ws = []
    · rw [decide_eq_true cW]
      exact iteT (q _ (But.of s010) ((hG.same s010).mono (by omega)))
    rw [decide_eq_false cW]
    refine iteF ?_
    have hbt10 := s10 _ _ (s9 _ _ hbt)
    have g10 := hG.same s010
    have hml : 0 < ms.length := List.length_pos_iff.mpr cM
    refine ⟨_, rfl, _, rfl, bt, _, rfl, .inl (.inl (.inl hbt10)), g, _, _, rfl, g10, by omega, by rw [List.length_map]; omega, small_2900 (by rw [List.length_map]; omega), fun r H11 r0 r1 g11 b11 => ?_⟩
    obtain ⟨k, rfl⟩ : ∃ k : Nat, r = (k : Int) := ⟨r.toNat, by omega⟩
    rw [List.length_map] at r1
    have hk : k < ms.length := by omega
    have btg : bt ≠ g := (hG.same s07).ne nbt
    have hbt11 := b11 _ _ btg hbt10
    have nHbt : H bt = none := s07.free nbt
    refine ⟨_, rfl, _, rfl, bt, _, _, _, rfl, rfl, .inl (.inl hbt11), at_ints hk, _, rfl, _, rfl, bt, _, _, _, rfl, rfl, .inl (.inl hbt11), at_ints hk, _, _, rfl, rfl, ⟨by decide, by decide +kernel⟩, _, _, rfl, rfl, _, rfl, ?_⟩
    refine join_te (fun v H' => (v = .int 1 ∨ v = .int (-1)) ∧ H' = H11 ∧ (v = .int 1 → ms.getD k 0 < 32768) ∧ (v = .int (-1) → ¬ ms.getD k 0 < 32768)) (fun c R' kk => kk _ _ ⟨.inl rfl, rfl, fun _ => by rw [← e15]; exact of_decide_eq_true c, fun z => nomatch z⟩) (fun c R' kk => ⟨_, rfl, kk _ _ ⟨.inr rfl, rfl, fun z => (nomatch z), fun _ => by rw [← e15]; exact of_decide_eq_false c⟩⟩) ?_
    rintro v H11' ⟨hv, rfl, hv2, hv3⟩
    obtain ⟨dl, rfl, hdl⟩ : ∃ dl : Int, v = .int dl ∧ -32768 ≤ ms.getD k 0 + dl ∧ ms.getD k 0 + dl ≤ 32768 := by
      have hb := hW.2 (ms.getD k 0) (by rw [List.getD_eq_getElem?_getD, List.getElem?_eq_getElem hk]; exact List.getElem_mem hk)
      rcases hv with rfl | rfl
      · have := hv2 rfl
        exact ⟨1, rfl, by omega, by omega⟩
      · have := hv3 rfl
        exact ⟨-1, rfl, by omega, by omega⟩
    refine ⟨_, _, rfl, rfl, _, rfl, _, rfl, bt, _, _, k, rfl, rfl, hbt11, ix_ints hk, ?_⟩
    rw [map_set]
    obtain ⟨bs, hbs⟩ : ∃ bs, bs = ms.set k (ms.getD k 0 + dl) := ⟨_, rfl⟩
    rw [← hbs]
    have hbsl : bs.length = ms.length := by rw [hbs, List.length_set]
    have hWb : Weights bs := ⟨by omega, fun m hm => by
      rw [hbs] at hm
      rcases List.mem_or_eq_of_mem_set hm with h | h
      · exact hW.2 m h
      · rw [h]; exact ⟨hdl.1, hdl.2⟩⟩
    obtain ⟨H12, e12⟩ : ∃ X, upd H11' bt (.lst (bs.map V.int)) = X := ⟨_, rfl⟩
    rw [e12]
    have hb12 : H12 bt = some (.lst (bs.map V.int)) := by rw [← e12, upd_same]
    have b012 : But g H H12 := fun c o nc z => by
      rw [← e12, upd_ne (ne_of_none z nHbt)]
      exact b11 _ _ nc (s010 _ _ z)
    have g12 : GenAt H12 g (n + 10 ^ 5) := by
      obtain ⟨u1, u2, u3, e, r⟩ := g11
      exact ⟨u1, u2, u3, by rw [← e12, upd_ne btg.symm]; exact e, r.1, by have := r.2; omega⟩
    have ha12 := b012 _ _ ag ha
    have hb2 := b012 _ _ bg hb
    refine ⟨_, rfl, a, _, rfl, .inl (.inl (.inl ha12)), fun lE nlE => ?_⟩
    obtain ⟨HE, eE, sE, hlE⟩ := fresh (.lst (ws.map V.int)) nlE
    rw [eE]
    intro xE dxE nxE ndxE nexE
    have tE : Same HE (upd (upd HE dxE (.own xE)) xE (.ins T.C_Guesser dxE [])) := fun b o e => by
      rw [upd_ne (ne_of_none e nxE), upd_ne (ne_of_none e ndxE)]
      exact e
    refine ⟨xE, lE, dxE, ws, 0, rfl, upd_same, .inl (tE _ _ hlE), hw, by decide, fun JE kpE GE hnE => ⟨rfl, ?_⟩⟩
    have uE : Same H12 JE := sE.trans (keep_same nxE ndxE kpE)
    clear tE kpE nexE
    refine ⟨_, rfl, ?_⟩
    intro xF dxF nxF ndxF nexF
    have tF : Same JE (upd (upd JE dxF (.own xF)) xF (.ins T.C_Guesser dxF [])) := fun b o e => by
      rw [upd_ne (ne_of_none e nxF), upd_ne (ne_of_none e ndxF)]
      exact e
    refine ⟨xF, bt, dxF, bs, 0, rfl, upd_same, .inl (tF _ _ (uE _ _ hb12)), hWb, by decide, fun JF kpF GF _ => ⟨rfl, ?_⟩⟩
    have uF : Same JE JF := keep_same nxF ndxF kpF
    clear tF kpF nexF
    refine ⟨_, _, rfl, .inl ⟨ws, bs, ⟨xE, rfl, GE.same uF⟩, ⟨xF, rfl, GF⟩, fun H13 s13 hL3 => ?_, fun p13 H13 t3 np13 s13 hp13 hL3 => ?_⟩⟩
    · have s1213 := (uE.trans uF).trans s13
      have ha13 := s1213 _ _ ha12
      have hb13 := s1213 _ _ hb2
      have hbt13 := s1213 _ _ hb12
      refine ⟨_, rfl, rfl, _, rfl, iteNF rfl ?_⟩
      refine ⟨_, rfl, rfl, _, rfl, iteDT rfl ?_⟩
      have hwl : 0 < ws.length := List.length_pos_iff.mpr cW
      have hlast : atI (ws.map V.int) (-1) = some (.int (ws.getD (ws.length - 1) 0)) := by
        unfold atI ixN
        rw [if_neg (by decide), if_pos (by rw [List.length_map]; omega), List.length_map]
        show (ws.map V.int)[((-1 : Int) + (ws.length : Int)).toNat]? = _
        rw [show ((-1 : Int) + (ws.length : Int)).toNat = ws.length - 1 by omega, List.getElem?_map, List.getElem?_eq_getElem (show ws.length - 1 < ws.length by omega), List.getD_eq_getElem?_getD, List.getElem?_eq_getElem (show ws.length - 1 < ws.length by omega)]
        rfl
      have hend : ∀ H', Same H13 H' → Q (.bl true) H' := fun H' s => q _ (b012.same (s1213.trans s)) ((g12.same s1213).same s)
      refine ⟨_, rfl, _, rfl, b, _, rfl, .inl (.inl (.inl hb13)), _, _, rfl, rfl, _, rfl, ?_⟩
      rw [List.length_map]
      by_cases cK : ts.length ≤ k
      · refine iteDT (by omega) ?_
        refine ⟨_, rfl, _, rfl, a, _, _, _, rfl, rfl, .inl (.inl ha13), hlast, rfl, _, rfl, ?_⟩
        by_cases c0 : ws.getD (ws.length - 1) 0 = 0
        · refine iteENF c0 ?_
          refine ⟨_, rfl, rfl, _, rfl, iteNF rfl ?_⟩
          refine ⟨_, rfl, _, rfl, a, bt, ws, bs, rfl, .inl (.inl ha13), .inl (.inl hbt13), fw, by omega, fun H' s => ⟨rfl, hend H' s⟩, fun p14 H14 t4 np14 s14 hp14 h4 => absurd (hL3.2 t4 h4.symm) (fun z => nomatch z)⟩
        · exact iteENT c0 (hend _ (Same.refl _))
      · refine iteDF (by omega) ?_
        refine ⟨_, rfl, rfl, _, rfl, iteNF rfl ?_⟩
        refine ⟨_, rfl, _, rfl, a, bt, ws, bs, rfl, .inl (.inl ha13), .inl (.inl hbt13), fw, by omega, fun H' s => ⟨rfl, hend H' s⟩, fun p14 H14 t4 np14 s14 hp14 h4 => absurd (hL3.2 t4 h4.symm) (fun z => nomatch z)⟩
    · have s1213 := (uE.trans uF).trans s13
      have ha13 := s1213 _ _ ha12
      have hbt13 := s1213 _ _ hb12
      have h3 := hL3.1 t3 rfl
      have h3l := congrArg List.length h3
      rw [prodW_len] at h3l
      refine ⟨_, rfl, rfl, _, rfl, iteNT (fun z => nomatch z) ?_⟩
      refine ⟨_, rfl, _, rfl, a, p13, ws, t3, rfl, .inl (.inl ha13), .inl (.inl hp13), fw.tame, by omega, by omega, fun p14 H14 np14 s14 hp14 => ?_⟩
      rw [h3] at hp14
      refine ⟨_, rfl, ne_lst (.inl (.inl hp14)) (.inl (.inl (s14 _ _ hbt13))) ⟨_, rfl, iteF ?_⟩⟩
      refine ⟨_, rfl, rfl, _, rfl, iteDF (fun z => nomatch z) ?_⟩
      refine ⟨_, rfl, rfl, _, rfl, iteNT (fun z => nomatch z) ?_⟩
      exact q _ (b012.same (s1213.trans s14)) ((g12.same s1213).same s14)
  · rw [decide_eq_false cT]
    refine iteT ?_
    refine ⟨_, rfl, p, _, rfl, .inl (.inl (.inl hp6)), fun lC nlC => ?_⟩
    obtain ⟨HC, eC, sC, hlC⟩ := fresh (.lst (ms.map V.int)) nlC
    rw [eC]
    intro xC dxC nxC ndxC nexC
    have tC : Same HC (upd (upd HC dxC (.own xC)) xC (.ins T.C_Guesser dxC [])) := fun b o e => by
      rw [upd_ne (ne_of_none e nxC), upd_ne (ne_of_none e ndxC)]
      exact e
    refine ⟨xC, lC, dxC, ms, 0, rfl, upd_same, .inl (tC _ _ hlC), hW, by decide, fun JC kpC GC hnC => ⟨rfl, ?_⟩⟩
    have uC : Same H6 JC := sC.trans (keep_same nxC ndxC kpC)
    clear tC kpC nexC
    refine ⟨_, rfl, a, _, rfl, .inl (.inl (.inl (uC _ _ (s06 _ _ ha)))), fun lD nlD => ?_⟩
    obtain ⟨HD, eD, sD, hlD⟩ := fresh (.lst (ws.map V.int)) nlD
    rw [eD]
    intro xD dxD nxD ndxD nexD
    have tD : Same HD (upd (upd HD dxD (.own xD)) xD (.ins T.C_Guesser dxD [])) := fun b o e => by
      rw [upd_ne (ne_of_none e nxD), upd_ne (ne_of_none e ndxD)]
      exact e
    refine ⟨xD, lD, dxD, ws, 0, rfl, upd_same, .inl (tD _ _ hlD), hw, by decide, fun JD kpD GD hnD => ⟨rfl, ?_⟩⟩
    have uD : Same JC JD := sD.trans (keep_same nxD ndxD kpD)
    clear tD kpD nexD
    refine ⟨_, _, rfl, .inl ⟨ms, ws, ⟨xC, rfl, GC.same uD⟩, ⟨xD, rfl, GD⟩, fun H7 s7 hL2 => ?_, fun p8 H8 t2 np8 s8 hp8 hL2 => ?_⟩⟩
    rotate_left
    · have := congrArg List.length (hL2.1 t2 rfl)
      rw [prodW_len] at this
      have : ts.length ≠ 0 := fun z => cT (List.length_eq_zero_iff.mp z)
      omega
    refine ⟨rfl, _, rfl, iteF ?_⟩
    have s67 := (uC.trans uD).trans s7
    have s07 := s06.trans s67
    have hp7 := s67 _ _ hp6
    refine ⟨_, rfl, p, _, rfl, .inl (.inl (.inl hp7)), fun bt nbt => ?_⟩
    obtain ⟨H8, e8, s8, hbt⟩ := fresh (.lst (ms.map V.int)) nbt
    rw [e8]
    have s08 := s07.trans s8
    refine ⟨_, rfl, Nat.zero_le _, fun em2 nem2 => ?_⟩
    obtain ⟨H9, e9, s9, hem2⟩ := fresh (.lst ([] : List V)) nem2
    rw [e9]
    have s09 := s08.trans s9
    refine eqD_lst (ms := []) (.inl (.inl (s9 _ _ hbt))) (.inl (.inl hem2)) ⟨_, rfl, ?_⟩
    by_cases cM : ms = []
    · rw [decide_eq_true cM]
      exact iteT (q _ (But.of s09) ((hG.same s09).mono (by omega)))
    rw [decide_eq_false cM]
    refine iteF ⟨_, rfl, Nat.zero_le _, fun em3 nem3 => ?_⟩
    obtain ⟨H10, e10, s10, hem3⟩ := fresh (.lst ([] : List V)) nem3
    rw [e10]
    have s010 := s09.trans s10
    refine eqD_lst (ms := []) (.inl (.inl (s010 _ _ ha))) (.inl (.inl hem3)) ⟨_, rfl, ?_⟩
    by_cases cW : ws = []
    · rw [decide_eq_true cW]
      exact iteT (q _ (But.of s010) ((hG.same s010).mono (by omega)))
    rw [decide_eq_false cW]
    refine iteF ?_
    have hbt10 := s10 _ _ (s9 _ _ hbt)
    have g10 := hG.same s010
    have hml : 0 < ms.length := List.length_pos_iff.mpr cM
    refine ⟨_, rfl, _, rfl, bt, _, rfl, .inl (.inl (.inl hbt10)), g, _, _, rfl, g10, by omega, by rw [List.length_map]; omega, small_2900 (by rw [List.length_map]; omega), fun r H11 r0 r1 g11 b11 => ?_⟩
    obtain ⟨k, rfl⟩ : ∃ k : Nat, r = (k : Int) := ⟨r.toNat, by omega⟩
    rw [List.length_map] at r1
    have hk : k < ms.length := by omega
    have btg : bt ≠ g := (hG.same s07).ne nbt
    have hbt11 := b11 _ _ btg hbt10
    have nHbt : H bt = none := s07.free nbt
    refine ⟨_, rfl, _, rfl, bt, _, _, _, rfl, rfl, .inl (.inl hbt11), at_ints hk, _, rfl, _, rfl, bt, _, _, _, rfl, rfl, .inl (.inl hbt11), at_ints hk, _, _, rfl, rfl, ⟨by decide, by decide +kernel⟩, _, _, rfl, rfl, _, rfl, ?_⟩
    refine join_te (fun v H' => (v = .int 1 ∨ v = .int (-1)) ∧ H' = H11 ∧ (v = .int 1 → ms.getD k 0 < 32768) ∧ (v = .int (-1) → ¬ ms.getD k 0 < 32768)) (fun c R' kk => kk _ _ ⟨.inl rfl, rfl, fun _ => by rw [← e15]; exact of_decide_eq_true c, fun z => nomatch z⟩) (fun c R' kk => ⟨_, rfl, kk _ _ ⟨.inr rfl, rfl, fun z => (nomatch z), fun _ => by rw [← e15]; exact of_decide_eq_false c⟩⟩) ?_
    rintro v H11' ⟨hv, rfl, hv2, hv3⟩
    obtain ⟨dl, rfl, hdl⟩ : ∃ dl : Int, v = .int dl ∧ -32768 ≤ ms.getD k 0 + dl ∧ ms.getD k 0 + dl ≤ 32768 := by
      have hb := hW.2 (ms.getD k 0) (by rw [List.getD_eq_getElem?_getD, List.getElem?_eq_getElem hk]; exact List.getElem_mem hk)
      rcases hv with rfl | rfl
      · have := hv2 rfl
        exact ⟨1, rfl, by omega, by omega⟩
      · have := hv3 rfl
        exact ⟨-1, rfl, by omega, by omega⟩
    refine ⟨_, _, rfl, rfl, _, rfl, _, rfl, bt, _, _, k, rfl, rfl, hbt11, ix_ints hk, ?_⟩
    rw [map_set]
    obtain ⟨bs, hbs⟩ : ∃ bs, bs = ms.set k (ms.getD k 0 + dl) := ⟨_, rfl⟩
    rw [← hbs]
    have hbsl : bs.length = ms.length := by rw [hbs, List.length_set]
    have hWb : Weights bs := ⟨by omega, fun m hm => by
      rw [hbs] at hm
      rcases List.mem_or_eq_of_mem_set hm with h | h
      · exact hW.2 m h
      · rw [h]; exact ⟨hdl.1, hdl.2⟩⟩
    obtain ⟨H12, e12⟩ : ∃ X, upd H11' bt (.lst (bs.map V.int)) = X := ⟨_, rfl⟩
    rw [e12]
    have hb12 : H12 bt = some (.lst (bs.map V.int)) := by rw [← e12, upd_same]
    have b012 : But g H H12 := fun c o nc z => by
      rw [← e12, upd_ne (ne_of_none z nHbt)]
      exact b11 _ _ nc (s010 _ _ z)
    have g12 : GenAt H12 g (n + 10 ^ 5) := by
      obtain ⟨u1, u2, u3, e, r⟩ := g11
      exact ⟨u1, u2, u3, by rw [← e12, upd_ne btg.symm]; exact e, r.1, by have := r.2; omega⟩
    have ha12 := b012 _ _ ag ha
    have hb2 := b012 _ _ bg hb
    refine ⟨_, rfl, a, _, rfl, .inl (.inl (.inl ha12)), fun lE nlE => ?_⟩
    obtain ⟨HE, eE, sE, hlE⟩ := fresh (.lst (ws.map V.int)) nlE
    rw [eE]
    intro xE dxE nxE ndxE nexE
    have tE : Same HE (upd (upd HE dxE (.own xE)) xE (.ins T.C_Guesser dxE [])) := fun b o e => by
      rw [upd_ne (ne_of_none e nxE), upd_ne (ne_of_none e ndxE)]
      exact e
    refine ⟨xE, lE, dxE, ws, 0, rfl, upd_same, .inl (tE _ _ hlE), hw, by decide, fun JE kpE GE hnE => ⟨rfl, ?_⟩⟩
    have uE : Same H12 JE := sE.trans (keep_same nxE ndxE kpE)
    clear tE kpE nexE
    refine ⟨_, rfl, ?_⟩
    intro xF dxF nxF ndxF nexF
    have tF : Same JE (upd (upd JE dxF (.own xF)) xF (.ins T.C_Guesser dxF [])) := fun b o e => by
      rw [upd_ne (ne_of_none e nxF), upd_ne (ne_of_none e ndxF)]
      exact e
    refine ⟨xF, bt, dxF, bs, 0, rfl, upd_same, .inl (tF _ _ (uE _ _ hb12)), hWb, by decide, fun JF kpF GF _ => ⟨rfl, ?_⟩⟩
    have uF : Same JE JF := keep_same nxF ndxF kpF
    clear tF kpF nexF
    refine ⟨_, _, rfl, .inl ⟨ws, bs, ⟨xE, rfl, GE.same uF⟩, ⟨xF, rfl, GF⟩, fun H13 s13 hL3 => ?_, fun p13 H13 t3 np13 s13 hp13 hL3 => ?_⟩⟩
    · have s1213 := (uE.trans uF).trans s13
      have ha13 := s1213 _ _ ha12
      have hb13 := s1213 _ _ hb2
      have hbt13 := s1213 _ _ hb12
      refine ⟨_, rfl, rfl, _, rfl, iteNF rfl ?_⟩
      refine ⟨_, rfl, rfl, _, rfl, iteDT rfl ?_⟩
      have hwl : 0 < ws.length := List.length_pos_iff.mpr cW
      have hlast : atI (ws.map V.int) (-1) = some (.int (ws.getD (ws.length - 1) 0)) := by
        unfold atI ixN
        rw [if_neg (by decide), if_pos (by rw [List.length_map]; omega), List.length_map]
        show (ws.map V.int)[((-1 : Int) + (ws.length : Int)).toNat]? = _
        rw [show ((-1 : Int) + (ws.length : Int)).toNat = ws.length - 1 by omega, List.getElem?_map, List.getElem?_eq_getElem (show ws.length - 1 < ws.length by omega), List.getD_eq_getElem?_getD, List.getElem?_eq_getElem (show ws.length - 1 < ws.length by omega)]
        rfl
      have hend : ∀ H', Same H13 H' → Q (.bl true) H' := fun H' s => q _ (b012.same (s1213.trans s)) ((g12.same s1213).same s)
      refine ⟨_, rfl, _, rfl, b, _, rfl, .inl (.inl (.inl hb13)), _, _, rfl, rfl, _, rfl, ?_⟩
      rw [List.length_map]
      by_cases cK : ts.length ≤ k
      · refine iteDT (by omega) ?_
        refine ⟨_, rfl, _, rfl, a, _, _, _, rfl, rfl, .inl (.inl ha13), hlast, rfl, _, rfl, ?_⟩
        by_cases c0 : ws.getD (ws.length - 1) 0 = 0
        · refine iteENF c0 ?_
          refine ⟨_, rfl, rfl, _, rfl, iteNF rfl ?_⟩
          refine ⟨_, rfl, _, rfl, a, bt, ws, bs, rfl, .inl (.inl ha13), .inl (.inl hbt13), fw, by omega, fun H' s => ⟨rfl, hend H' s⟩, fun p14 H14 t4 np14 s14 hp14 h4 => absurd (hL3.2 t4 h4.symm) (fun z => nomatch z)⟩
        · exact iteENT c0 (hend _ (Same.refl _))
      · refine iteDF (by omega) ?_
        refine ⟨_, rfl, rfl, _, rfl, iteNF rfl ?_⟩
        refine ⟨_, rfl, _, rfl, a, bt, ws, bs, rfl, .inl (.inl ha13), .inl (.inl hbt13), fw, by omega, fun H' s => ⟨rfl, hend H' s⟩, fun p14 H14 t4 np14 s14 hp14 h4 => absurd (hL3.2 t4 h4.symm) (fun z => nomatch z)⟩
    · have s1213 := (uE.trans uF).trans s13
      have ha13 := s1213 _ _ ha12
      have hbt13 := s1213 _ _ hb12
      have h3 := hL3.1 t3 rfl
      have h3l := congrArg List.length h3
      rw [prodW_len] at h3l
      refine ⟨_, rfl, rfl, _, rfl, iteNT (fun z => nomatch z) ?_⟩
      refine ⟨_, rfl, _, rfl, a, p13, ws, t3, rfl, .inl (.inl ha13), .inl (.inl hp13), fw.tame, by omega, by omega, fun p14 H14 np14 s14 hp14 => ?_⟩
      rw [h3] at hp14
      refine ⟨_, rfl, ne_lst (.inl (.inl hp14)) (.inl (.inl (s14 _ _ hbt13))) ⟨_, rfl, iteF ?_⟩⟩
      refine ⟨_, rfl, rfl, _, rfl, iteDF (fun z => nomatch z) ?_⟩
      refine ⟨_, rfl, rfl, _, rfl, iteNT (fun z => nomatch z) ?_⟩
      exact q _ (b012.same (s1213.trans s14)) ((g12.same s1213).same s14)
end
end My

namespace My
open PySem PySem.Spec PyProof.Rows L2 Pre
/-! ### the same rests: the law -/
def Pair (us : List Int) : Prop := us.length ≤ 2 ∧ ∀ x ∈ us, x.natAbs ≤ 100
theorem Pair.weights {w : List Int} (h : Pair w) : Weights w := ⟨by have := h.1; omega, fun n hn => by have := h.2 n hn; omega⟩
theorem joinS {b : Bool} {A : Prop} {R : L2.St → Hp → Prop} {σ : L2.St} {H : Hp} (Pv : L2.St → Hp → Prop) (cont : ∀ σ' H', Pv σ' H' → R σ' H') (h1 : b = true → (∀ σ' H', Pv σ' H' → R σ' H') → A) (h2 : b = false → Pv σ H) : if b = true then A else R σ H := by
  cases b with
  | true => exact h1 rfl cont
  | false => exact cont _ _ (h2 rfl)
local macro_rules | `(tactic| walk_at "go") => `(tactic| repeat (first | (with_reducible first | refine iteT ?_ | refine iteF ?_ | refine iteNtt ?_ | refine iteNff ?_ | refine iteET (by omega) ?_ | refine iteEF (by omega) ?_ | refine iteENT (by omega) ?_ | refine iteENF (by omega) ?_ | refine iteDT (by omega) ?_ | refine iteDF (by omega) ?_ | refine iteNT (by omega) ?_ | refine iteNF (by omega) ?_) | refine ⟨_, rfl, ?_⟩ | refine ⟨_, _, rfl, rfl, ?_⟩ | refine ⟨_, _, rfl, ?_⟩ | refine ⟨rfl, ?_⟩ | refine .inl ⟨_, rfl, ?_⟩ | refine .inr ⟨_, rfl, ?_⟩))
local macro_rules | `(tactic| walk_at "b") => `(tactic| try dsimp (config := { proj := false, iota := false, eta := false, zeta := false }) only)
section
variable {P : Program} {w : World} {K : PySem.W.Frag} {mg : Str → Option Value} {base : Heap} [pf : Sup.PF P fileS]
def sp_law_same_drawn : Sp := fun vs H Q _ => ∃ (g a : Addr) (ws : List Int) (d n : Nat), vs = [.ref g, .ref a, .int d] ∧ GenAt H g n ∧ n ≤ 10 ^ 7 ∧ H a = some (.lst (ws.map V.int)) ∧ a ≠ g ∧ ws.length ≤ 2 ∧ (∀ x ∈ ws, x.natAbs ≤ 16) ∧ 1 ≤ d ∧ d ≤ 2 ∧
  ∀ H' p us, H p = none → But g H H' → GenAt H' g (n + 10000) → H' p = some (.lst (us.map V.int)) → Pair us → Q (.ref p) H'
theorem G_law_same_drawn (T : Top K mg) : FnOk P w K mg base CX0 3 T.f_law_same_drawn T.fd_law_same_drawn ["_law_generator_here", "_law_weights", "_law_depth"] sp_law_same_drawn := by
  refine T.F_law_same_drawn.ok sc_law_same_drawn (fun vs H Q E h => by obtain ⟨g, a, ws, d, n, rfl, _⟩ := h; rfl) (fun cdv A outer s H vs Q E hr h => ?_)
  obtain ⟨g, a, ws, d, n, rfl, hG, hn, ha, ag, hl, hw, d1, d2, q⟩ := h
  refine ⟨_, PSs.nox (pss_cons (ps_set (i := 3) sc_law_same_drawn.nd rfl (by first | exact Or.inl rfl | exact Or.inr rfl) (pe_call (G_law_random (P := P) T) (hr.mono (by decide)) (by rfl) T.g_law_random T.F_law_random.kp T.b_law_random .nil pass0 (pa_cons (pv 0) (pa_cons pe_int pa_nil))))
  (pss_cons (ps_if (pt_cmpR op_eq (pv 3) pe_int (nomark _))
    (pss_one (ps_ret (pe_lc (own := [("_law_number", 8)]) (g := gName 8) (tt := tYes) (by rfl) sc_law_same_drawn.nd (pi_range1 (by rfl) T.n_range (pa_cons (pe_call (G_law_random (P := P) T) (hr.mono (by decide)) (by rfl) T.g_law_random T.F_law_random.kp T.b_law_random .nil pass0 (pa_cons (pv 0) (pa_cons pe_int pa_nil))) pa_nil)) (blkOk_by (own := [("_law_number", 8)]) (N := N_law_same_drawn) (sc := defScope s_law_same_drawn) (by decide +kernel)) (fun _ _ _ _ _ => (pg_name (i := 8) sc_law_same_drawn.nd rfl (by first | exact Or.inl rfl | exact Or.inr rfl))) (fun _ _ _ _ _ => pts_nil) (fun _ _ _ _ _ => (pe_op op_sub (pe_call (G_law_random (P := P) T) (hr.mono (by decide)) (by rfl) T.g_law_random T.F_law_random.kp T.b_law_random .nil pass0 (pa_cons (pv 0) (pa_cons pe_int pa_nil))) pe_int)))))
    pss_nil)
  (pss_cons (ps_set (i := 4) sc_law_same_drawn.nd rfl (by first | exact Or.inl rfl | exact Or.inr rfl) (pe_op op_shl pe_int (pv 2)))
  (pss_cons (ps_setLc (i := 5) (own := [("_law_weight", 7)]) (g := gName 7) (tt := tYes) (by rfl) sc_law_same_drawn.nd rfl rfl (sw_true rfl rfl rfl (by decide +kernel)) (k_piL K rfl (pv 1)) (blkOk_by (own := [("_law_weight", 7)]) (N := N_law_same_drawn) (sc := defScope s_law_same_drawn) (by decide +kernel)) (fun _ _ _ _ _ => (pg_name (i := 7) sc_law_same_drawn.nd rfl (by first | exact Or.inl rfl | exact Or.inr rfl))) (fun _ _ _ _ _ => pts_nil) (fun _ _ _ _ _ => (pe_op op_add (pv 7) (pe_op op_mul (pv 4) (pe_op op_sub (pe_call (G_law_random (P := P) T) (hr.mono (by decide)) (by rfl) T.g_law_random T.F_law_random.kp T.b_law_random .nil pass0 (pa_cons (pv 0) (pa_cons pe_int pa_nil))) pe_int)))))
  (pss_cons (ps_if (PW.pt (pw_and (pt_cmpR op_eq (pv 3) pe_int (nomark _)) (pw_and1 (pt_cmpR (k_neD K rfl hr.units) (pv 5) (pe_lst pa_nil) (nomark _)))))
    (pss_cons (ps_set (i := 6) sc_law_same_drawn.nd rfl (by first | exact Or.inl rfl | exact Or.inr rfl) (pe_call (G_law_random (P := P) T) (hr.mono (by decide)) (by rfl) T.g_law_random T.F_law_random.kp T.b_law_random .nil pass0 (pa_cons (pv 0) (pa_cons (pe_callB (k_len K rfl) (by rfl) T.n_len (by decide +kernel) (pa_cons (pv 5) pa_nil)) pa_nil))))
  (pss_one (ps_asg (pe_op op_add (pe_ix (k_ixL K rfl) (pv 5) (pv 6) (fun _ _ => rfl)) pe_int) (pg_sub (pv 5) (pv 6) set_list))))
    pss_nil)
  (pss_cons (ps_if (pt_cmpR op_eq (pv 3) pe_int (nomark _))
    (pss_one (ps_ret (pe_lc (own := [("_law_number", 8)]) (g := gName 8) (tt := tYes) (by rfl) sc_law_same_drawn.nd (pi_range1 (by rfl) T.n_range (pa_cons (pe_call (G_law_random (P := P) T) (hr.mono (by decide)) (by rfl) T.g_law_random T.F_law_random.kp T.b_law_random .nil pass0 (pa_cons (pv 0) (pa_cons pe_int pa_nil))) pa_nil)) (blkOk_by (own := [("_law_number", 8)]) (N := N_law_same_drawn) (sc := defScope s_law_same_drawn) (by decide +kernel)) (fun _ _ _ _ _ => (pg_name (i := 8) sc_law_same_drawn.nd rfl (by first | exact Or.inl rfl | exact Or.inr rfl))) (fun _ _ _ _ _ => pts_nil) (fun _ _ _ _ _ => (pe_op op_mul (pv 4) (pe_op op_sub (pe_call (G_law_random (P := P) T) (hr.mono (by decide)) (by rfl) T.g_law_random T.F_law_random.kp T.b_law_random .nil pass0 (pa_cons (pv 0) (pa_cons pe_int pa_nil))) pe_int))))))
    pss_nil)
  (pss_one (ps_ret (pv 5))))))))), ?_⟩
  have hd : (2 : Int) ^ d ≤ 2 ^ 2 := pow2_le d2
  have hd0 := pow_pos' d
  refine ⟨_, rfl, g, _, _, rfl, hG, by omega, by decide, small_2900 (by decide), fun kd H1 k0 k1 g1 b1 => ?_⟩
  refine ⟨_, rfl, rfl, _, rfl, ?_⟩
  by_cases c : kd = 0
  · refine iteET c ?_
    refine ⟨_, rfl, g, _, _, rfl, g1, by omega, by decide, small_2900 (by decide), fun r H2 r0 r1 g2 b2 => ?_⟩
    obtain ⟨m, rfl⟩ : ∃ m : Nat, r = (m : Int) := ⟨r.toNat, by omega⟩
    refine ⟨_, rfl, by omega, by omega, fun D nD => ?_⟩
    rw [Int.toNat_natCast]
    refine lc_drawR (lo := 0) (n := m) g _ 100 (fun y => y.natAbs ≤ 100) nD g2 (small1000 (by omega)) (fun x => rfl) ?_ ?_
    · intro i H' hi b gi Qt qt
      refine ⟨_, rfl, g, _, _, rfl, gi, by omega, by decide, small_2900 (by decide), fun x H3 x0 x1 g3 b3 => ?_⟩
      exact ⟨_, _, rfl, rfl, qt _ _ (by omega) b3 (g3.mono (by omega))⟩
    · intro H4 ys b4 g4 hD hyl hP
      exact q _ D ys ((b1.trans b2).free (g2.ne nD) nD) ((b1.trans b2).trans b4) (g4.mono (by omega)) hD ⟨by omega, hP⟩
  refine iteEF c ?_
  refine ⟨_, rfl, _, _, rfl, rfl, ⟨by omega, by omega, by decide⟩, ?_⟩
  walk_at "b"
  rw [Int.one_mul, Int.toNat_natCast]
  have ha1 := b1 _ _ ag ha
  refine ⟨_, rfl, a, rfl, ⟨_, .inl (.inl ha1)⟩, fun D nD => ?_⟩
  have Dg : D ≠ g := g1.ne nD
  refine lc_drawL (K := K) (xs := ws) g _ 100 (fun y => y.natAbs ≤ 20) nD g1 ha1 ag (small1000 (by omega)) (fun x => rfl) ?_ ?_
  · intro i x H' hx b gi Qt qt
    have hxw := hw x (List.mem_of_getElem? hx)
    have hi2 := (List.getElem?_eq_some_iff.mp hx).1
    refine ⟨_, rfl, _, rfl, _, rfl, g, _, _, rfl, gi, by omega, by decide, small_2900 (by decide), fun y H3 y0 y1 g3 b3 => ?_⟩
    refine ⟨_, _, rfl, rfl, _, _, rfl, rfl, .inl ⟨by omega, by omega⟩, _, _, rfl, rfl, ?_⟩
    refine qt _ _ ?_ b3 (g3.mono (by omega))
    have : y = 0 ∨ y = 1 ∨ y = 2 := by omega
    rcases this with rfl | rfl | rfl
    · rw [show ((0 : Int) - 1) = -1 by omega, Int.mul_neg, Int.mul_one]; omega
    · rw [show ((1 : Int) - 1) = 0 by omega, Int.mul_zero]; omega
    · rw [show ((2 : Int) - 1) = 1 by omega, Int.mul_one]; omega
  intro H4 ys b4 g4 hD hyl hP
  have b14 := b1.trans b4
  have nHD : H D = none := b1.free Dg nD
  refine ⟨_, rfl, rfl, _, rfl, ?_⟩
  by_cases c1 : kd = 1
  · refine iteET c1 ⟨_, rfl, Nat.zero_le _, fun em nem => ?_⟩
    obtain ⟨H5, e5, s5, hem⟩ := fresh (.lst ([] : List V)) nem
    rw [e5]
    have hD5 := s5 _ _ hD
    refine neD_lst (ms := []) (.inl (.inl hD5)) (.inl (.inl hem)) ⟨_, rfl, ?_⟩
    by_cases cY : ys = []
    · rw [decide_eq_true cY]
      refine iteF ⟨_, rfl, rfl, _, rfl, iteEF (by omega) ⟨_, rfl, ?_⟩⟩
      exact q _ D ys nHD (b14.same s5) ((g4.same s5).mono (by omega)) hD5 ⟨by omega, fun x hx => by have := hP x hx; omega⟩
    rw [decide_eq_false cY]
    have hyp : 0 < ys.length := List.length_pos_iff.mpr cY
    refine iteT ⟨_, rfl, _, rfl, D, _, rfl, .inl (.inl (.inl hD5)), g, _, _, rfl, g4.same s5, by omega, by rw [List.length_map]; omega, small_2900 (by rw [List.length_map]; omega), fun r H6 r0 r1 g6 b6 => ?_⟩
    obtain ⟨k, rfl⟩ : ∃ k : Nat, r = (k : Int) := ⟨r.toNat, by omega⟩
    rw [List.length_map] at r1
    have hk : k < ys.length := by omega
    have hD6 := b6 _ _ Dg hD5
    refine ⟨_, rfl, _, rfl, D, _, _, _, rfl, rfl, .inl (.inl hD6), at_ints hk, _, _, rfl, rfl, _, rfl, _, rfl, D, _, _, k, rfl, rfl, hD6, ix_ints hk, ?_⟩
    rw [map_set]
    refine ⟨_, rfl, rfl, _, rfl, iteEF (by omega) ⟨_, rfl, ?_⟩⟩
    refine q _ D (ys.set k (ys.getD k 0 + 1)) nHD (fun c o nc z => ?_) ?_ upd_same ⟨by rw [List.length_set]; omega, fun x hx => ?_⟩
    · rw [upd_ne (ne_of_none z nHD)]
      exact b6 _ _ nc (s5 _ _ (b14 _ _ nc z))
    · obtain ⟨u1, u2, u3, e, r⟩ := g6
      exact ⟨u1, u2, u3, by rw [upd_ne Dg.symm]; exact e, r.1, by have := r.2; omega⟩
    · have hyk := hP (ys.getD k 0) (by rw [List.getD_eq_getElem?_getD, List.getElem?_eq_getElem hk]; exact List.getElem_mem hk)
      rcases List.mem_or_eq_of_mem_set hx with h | h
      · have := hP x h; omega
      · rw [h]; omega
  refine iteEF c1 ⟨_, rfl, rfl, _, rfl, ?_⟩
  by_cases c2 : kd = 2
  · refine iteET c2 ?_
    refine ⟨_, rfl, g, _, _, rfl, g4, by omega, by decide, small_2900 (by decide), fun r H5 r0 r1 g5 b5 => ?_⟩
    obtain ⟨m, rfl⟩ : ∃ m : Nat, r = (m : Int) := ⟨r.toNat, by omega⟩
    refine ⟨_, rfl, by omega, by omega, fun D2 nD2 => ?_⟩
    rw [Int.toNat_natCast]
    refine lc_drawR (lo := 0) (n := m) g _ 100 (fun y => y.natAbs ≤ 100) nD2 g5 (small1000 (by omega)) (fun x => rfl) ?_ ?_
    · intro i H' hi b gi Qt qt
      refine ⟨_, rfl, _, rfl, g, _, _, rfl, gi, by omega, by decide, small_2900 (by decide), fun y H3 y0 y1 g3 b3 => ?_⟩
      refine ⟨_, _, rfl, rfl, _, _, rfl, rfl, .inl ⟨by omega, by omega⟩, ?_⟩
      refine qt _ _ ?_ b3 (g3.mono (by omega))
      have : y = 0 ∨ y = 1 ∨ y = 2 := by omega
      rcases this with rfl | rfl | rfl
      · rw [show ((0 : Int) - 1) = -1 by omega, Int.mul_neg, Int.mul_one]; omega
      · rw [show ((1 : Int) - 1) = 0 by omega, Int.mul_zero]; omega
      · rw [show ((2 : Int) - 1) = 1 by omega, Int.mul_one]; omega
    · intro H6 zs b6 g6 hD2 hzl hPz
      exact q _ D2 zs ((b14.trans b5).free (g5.ne nD2) nD2) ((b14.trans b5).trans b6) (g6.mono (by omega)) hD2 ⟨by omega, hPz⟩
  · refine iteEF c2 ⟨_, rfl, ?_⟩
    exact q _ D ys nHD b14 (g4.mono (by omega)) hD ⟨by omega, fun x hx => by have := hP x hx; omega⟩
end
end My

namespace My
open PySem PySem.Spec PyProof.Rows L2 Pre
/-! ### the same rests of all rows: the law -/
local macro_rules | `(tactic| walk_at "go") => `(tactic| repeat (first | (with_reducible first | refine iteT ?_ | refine iteF ?_ | refine iteNtt ?_ | refine iteNff ?_ | refine iteET (by omega) ?_ | refine iteEF (by omega) ?_ | refine iteENT (by omega) ?_ | refine iteENF (by omega) ?_ | refine iteDT (by omega) ?_ | refine iteDF (by omega) ?_ | refine iteNT (by omega) ?_ | refine iteNF (by omega) ?_) | refine ⟨_, rfl, ?_⟩ | refine ⟨_, _, rfl, rfl, ?_⟩ | refine ⟨_, _, rfl, ?_⟩ | refine ⟨rfl, ?_⟩ | refine .inl ⟨_, rfl, ?_⟩ | refine .inr ⟨_, rfl, ?_⟩))
local macro_rules | `(tactic| walk_at "b") => `(tactic| try dsimp (config := { proj := false, iota := false, eta := false, zeta := false }) only)
section
variable {P : Program} {w : World} {K : PySem.W.Frag} {mg : Str → Option Value} {base : Heap} [pf : Sup.PF P fileS]
def sp_law_same_right : Sp := fun vs H Q _ => ∃ (g : Addr) (n : Nat), vs = [.ref g] ∧ GenAt H g n ∧ n ≤ 10 ^ 6 ∧ ∀ H', But g H H' → GenAt H' g (n + 10 ^ 5) → Q (.bl true) H'
theorem G_law_same_right (T : Top K mg) : FnOk P w K mg base CX0 6 T.f_law_same_right T.fd_law_same_right ["_law_generator_here"] sp_law_same_right := by
  refine T.F_law_same_right.ok sc_law_same_right (fun vs H Q E h => by obtain ⟨g, n, rfl, _⟩ := h; rfl) (fun cdv A outer s H vs Q E hr h => ?_)
  obtain ⟨g, n, rfl, hG, hn, q⟩ := h
  refine ⟨_, PSs.nox (pss_cons (ps_set (i := 1) sc_law_same_right.nd rfl (by first | exact Or.inl rfl | exact Or.inr rfl) (pe_op op_add pe_int (pe_call (G_law_random (P := P) T) (hr.mono (by decide)) (by rfl) T.g_law_random T.F_law_random.kp T.b_law_random .nil pass0 (pa_cons (pv 0) (pa_cons pe_int pa_nil)))))
  (pss_cons (ps_setLc (i := 2) (own := [("_law_number", 10)]) (g := gName 10) (tt := tYes) (by rfl) sc_law_same_right.nd rfl rfl (sw_true rfl rfl rfl (by decide +kernel)) (pi_range1 (by rfl) T.n_range (pa_cons (pe_call (G_law_random (P := P) T) (hr.mono (by decide)) (by rfl) T.g_law_random T.F_law_random.kp T.b_law_random .nil pass0 (pa_cons (pv 0) (pa_cons pe_int pa_nil))) pa_nil)) (blkOk_by (own := [("_law_number", 10)]) (N := N_law_same_right) (sc := defScope s_law_same_right) (by decide +kernel)) (fun _ _ _ _ _ => (pg_name (i := 10) sc_law_same_right.nd rfl (by first | exact Or.inl rfl | exact Or.inr rfl))) (fun _ _ _ _ _ => pts_nil) (fun _ _ _ _ _ => (pe_op op_sub (pe_call (G_law_random (P := P) T) (hr.mono (by decide)) (by rfl) T.g_law_random T.F_law_random.kp T.b_law_random .nil pass0 (pa_cons (pv 0) (pa_cons pe_int pa_nil))) pe_int)))
  (pss_cons (ps_if (pt_cmpR op_eq (pe_call (G_law_random (P := P) T) (hr.mono (by decide)) (by rfl) T.g_law_random T.F_law_random.kp T.b_law_random .nil pass0 (pa_cons (pv 0) (pa_cons pe_int pa_nil))) pe_int (nomark _))
    (pss_one (ps_setLc (i := 2) (own := [("_law_weight", 11)]) (g := gName 11) (tt := tYes) (by rfl) sc_law_same_right.nd rfl rfl (sw_true rfl rfl rfl (by decide +kernel)) (k_piL K rfl (pv 2)) (blkOk_by (own := [("_law_weight", 11)]) (N := N_law_same_right) (sc := defScope s_law_same_right) (by decide +kernel)) (fun _ _ _ _ _ => (pg_name (i := 11) sc_law_same_right.nd rfl (by first | exact Or.inl rfl | exact Or.inr rfl))) (fun _ _ _ _ _ => pts_nil) (fun _ _ _ _ _ => (pe_op op_mul (pv 11) (pe_op op_shl pe_int (pv 1))))))
    pss_nil)
  (pss_cons (ps_par (by rfl) sc_law_same_right.nd (i := 7) (j := 8) rfl rfl (by decide) rfl rfl (pa_cons (pe_call (G_law_same_drawn (P := P) T) (hr.mono (by decide)) (by rfl) T.g_law_same_drawn T.F_law_same_drawn.kp T.b_law_same_drawn .nil pass0 (pa_cons (pv 0) (pa_cons (pv 2) (pa_cons (pv 1) pa_nil)))) (pa_cons pe_bl pa_nil)) (by rfl))
  (pss_cons (ps_for PassesOwn.never rfl (pi_range1 (by rfl) T.n_range (pa_cons pe_int pa_nil)) (pg_name (i := 3) sc_law_same_right.nd rfl (by first | exact Or.inl rfl | exact Or.inr rfl))
    (pss_one (ps_for PassesOwn.never rfl (k_piL K rfl (pe_call (G_law_all_rows (P := P) T) (hr.mono (by decide)) (by rfl) T.g_law_all_rows T.F_law_all_rows.kp T.b_law_all_rows .nil pass0 (pa_cons (pv 1) (pa_cons (pv 3) pa_nil)))) (pg_name (i := 9) sc_law_same_right.nd rfl (by first | exact Or.inl rfl | exact Or.inr rfl))
    (pss_one (ps_if (pt_cmpR (k_neD K rfl hr.units) (pe_call (G_law_rests_of (P := P) T) (hr.mono (by decide)) (by rfl) T.g_law_rests_of T.F_law_rests_of.kp T.b_law_rests_of .nil pass0 (pa_cons (pv 2) (pa_cons pe_int (pa_cons (pv 1) (pa_cons (pv 9) pa_nil))))) (pe_call (G_law_rests_of (P := P) T) (hr.mono (by decide)) (by rfl) T.g_law_rests_of T.F_law_rests_of.kp T.b_law_rests_of .nil pass0 (pa_cons (pv 7) (pa_cons pe_int (pa_cons (pv 1) (pa_cons (pv 9) pa_nil))))) (nomark _))
    (pss_one (ps_set (i := 8) sc_law_same_right.nd rfl (by first | exact Or.inl rfl | exact Or.inr rfl) pe_bl))
    pss_nil)))))
  (pss_cons (ps_set (i := 4) sc_law_same_right.nd rfl (by first | exact Or.inl rfl | exact Or.inr rfl) (pe_lst (pa_cons (pe_make T.mk_Guesser (G_Guesser___init__ (P := P) T) (hr.mono (by decide)) (by rfl) T.gc_Guesser T.b_Guesser___init__ .nil pass0 (pa_cons (pe_callTy (k_listOf K rfl) (by rfl) T.n_list (by decide +kernel) (pa_cons (pv 2) pa_nil)) (pa_cons pe_int pa_nil))) (pa_cons (pe_make T.mk_Guesser (G_Guesser___init__ (P := P) T) (hr.mono (by decide)) (by rfl) T.gc_Guesser T.b_Guesser___init__ .nil pass0 (pa_cons (pe_callTy (k_listOf K rfl) (by rfl) T.n_list (by decide +kernel) (pa_cons (pv 7) pa_nil)) (pa_cons pe_int pa_nil))) pa_nil))))
  (pss_cons (ps_set (i := 5) sc_law_same_right.nd rfl (by first | exact Or.inl rfl | exact Or.inr rfl) (pe_call (G_parting_rests (P := P) T) (hr.mono (by decide)) (by rfl) T.g_parting_rests T.F_parting_rests.kp T.b_parting_rests .nil passL (pa_cons (pe_ix (k_ixL K rfl) (pv 4) pe_int (fun _ _ => rfl)) (pa_cons (pe_ix (k_ixL K rfl) (pv 4) pe_int (fun _ _ => rfl)) (pa_cons (pv 1) pa_nil)))))
  (pss_cons (ps_if (PW.pt (pw_or (pt_cmpR op_ne (pe_call (G_same_rests (P := P) T) (hr.mono (by decide)) (by rfl) T.g_same_rests T.F_same_rests.kp T.b_same_rests .nil passL (pa_cons (pe_ix (k_ixL K rfl) (pv 4) pe_int (fun _ _ => rfl)) (pa_cons (pe_ix (k_ixL K rfl) (pv 4) pe_int (fun _ _ => rfl)) (pa_cons (pv 1) pa_nil)))) (pv 8) (nomark _)) (pw_or1 (pt_cmpR op_ne (pe_cmpR op_isN (pv 5) pe_non (nomark _)) (pv 8) (nomark _)))))
    (pss_one (ps_ret pe_bl))
    pss_nil)
  (pss_cons (ps_if (pt_cmpR op_isN (pv 5) pe_non (nomark _))
    (pss_one (ps_ret pe_bl))
    pss_nil)
  (pss_cons (ps_set (i := 6) sc_law_same_right.nd rfl (by first | exact Or.inl rfl | exact Or.inr rfl) (pe_un un_neg (pe_op op_shl pe_int (pe_op op_sub (pv 1) pe_int))))
  (pss_cons (ps_if (pt_cmpR (k_neD K rfl hr.units) (pe_lc (own := [("_law_sample", 12)]) (g := gName 12) (by rfl) sc_law_same_right.nd (k_piL K rfl (pv 5)) (blkOk_by (own := [("_law_sample", 12)]) (N := N_law_same_right) (sc := defScope s_law_same_right) (by decide +kernel)) (fun _ _ _ _ _ => (pg_name (i := 12) sc_law_same_right.nd rfl (by first | exact Or.inl rfl | exact Or.inr rfl))) (fun _ _ _ _ _ => (pts_one (pt_not (pt_chain op_le op_lt (pv 6) (pv 12) (pe_op op_sub pe_int (pv 6)))))) (fun _ _ _ _ _ => (pv 12))) (pe_lst pa_nil) (nomark _))
    (pss_one (ps_ret pe_bl))
    pss_nil)
  (pss_one (ps_ret (pe_cmpR (k_neD K rfl hr.units) (pe_call (G_law_rests_of (P := P) T) (hr.mono (by decide)) (by rfl) T.g_law_rests_of T.F_law_rests_of.kp T.b_law_rests_of .nil pass0 (pa_cons (pv 2) (pa_cons pe_int (pa_cons (pv 1) (pa_cons (pv 5) pa_nil))))) (pe_call (G_law_rests_of (P := P) T) (hr.mono (by decide)) (by rfl) T.g_law_rests_of T.F_law_rests_of.kp T.b_law_rests_of .nil pass0 (pa_cons (pv 7) (pa_cons pe_int (pa_cons (pv 1) (pa_cons (pv 5) pa_nil))))) (nomark _))))))))))))))), ?_⟩
  refine ⟨_, rfl, g, _, _, rfl, hG, by omega, by decide, small_2900 (by decide), fun r H1 r0 r1 g1 b1 => ?_⟩
  obtain ⟨d, hd, d1, d2⟩ : ∃ d : Nat, 1 + r = (d : Int) ∧ 1 ≤ d ∧ d ≤ 2 := ⟨(1 + r).toNat, by omega, by omega, by omega⟩
  refine ⟨_, _, rfl, rfl, ?_⟩
  walk_at "b"
  rw [hd]
  have hp2 : (2 : Int) ^ d ≤ 2 ^ 2 := pow2_le d2
  have hp0 := pow_pos' d
  refine ⟨_, rfl, g, _, _, rfl, g1, by omega, by decide, small_2900 (by decide), fun r H2 r0 r1 g2 b2 => ?_⟩
  obtain ⟨m, rfl⟩ : ∃ m : Nat, r = (m : Int) := ⟨r.toNat, by omega⟩
  refine ⟨_, rfl, by omega, by omega, fun D nD => ?_⟩
  rw [Int.toNat_natCast]
  refine lc_drawR (lo := 0) (n := m) g _ 100 (fun y => y.natAbs ≤ 4) nD g2 (small1000 (by omega)) (fun x => rfl) ?_ ?_
  · intro i H' hi b gi Qt qt
    refine ⟨_, rfl, g, _, _, rfl, gi, by omega, by decide, small_2900 (by decide), fun x H3 x0 x1 g3 b3 => ?_⟩
    exact ⟨_, _, rfl, rfl, qt _ _ (by omega) b3 (g3.mono (by omega))⟩
  intro H3 ys b3 g3 hD hyl hP
  have Dg : D ≠ g := g2.ne nD
  have b03 := (b1.trans b2).trans b3
  refine ⟨_, rfl, g, _, _, rfl, g3, by omega, by decide, small_2900 (by decide), fun kd H4 k0 k1 g4 b4 => ?_⟩
  refine ⟨rfl, _, rfl, ?_⟩
  have hD4 := b4 _ _ Dg hD
  refine joinS (fun σ H' => ∃ (o : Addr) (ws : List Int), σ = [some (.ref g), some (.int d), some (.ref o), none, none, none, none, none, none, none, none, none, none] ∧ But g H H' ∧ GenAt H' g (n + 2000) ∧ H' o = some (.lst (ws.map V.int)) ∧ o ≠ g ∧ ws.length ≤ 2 ∧ ∀ x ∈ ws, x.natAbs ≤ 16) (fun σ H' hp => ?_) (fun e k => ?_) (fun _ => ⟨D, ys, rfl, b03.trans b4, g4.mono (by omega), hD4, Dg, by omega, fun x hx => by have := hP x hx; omega⟩)
  rotate_left
  · refine ⟨_, rfl, D, rfl, ⟨_, .inl (.inl hD4)⟩, fun D2 nD2 => ?_⟩
    refine lc_mapL (K := K) (xs := ys.map V.int) ((ys.map fun y => y * 2 ^ d).map V.int) nD2 (.inl (.inl hD4)) (by rw [List.length_map, List.length_map, List.length_map]) (by rw [List.length_map]; exact small1000 (by omega)) (fun x => rfl) ?_ ?_
    · intro i x y H' hx hy s Qt qt
      obtain ⟨z, hz, rfl⟩ := int_at hx
      have := hP z (List.mem_of_getElem? hz)
      rw [List.getElem?_map, List.getElem?_map, hz] at hy
      cases hy
      refine ⟨_, rfl, _, rfl, _, _, rfl, rfl, ⟨by omega, by omega, by decide⟩, _, _, rfl, rfl, .inl ⟨by omega, by omega⟩, ?_⟩
      walk_at "b"
      rw [Int.one_mul, Int.toNat_natCast]
      exact qt _ (Same.refl _)
    · intro H5 s5 hD2
      have hdd : (2 : Int) ^ d = 2 ∨ (2 : Int) ^ d = 4 := by
        have : d = 1 ∨ d = 2 := by omega
        rcases this with rfl | rfl
        · exact .inl rfl
        · exact .inr rfl
      refine k _ _ ⟨D2, _, rfl, (b03.trans b4).same s5, (g4.same s5).mono (by omega), hD2, g4.ne nD2, by rw [List.length_map]; omega, fun x hx => ?_⟩
      obtain ⟨y, hy, rfl⟩ := List.mem_map.mp hx
      have := hP y hy
      rcases hdd with e | e <;> rw [e] <;> omega
  obtain ⟨o, ws, rfl, b04, g4', ho, og, hwl, hws⟩ := hp
  clear hD4 hD b4 g4 hP
  generalize H' = H4 at *
  have fW : Weights ws := ⟨by omega, fun x hx => by have := hws x hx; omega⟩
  refine ⟨_, rfl, _, rfl, _, rfl, g, o, ws, d, _, rfl, g4', by omega, ho, og, hwl, hws, d1, d2, fun H5 p us np b5 g5 hp hPr => ?_⟩
  refine ⟨_, _, rfl, ?_⟩
  have fU := hPr.weights
  have hul := hPr.1
  have b05 := b04.trans b5
  have ho5 := b5 _ _ og ho
  have hpg : p ≠ g := g4'.ne np
  refine ⟨_, rfl, by decide, by decide, ?_⟩
  refine for_range (lo := 0) (n := 4) (fun i σ HA => ∃ (v3 v9 : Option V) (dd : Bool), σ = [some (.ref g), some (.int d), some (.ref o), v3, none, none, none, some (.ref p), some (.bl dd), v9, none, none, none] ∧ Same H5 HA ∧ (dd = true → ∀ m, m < i → ∀ r ∈ allRows d m, restsF ws 0 d r = restsF us 0 d r) ∧ (dd = false → ∃ r, restsF ws 0 d r ≠ restsF us 0 d r)) ⟨none, none, true, rfl, Same.refl _, fun _ m hm => absurd hm (Nat.not_lt_zero _), fun z => nomatch z⟩ ?_ ?_
  · rintro i σ HA hi ⟨v3, v9, dd, rfl, sA, hT, hF⟩
    refine ⟨_, rfl, _, rfl, d, i, (by rw [Int.zero_add]; rfl), d1, by omega, by omega, fun HB rp sB hR => ?_⟩
    obtain ⟨as, hrp, hal, hat⟩ := hR
    refine ⟨rp, rfl, ⟨_, .inl (.inl hrp)⟩, for_list (K := K) (a := rp) (xs := as.map V.ref) (fun j σ HC => ∃ (v9 : Option V) (dd : Bool), σ = [some (.ref g), some (.int d), some (.ref o), some (.int (0 + (i : Int))), none, none, none, some (.ref p), some (.bl dd), v9, none, none, none] ∧ Same HB HC ∧ (dd = true → (∀ m, m < i → ∀ r ∈ allRows d m, restsF ws 0 d r = restsF us 0 d r) ∧ ∀ r ∈ (allRows d i).take j, restsF ws 0 d r = restsF us 0 d r) ∧ (dd = false → ∃ r, restsF ws 0 d r ≠ restsF us 0 d r)) ⟨v9, dd, rfl, Same.refl _, fun e => ⟨hT e, fun r hr => by rw [List.take_zero] at hr; cases hr⟩, hF⟩ (fun j σ HC _ ⟨_, _, _, s, _⟩ => .inl (.inl (s _ _ hrp))) ?_ ?_⟩
    · rintro j x σ HC hx ⟨v9, dd, rfl, sC, hT2, hF2⟩
      rw [List.getElem?_map] at hx
      obtain ⟨a, ha, rfl⟩ := Option.map_eq_some_iff.mp hx
      have hj : j < as.length := (List.getElem?_eq_some_iff.mp ha).1
      obtain ⟨r, hr⟩ : ∃ r, (allRows d i)[j]? = some r := ⟨_, List.getElem?_eq_getElem (by omega)⟩
      have hra := sC _ _ (hat j a r ha hr)
      have hrm := (mem_rows.mp (List.mem_of_getElem? hr)).1
      have s5C := (sA.trans sB).trans sC
      refine ⟨_, rfl, _, rfl, _, rfl, o, a, ws, d, r, rfl, .inl (.inl (s5C _ _ ho5)), .inl (.inl hra), fW.tame, by omega, by omega, d1, by omega, fun p6 H6 np6 s6 hp6 => ?_⟩
      refine ⟨_, rfl, _, rfl, _, rfl, p, a, us, d, r, rfl, .inl (.inl (s6 _ _ (s5C _ _ hp))), .inl (.inl (s6 _ _ hra)), fU.tame, by omega, by omega, d1, by omega, fun p7 H7 np7 s7 hp7 => ?_⟩
      have sC7 := (sC.trans s6).trans s7
      refine neD_lst (.inl (.inl (s7 _ _ hp6))) (.inl (.inl hp7)) ⟨_, rfl, ?_⟩
      by_cases c : restsF ws 0 d r = restsF us 0 d r
      · rw [decide_eq_true c]
        refine iteF ⟨_, dd, rfl, sC7, fun e => ⟨(hT2 e).1, fun r' hr' => ?_⟩, hF2⟩
        rw [List.take_add_one, hr] at hr'
        rcases List.mem_append.mp hr' with h | h
        · exact (hT2 e).2 r' h
        · rw [List.mem_singleton.mp h]; exact c
      · rw [decide_eq_false c]
        exact iteT ⟨_, false, rfl, sC7, fun z => (nomatch z), fun _ => ⟨r, c⟩⟩
    · rintro σ HC ⟨v9, dd, rfl, sC, hT2, hF2⟩
      refine ⟨_, _, dd, rfl, (sA.trans sB).trans sC, fun e m hm r hr => ?_, hF2⟩
      by_cases c : m < i
      · exact (hT2 e).1 m c r hr
      · obtain rfl : m = i := by omega
        refine (hT2 e).2 r ?_
        rw [List.take_of_length_le (by rw [List.length_map]; omega)]
        exact hr
  rintro σ HZ ⟨v3, v9, dd, rfl, sZ, hT, hF⟩
  have hoA := sZ _ _ ho5
  have hpA := sZ _ _ hp
  refine ⟨_, rfl, o, _, rfl, .inl (.inl (.inl hoA)), fun lA nlA => ?_⟩
  obtain ⟨HA, eA, sA, hlA⟩ := fresh (.lst (ws.map V.int)) nlA
  rw [eA]
  intro xA dxA nxA ndxA nexA
  have tA : Same HA (upd (upd HA dxA (.own xA)) xA (.ins T.C_Guesser dxA [])) := fun b o e => by
    rw [upd_ne (ne_of_none e nxA), upd_ne (ne_of_none e ndxA)]
    exact e
  refine ⟨xA, lA, dxA, ws, 0, rfl, upd_same, .inl (tA _ _ hlA), fW, by decide, fun JA kpA GA hnA => ⟨rfl, ?_⟩⟩
  have uA : Same HZ JA := sA.trans (keep_same nxA ndxA kpA)
  clear tA kpA nexA
  refine ⟨_, rfl, p, _, rfl, .inl (.inl (.inl (uA _ _ hpA))), fun lB nlB => ?_⟩
  obtain ⟨HB, eB, sB, hlB⟩ := fresh (.lst (us.map V.int)) nlB
  rw [eB]
  intro xB dxB nxB ndxB nexB
  have tB : Same HB (upd (upd HB dxB (.own xB)) xB (.ins T.C_Guesser dxB [])) := fun b o e => by
    rw [upd_ne (ne_of_none e nxB), upd_ne (ne_of_none e ndxB)]
    exact e
  refine ⟨xB, lB, dxB, us, 0, rfl, upd_same, .inl (tB _ _ hlB), fU, by decide, fun JB kpB GB hnB => ⟨rfl, ?_⟩⟩
  have uB : Same JA JB := sB.trans (keep_same nxB ndxB kpB)
  clear tB kpB nexB
  refine ⟨(by show 2 ≤ sizeLine; decide), fun md nmd => ?_⟩
  obtain ⟨H6, e6, s6, hmd⟩ := fresh (.lst [V.ref xA, .ref xB]) nmd
  rw [e6]
  have GA6 := (GA.same uB).same s6
  have GB6 := GB.same s6
  have s56 := ((sZ.trans uA).trans uB).trans s6
  refine ⟨_, rfl, md, _, _, _, rfl, rfl, .inl (.inl hmd), rfl, _, rfl, md, _, _, _, rfl, rfl, .inl (.inl hmd), rfl, _, rfl, _, _, _, rfl, .inl ⟨ws, us, d, ⟨xA, rfl, GA6⟩, ⟨xB, rfl, GB6⟩, rfl, d1, by omega, fun H7 s7 hP1 => ?_, fun pt H7 t npt s7 hpt hP1 => ?_⟩⟩
  · have hdd : dd = true := by
      cases dd with
      | true => rfl
      | false => obtain ⟨r, hr⟩ := hF rfl; exact absurd (hP1 r) hr
    subst hdd
    have hmd7 := s7 _ _ hmd
    refine ⟨_, rfl, md, _, _, _, rfl, rfl, .inl (.inl hmd7), rfl, _, rfl, md, _, _, _, rfl, rfl, .inl (.inl hmd7), rfl, _, rfl, _, _, _, rfl, .inl ⟨ws, us, d, ⟨xA, rfl, GA6.same s7⟩, ⟨xB, rfl, GB6.same s7⟩, rfl, d1, by omega, fun H8 r8 s8 hP2 => ?_⟩⟩
    have hr8 : r8.isNone = true := by
      cases r8 with
      | none => rfl
      | some t => exact absurd (hP1 t) hP2.2.2
    rw [hr8]
    refine ⟨_, rfl, rfl, _, rfl, iteNF rfl ?_⟩
    refine ⟨_, rfl, rfl, _, rfl, rfl, _, rfl, iteNF rfl ?_⟩
    refine ⟨_, rfl, rfl, _, rfl, iteDT rfl ?_⟩
    exact q _ (b05.same ((s56.trans s7).trans s8)) ((g5.same ((s56.trans s7).trans s8)).mono (by omega))
  · have hdd : dd = false := by
      cases dd with
      | false => rfl
      | true => exact absurd (hT rfl t.length (by have := hP1.2.1; omega) t (mem_rows.mpr ⟨rfl, hP1.1⟩)) hP1.2.2
    subst hdd
    have hmd7 := s7 _ _ hmd
    refine ⟨_, rfl, md, _, _, _, rfl, rfl, .inl (.inl hmd7), rfl, _, rfl, md, _, _, _, rfl, rfl, .inl (.inl hmd7), rfl, _, rfl, _, _, _, rfl, .inl ⟨ws, us, d, ⟨xA, rfl, GA6.same s7⟩, ⟨xB, rfl, GB6.same s7⟩, rfl, d1, by omega, fun H8 r8 s8 hP2 => ?_⟩⟩
    have hr8 : r8.isNone = false := by
      cases r8 with
      | some t => rfl
      | none => exact absurd (hP2 t) hP1.2.2
    rw [hr8]
    have hpt8 := s8 _ _ hpt
    have s58 := (s56.trans s7).trans s8
    refine ⟨_, rfl, rfl, _, rfl, iteNF rfl ?_⟩
    refine ⟨_, rfl, rfl, _, rfl, rfl, _, rfl, iteNF (by rw [decide_eq_false (fun z => nomatch z)]) ?_⟩
    refine ⟨_, rfl, rfl, _, rfl, iteDF (fun z => nomatch z) ?_⟩
    have hq1 : (2 : Int) ^ (d - 1) ≤ 2 ^ 1 := pow2_le (by omega)
    have hq0 := pow_pos' (d - 1)
    refine ⟨_, rfl, _, _, rfl, rfl, _, _, rfl, rfl, ⟨by omega, by omega, by decide⟩, _, rfl, ?_⟩
    walk_at "b"
    rw [Int.one_mul, show ((d : Int) - 1).toNat = d - 1 by omega]
    have htl : t.length ≤ 3 := by have := hP1.2.1; omega
    refine ⟨_, rfl, pt, rfl, ⟨_, .inl (.inl hpt8)⟩, fun E1 nE1 => ?_⟩
    refine lc_selL (K := K) (xs := t.map V.int) (t.map fun _ => none) nE1 (.inl (.inl hpt8)) (by rw [List.length_map, List.length_map]) (by rw [List.length_map]; exact small1000 (by omega)) (fun x => rfl) ?_ ?_
    · intro i x o' H' hx ho' s Qt qt
      obtain ⟨z, hz, rfl⟩ := int_at hx
      have hzr := hP1.1 z (List.mem_of_getElem? hz)
      rw [List.getElem?_map, hz] at ho'
      cases ho'
      refine ⟨_, rfl, _, rfl, _, _, rfl, rfl, _, rfl, iteDT (by omega) ?_⟩
      refine ⟨_, rfl, _, _, rfl, rfl, _, _, rfl, rfl, _, rfl, ?_⟩
      rw [decide_eq_true (show z < 0 - -(2 : Int) ^ (d - 1) by omega)]
      exact iteF (qt _ (Same.refl _))
    intro H9 s9 hE1
    rw [fm_none] at hE1
    refine ⟨Nat.zero_le _, fun em nem => ?_⟩
    obtain ⟨H10, e10, s10, hem⟩ := fresh (.lst ([] : List V)) nem
    rw [e10]
    refine ne_lst (ns := []) (.inl (.inl (s10 _ _ hE1))) (.inl (.inl hem)) ⟨_, rfl, iteF ?_⟩
    have s510 := (s58.trans s9).trans s10
    have hpt10 := s10 _ _ (s9 _ _ hpt8)
    refine ⟨_, rfl, _, rfl, _, rfl, o, pt, ws, d, t, rfl, .inl (.inl (s510 _ _ ho5)), .inl (.inl hpt10), fW.tame, by omega, by omega, d1, by omega, fun p11 H11 np11 s11 hp11 => ?_⟩
    refine ⟨_, rfl, _, rfl, _, rfl, p, pt, us, d, t, rfl, .inl (.inl (s11 _ _ (s510 _ _ hp))), .inl (.inl (s11 _ _ hpt10)), fU.tame, by omega, by omega, d1, by omega, fun p12 H12 np12 s12 hp12 => ?_⟩
    refine neD_lst (.inl (.inl (s12 _ _ hp11))) (.inl (.inl hp12)) ?_
    rw [decide_eq_false hP1.2.2]
    have s512 := (s510.trans s11).trans s12
    exact q _ (b05.same s512) ((g5.same s512).mono (by omega))
end
end My

namespace My
open PySem PySem.Spec PyProof.Rows L2 Pre
/-! ### the law of rests of rests -/
theorem new_free {H0 : Hp} {x dx C p : Addr} (h : (upd (upd H0 dx (.own x)) x (.ins C dx [])) p = none) : H0 p = none := by
  unfold upd at h
  split at h
  · cases h
  · split at h
    · cases h
    · exact h
theorem steps_sum : ∀ i : Fin 5, prodW (stepW i.1) (stepW 3) = stepW (i.1 + 3) := by decide +kernel
theorem steps_lead : ∀ i : Fin 5, stepW 5 = prodW (stepW i.1) (stepW (5 - i.1)) := by decide +kernel
local macro_rules | `(tactic| walk_at "go") => `(tactic| repeat (first | (with_reducible first | refine iteT ?_ | refine iteF ?_ | refine iteNtt ?_ | refine iteNff ?_ | refine iteET (by omega) ?_ | refine iteEF (by omega) ?_ | refine iteENT (by omega) ?_ | refine iteENF (by omega) ?_ | refine iteDT (by omega) ?_ | refine iteDF (by omega) ?_ | refine iteNT (by omega) ?_ | refine iteNF (by omega) ?_) | refine ⟨_, rfl, ?_⟩ | refine ⟨_, _, rfl, rfl, ?_⟩ | refine ⟨_, _, rfl, ?_⟩ | refine ⟨rfl, ?_⟩ | refine .inl ⟨_, rfl, ?_⟩ | refine .inr ⟨_, rfl, ?_⟩))
local macro_rules | `(tactic| walk_at "b") => `(tactic| try dsimp (config := { proj := false, iota := false, eta := false, zeta := false }) only)
section
variable {P : Program} {w : World} {K : PySem.W.Frag} {mg : Str → Option Value} {base : Heap} [pf : Sup.PF P fileS]
def sp_law_caught (K : PySem.W.Frag) (C : Addr) : Sp := fun vs H Q _ => ∃ (k : Nat) (o t x : V), vs = [.int k, o, t] ∧ k < 4 ∧ Two C K H o t x ∧ ∀ H' p, Same H H' → H' p = some (.lst [.bl true, x]) → Q (.ref p) H'
theorem G_law_caught (T : Top K mg) : FnOk P w K mg base CX0 14 T.f_law_caught T.fd_law_caught ["_law_door", "_law_one", "_law_other"] (sp_law_caught K T.C_Guesser) := by
  refine T.F_law_caught.ok sc_law_caught (fun vs H Q E h => by obtain ⟨k, o, t, x, rfl, _⟩ := h; rfl) (fun cdv A outer s H vs Q E hr h => ?_)
  obtain ⟨k, o, t, x, rfl, hk, h, q⟩ := h
  refine ⟨_, PSs.nox (pss_cons (ps_set (i := 3) sc_law_caught.nd rfl (by first | exact Or.inl rfl | exact Or.inr rfl) pe_non)
  (pss_cons (ps_try_keep (i := 4) rfl rfl rfl sc_law_caught.nd rfl rfl takes_none5 (fun W pn xe tk po => (pss_one (ps_if (pt_cmpR op_lt (pv 0) pe_int (nomark _))
    (pss_one (ps_expr (pe_callU P w K mg base rfl rfl rfl rfl rfl (k := 12) (hr.mono (by decide)) (pe_ix (k_ixL K rfl) (pe_lst (pa_cons (pe_glob (v := .ref T.f_after) (by rfl) T.g_after rfl) (pa_cons (pe_glob (v := .ref T.f_leads_to) (by rfl) T.g_leads_to rfl) pa_nil))) (pv 0) (fun _ _ => rfl)) (fun σ => passAt tk σ) (pa_cons (pv 1) (pa_cons (pv 2) pa_nil)))))
    (pss_one (ps_expr (pe_callU P w K mg base rfl rfl rfl rfl rfl (k := 12) (hr.mono (by decide)) (pe_ix (k_ixL K rfl) (pe_lst (pa_cons (pe_glob (v := .ref T.f_parting_rests) (by rfl) T.g_parting_rests rfl) (pa_cons (pe_glob (v := .ref T.f_same_rests) (by rfl) T.g_same_rests rfl) pa_nil))) (pe_op op_sub (pv 0) pe_int) (fun _ _ => rfl)) (fun σ => passAt tk σ) (pa_cons (pv 1) (pa_cons (pv 2) (pa_cons pe_non pa_nil)))))))))
    (HdsAs.cons ⟨by rfl, by decide, .inl T.gc_SoundError⟩ (fun a oe cls d pn hz hf => (pss_one (ps_set (i := 3) sc_law_caught.nd rfl (by first | exact Or.inl rfl | exact Or.inr rfl) (pv 4)))) HdsAs.nil))
  (pss_one (ps_ret (pe_ifExp (pt_cmpR op_isN (pv 3) pe_non (nomark _)) pe_non (pe_lst (pa_cons (pe_callB (k_isiE K rfl) (by rfl) T.n_isinstance (by decide +kernel) (pa_cons (pv 3) (pa_cons (pe_glob (v := .ref T.C_InvalidGuesser) rfl T.gc_InvalidGuesser rfl) pa_nil))) (pa_cons (pe_xfK (pv 3)) pa_nil)))))))), ?_⟩
  have hk4 : k = 0 ∨ k = 1 ∨ k = 2 ∨ k = 3 := by omega
  rcases hk4 with rfl | rfl | rfl | rfl
  · refine ⟨_, rfl, _, _, rfl, rfl, _, rfl, iteDT (by decide) ?_⟩
    refine ⟨(by show 2 ≤ sizeLine; decide), fun fl nfl => ?_⟩
    obtain ⟨H1, e1, s1, hfl⟩ := fresh (.lst [V.ref T.f_after, .ref T.f_leads_to]) nfl
    rw [e1]
    refine ⟨_, rfl, fl, _, _, _, rfl, rfl, .inl (.inl hfl), (show atI [V.ref T.f_after, .ref T.f_leads_to] (0) = some (.ref T.f_after) from rfl), T.f_after, _, _, _, rfl, (G_after (P := P) T).mono (by decide), T.F_after.kp, T.b_after, _, rfl, _, rfl, _, _, rfl, .inr ⟨x, h.same s1, fun H2 dd s2 nd => ?_⟩⟩
    have s2 := s1.trans s2
    refine ⟨true, T.em_InvalidGuesser_SoundError, fun _ ae nae => ?_, fun z => nomatch z⟩
    have hdd : upd (upd H2 dd (.xd [(Str.ofString "value", x)])) ae (ExK (.ref T.C_InvalidGuesser) (some dd) ae) dd = some (.xd [(Str.ofString "value", x)]) := by
      rw [upd_ne (ne_of_none upd_same nae), upd_same]
    have hae : upd (upd H2 dd (.xd [(Str.ofString "value", x)])) ae (ExK (.ref T.C_InvalidGuesser) (some dd) ae) ae = some (ExK (.ref T.C_InvalidGuesser) (some dd) ae) := upd_same
    have s3 := (s2.trans (same_upd (o := .xd [(Str.ofString "value", x)]) nd)).trans (same_upd (o := ExK (.ref T.C_InvalidGuesser) (some dd) ae) nae)
    refine ⟨_, rfl, _, rfl, rfl, _, rfl, iteDF (fun z => nomatch z) ⟨_, rfl, .inr ⟨ae, _, dd, _, _, _, _, rfl, hae, hdd, T.ei_InvalidGuesser, .own _, T.ki_InvalidGuesser_InvalidGuesser, _, rfl, ae, _, dd, _, x, rfl, hae, hdd, T.er_InvalidGuesser.xf, T.er_InvalidGuesser.sup.nov, rfl, (by show 2 ≤ sizeLine; decide), fun p np => ?_⟩⟩⟩
    exact q _ p (s3.trans (same_upd np)) upd_same
  · refine ⟨_, rfl, _, _, rfl, rfl, _, rfl, iteDT (by decide) ?_⟩
    refine ⟨(by show 2 ≤ sizeLine; decide), fun fl nfl => ?_⟩
    obtain ⟨H1, e1, s1, hfl⟩ := fresh (.lst [V.ref T.f_after, .ref T.f_leads_to]) nfl
    rw [e1]
    refine ⟨_, rfl, fl, _, _, _, rfl, rfl, .inl (.inl hfl), (show atI [V.ref T.f_after, .ref T.f_leads_to] (1) = some (.ref T.f_leads_to) from rfl), T.f_leads_to, _, _, _, rfl, (G_leads_to (P := P) T).mono (by decide), T.F_leads_to.kp, T.b_leads_to, _, rfl, _, rfl, _, _, rfl, .inr ⟨x, h.same s1, fun H2 dd s2 nd => ?_⟩⟩
    have s2 := s1.trans s2
    refine ⟨true, T.em_InvalidGuesser_SoundError, fun _ ae nae => ?_, fun z => nomatch z⟩
    have hdd : upd (upd H2 dd (.xd [(Str.ofString "value", x)])) ae (ExK (.ref T.C_InvalidGuesser) (some dd) ae) dd = some (.xd [(Str.ofString "value", x)]) := by
      rw [upd_ne (ne_of_none upd_same nae), upd_same]
    have hae : upd (upd H2 dd (.xd [(Str.ofString "value", x)])) ae (ExK (.ref T.C_InvalidGuesser) (some dd) ae) ae = some (ExK (.ref T.C_InvalidGuesser) (some dd) ae) := upd_same
    have s3 := (s2.trans (same_upd (o := .xd [(Str.ofString "value", x)]) nd)).trans (same_upd (o := ExK (.ref T.C_InvalidGuesser) (some dd) ae) nae)
    refine ⟨_, rfl, _, rfl, rfl, _, rfl, iteDF (fun z => nomatch z) ⟨_, rfl, .inr ⟨ae, _, dd, _, _, _, _, rfl, hae, hdd, T.ei_InvalidGuesser, .own _, T.ki_InvalidGuesser_InvalidGuesser, _, rfl, ae, _, dd, _, x, rfl, hae, hdd, T.er_InvalidGuesser.xf, T.er_InvalidGuesser.sup.nov, rfl, (by show 2 ≤ sizeLine; decide), fun p np => ?_⟩⟩⟩
    exact q _ p (s3.trans (same_upd np)) upd_same
  · refine ⟨_, rfl, _, _, rfl, rfl, _, rfl, iteDF (by decide) ?_⟩
    refine ⟨(by show 2 ≤ sizeLine; decide), fun fl nfl => ?_⟩
    obtain ⟨H1, e1, s1, hfl⟩ := fresh (.lst [V.ref T.f_parting_rests, .ref T.f_same_rests]) nfl
    rw [e1]
    refine ⟨_, rfl, _, _, rfl, rfl, fl, _, _, _, rfl, rfl, .inl (.inl hfl), (show atI [V.ref T.f_parting_rests, .ref T.f_same_rests] (2 - 2) = some (.ref T.f_parting_rests) from rfl), T.f_parting_rests, _, _, _, rfl, (G_parting_rests (P := P) T).mono (by decide), T.F_parting_rests.kp, T.b_parting_rests, _, rfl, _, rfl, _, _, _, rfl, .inr ⟨x, h.same s1, fun H2 dd s2 nd => ?_⟩⟩
    have s2 := s1.trans s2
    refine ⟨true, T.em_InvalidGuesser_SoundError, fun _ ae nae => ?_, fun z => nomatch z⟩
    have hdd : upd (upd H2 dd (.xd [(Str.ofString "value", x)])) ae (ExK (.ref T.C_InvalidGuesser) (some dd) ae) dd = some (.xd [(Str.ofString "value", x)]) := by
      rw [upd_ne (ne_of_none upd_same nae), upd_same]
    have hae : upd (upd H2 dd (.xd [(Str.ofString "value", x)])) ae (ExK (.ref T.C_InvalidGuesser) (some dd) ae) ae = some (ExK (.ref T.C_InvalidGuesser) (some dd) ae) := upd_same
    have s3 := (s2.trans (same_upd (o := .xd [(Str.ofString "value", x)]) nd)).trans (same_upd (o := ExK (.ref T.C_InvalidGuesser) (some dd) ae) nae)
    refine ⟨_, rfl, _, rfl, rfl, _, rfl, iteDF (fun z => nomatch z) ⟨_, rfl, .inr ⟨ae, _, dd, _, _, _, _, rfl, hae, hdd, T.ei_InvalidGuesser, .own _, T.ki_InvalidGuesser_InvalidGuesser, _, rfl, ae, _, dd, _, x, rfl, hae, hdd, T.er_InvalidGuesser.xf, T.er_InvalidGuesser.sup.nov, rfl, (by show 2 ≤ sizeLine; decide), fun p np => ?_⟩⟩⟩
    exact q _ p (s3.trans (same_upd np)) upd_same
  · refine ⟨_, rfl, _, _, rfl, rfl, _, rfl, iteDF (by decide) ?_⟩
    refine ⟨(by show 2 ≤ sizeLine; decide), fun fl nfl => ?_⟩
    obtain ⟨H1, e1, s1, hfl⟩ := fresh (.lst [V.ref T.f_parting_rests, .ref T.f_same_rests]) nfl
    rw [e1]
    refine ⟨_, rfl, _, _, rfl, rfl, fl, _, _, _, rfl, rfl, .inl (.inl hfl), (show atI [V.ref T.f_parting_rests, .ref T.f_same_rests] (3 - 2) = some (.ref T.f_same_rests) from rfl), T.f_same_rests, _, _, _, rfl, (G_same_rests (P := P) T).mono (by decide), T.F_same_rests.kp, T.b_same_rests, _, rfl, _, rfl, _, _, _, rfl, .inr ⟨x, h.same s1, fun H2 dd s2 nd => ?_⟩⟩
    have s2 := s1.trans s2
    refine ⟨true, T.em_InvalidGuesser_SoundError, fun _ ae nae => ?_, fun z => nomatch z⟩
    have hdd : upd (upd H2 dd (.xd [(Str.ofString "value", x)])) ae (ExK (.ref T.C_InvalidGuesser) (some dd) ae) dd = some (.xd [(Str.ofString "value", x)]) := by
      rw [upd_ne (ne_of_none upd_same nae), upd_same]
    have hae : upd (upd H2 dd (.xd [(Str.ofString "value", x)])) ae (ExK (.ref T.C_InvalidGuesser) (some dd) ae) ae = some (ExK (.ref T.C_InvalidGuesser) (some dd) ae) := upd_same
    have s3 := (s2.trans (same_upd (o := .xd [(Str.ofString "value", x)]) nd)).trans (same_upd (o := ExK (.ref T.C_InvalidGuesser) (some dd) ae) nae)
    refine ⟨_, rfl, _, rfl, rfl, _, rfl, iteDF (fun z => nomatch z) ⟨_, rfl, .inr ⟨ae, _, dd, _, _, _, _, rfl, hae, hdd, T.ei_InvalidGuesser, .own _, T.ki_InvalidGuesser_InvalidGuesser, _, rfl, ae, _, dd, _, x, rfl, hae, hdd, T.er_InvalidGuesser.xf, T.er_InvalidGuesser.sup.nov, rfl, (by show 2 ≤ sizeLine; decide), fun p np => ?_⟩⟩⟩
    exact q _ p (s3.trans (same_upd np)) upd_same
end
end My

namespace My
open PySem PySem.Spec PyProof.Rows L2 Pre
/-! ### the law of rests of rests: the whole -/
local macro_rules | `(tactic| walk_at "go") => `(tactic| repeat (first | (with_reducible first | refine iteT ?_ | refine iteF ?_ | refine iteNtt ?_ | refine iteNff ?_ | refine iteET (by omega) ?_ | refine iteEF (by omega) ?_ | refine iteENT (by omega) ?_ | refine iteENF (by omega) ?_ | refine iteDT (by omega) ?_ | refine iteDF (by omega) ?_ | refine iteNT (by omega) ?_ | refine iteNF (by omega) ?_) | refine ⟨_, rfl, ?_⟩ | refine ⟨_, _, rfl, rfl, ?_⟩ | refine ⟨_, _, rfl, ?_⟩ | refine ⟨rfl, ?_⟩ | refine .inl ⟨_, rfl, ?_⟩ | refine .inr ⟨_, rfl, ?_⟩))
local macro_rules | `(tactic| walk_at "b") => `(tactic| try dsimp (config := { proj := false, iota := false, eta := false, zeta := false }) only)
section
variable {P : Program} {w : World} {K : PySem.W.Frag} {mg : Str → Option Value} {base : Heap} [pf : Sup.PF P fileS]
def sp_law (K : PySem.W.Frag) : Sp := fun vs H Q _ => ∃ (a : Addr) (ns : List Int), vs = [.ref a] ∧ SqL K H a (ns.map V.int) ∧ ns.length ≤ 63 ∧ ∀ H', Q (.bl true) H'
theorem G_law (T : Top K mg) : FnOk P w K mg base CX0 15 T.f_law T.fd_law ["_law_script"] (sp_law K) := by
  refine T.F_law.ok sc_law (fun vs H Q E h => by obtain ⟨a, ns, rfl, _⟩ := h; rfl) (fun cdv A outer s H vs Q E hr h => ?_)
  obtain ⟨a, ns, rfl, hS, hz, q⟩ := h
  refine ⟨_, PSs.nox (pss_cons (ps_for PassesOwn.never rfl (pi_range1 (by rfl) T.n_range (pa_cons pe_int pa_nil)) (pg_name (i := 1) sc_law.nd rfl (by first | exact Or.inl rfl | exact Or.inr rfl))
    (pss_cons (ps_set (i := 4) sc_law.nd rfl (by first | exact Or.inl rfl | exact Or.inr rfl) (pe_call (G_law_generator (P := P) T) (hr.mono (by decide)) (by rfl) T.g_law_generator T.F_law_generator.kp T.b_law_generator .nil pass0 (pa_cons (pv 0) (pa_cons (pv 1) pa_nil))))
  (pss_cons (ps_setLc (i := 5) (own := [("_law_number", 7)]) (g := gName 7) (tt := tYes) (by rfl) sc_law.nd rfl rfl (sw_true rfl rfl rfl (by decide +kernel)) (pi_range1 (by rfl) T.n_range (pa_cons (pe_call (G_law_random (P := P) T) (hr.mono (by decide)) (by rfl) T.g_law_random T.F_law_random.kp T.b_law_random .nil pass0 (pa_cons (pv 4) (pa_cons pe_int pa_nil))) pa_nil)) (blkOk_by (own := [("_law_number", 7)]) (N := N_law) (sc := defScope s_law) (by decide +kernel)) (fun _ _ _ _ _ => (pg_name (i := 7) sc_law.nd rfl (by first | exact Or.inl rfl | exact Or.inr rfl))) (fun _ _ _ _ _ => pts_nil) (fun _ _ _ _ _ => (pe_op op_sub (pe_call (G_law_random (P := P) T) (hr.mono (by decide)) (by rfl) T.g_law_random T.F_law_random.kp T.b_law_random .nil pass0 (pa_cons (pv 4) (pa_cons pe_int pa_nil))) pe_int)))
  (pss_cons (ps_setLc (i := 6) (own := [("_law_number", 7)]) (g := gName 7) (tt := tYes) (by rfl) sc_law.nd rfl rfl (sw_true rfl rfl rfl (by decide +kernel)) (pi_range1 (by rfl) T.n_range (pa_cons (pe_call (G_law_random (P := P) T) (hr.mono (by decide)) (by rfl) T.g_law_random T.F_law_random.kp T.b_law_random .nil pass0 (pa_cons (pv 4) (pa_cons pe_int pa_nil))) pa_nil)) (blkOk_by (own := [("_law_number", 7)]) (N := N_law) (sc := defScope s_law) (by decide +kernel)) (fun _ _ _ _ _ => (pg_name (i := 7) sc_law.nd rfl (by first | exact Or.inl rfl | exact Or.inr rfl))) (fun _ _ _ _ _ => pts_nil) (fun _ _ _ _ _ => (pe_op op_sub (pe_call (G_law_random (P := P) T) (hr.mono (by decide)) (by rfl) T.g_law_random T.F_law_random.kp T.b_law_random .nil pass0 (pa_cons (pv 4) (pa_cons pe_int pa_nil))) pe_int)))
  (pss_cons (ps_if (PW.pt (pw_or (pt_not (pt_val (pe_call (G_law_right (P := P) T) (hr.mono (by decide)) (by rfl) T.g_law_right T.F_law_right.kp T.b_law_right .nil pass0 (pa_cons (pv 4) (pa_cons (pv 5) (pa_cons (pv 6) pa_nil)))))) (pw_or1 (pt_not (pt_val (pe_call (G_law_leads_right (P := P) T) (hr.mono (by decide)) (by rfl) T.g_law_leads_right T.F_law_leads_right.kp T.b_law_leads_right .nil pass0 (pa_cons (pv 4) (pa_cons (pv 5) (pa_cons (pv 6) pa_nil)))))))))
    (pss_one (ps_ret pe_bl))
    pss_nil)
  (pss_one (ps_if (pt_not (pt_val (pe_call (G_law_same_right (P := P) T) (hr.mono (by decide)) (by rfl) T.g_law_same_right T.F_law_same_right.kp T.b_law_same_right .nil pass0 (pa_cons (pv 4) pa_nil))))
    (pss_one (ps_ret pe_bl))
    pss_nil)))))))
  (pss_cons (ps_for PassesOwn.never rfl (pi_range1 (by rfl) T.n_range (pa_cons pe_int pa_nil)) (pg_name (i := 2) sc_law.nd rfl (by first | exact Or.inl rfl | exact Or.inr rfl))
    (pss_cons (ps_if (pt_cmpR (k_neD K rfl hr.units) (pe_call (G_after (P := P) T) (hr.mono (by decide)) (by rfl) T.g_after T.F_after.kp T.b_after .nil passL (pa_cons (pe_call (G_steps (P := P) T) (hr.mono (by decide)) (by rfl) T.g_steps T.F_steps.kp T.b_steps .nil pass0 (pa_cons (pv 2) pa_nil)) (pa_cons (pe_call (G_steps (P := P) T) (hr.mono (by decide)) (by rfl) T.g_steps T.F_steps.kp T.b_steps .nil pass0 (pa_cons pe_int pa_nil)) pa_nil))) (pe_meth0 (pe_call (G_steps (P := P) T) (hr.mono (by decide)) (by rfl) T.g_steps T.F_steps.kp T.b_steps .nil pass0 (pa_cons (pe_op op_add (pv 2) pe_int) pa_nil)) T.cl_Guesser T.me_Guesser_weights (G_Guesser_weights (P := P) T) (hr.mono (by decide)) T.b_Guesser_weights .nil pass0) (nomark _))
    (pss_one (ps_ret pe_bl))
    pss_nil)
  (pss_one (ps_if (pt_cmpR (op_neG T.ec_Guesser (G_eqG (P := P) T) eqG_mon (hr.mono (by decide)) hr.units T.b_Guesser___eq__ pass0) (pe_call (G_leads_to (P := P) T) (hr.mono (by decide)) (by rfl) T.g_leads_to T.F_leads_to.kp T.b_leads_to .nil passL (pa_cons (pe_call (G_steps (P := P) T) (hr.mono (by decide)) (by rfl) T.g_steps T.F_steps.kp T.b_steps .nil pass0 (pa_cons (pv 2) pa_nil)) (pa_cons (pe_call (G_steps (P := P) T) (hr.mono (by decide)) (by rfl) T.g_steps T.F_steps.kp T.b_steps .nil pass0 (pa_cons pe_int pa_nil)) pa_nil))) (pe_meth0 (pe_call (G_steps (P := P) T) (hr.mono (by decide)) (by rfl) T.g_steps T.F_steps.kp T.b_steps .nil pass0 (pa_cons (pe_op op_sub pe_int (pv 2)) pa_nil)) T.cl_Guesser T.me_Guesser_weights (G_Guesser_weights (P := P) T) (hr.mono (by decide)) T.b_Guesser_weights .nil pass0) (nomark _))
    (pss_one (ps_ret pe_bl))
    pss_nil))))
  (pss_cons (ps_for PassesOwn.never rfl (pi_range1 (by rfl) T.n_range (pa_cons pe_int pa_nil)) (pg_name (i := 3) sc_law.nd rfl (by first | exact Or.inl rfl | exact Or.inr rfl))
    (pss_cons (ps_if (PW.pt (pw_or (pt_cmpR (op_neG T.ec_Guesser (G_eqG (P := P) T) eqG_mon (hr.mono (by decide)) hr.units T.b_Guesser___eq__ pass0) (pe_call (G_law_caught (P := P) T) (hr.mono (by decide)) (by rfl) T.g_law_caught T.F_law_caught.kp T.b_law_caught .nil pass0 (pa_cons (pv 3) (pa_cons pe_non (pa_cons pe_int pa_nil)))) (pe_lst (pa_cons pe_bl (pa_cons pe_non pa_nil))) (nomark _)) (pw_or1 (pt_cmpR (op_neG T.ec_Guesser (G_eqG (P := P) T) eqG_mon (hr.mono (by decide)) hr.units T.b_Guesser___eq__ pass0) (pe_call (G_law_caught (P := P) T) (hr.mono (by decide)) (by rfl) T.g_law_caught T.F_law_caught.kp T.b_law_caught .nil pass0 (pa_cons (pv 3) (pa_cons (pe_make T.mk_Guesser (G_Guesser___init__ (P := P) T) (hr.mono (by decide)) (by rfl) T.gc_Guesser T.b_Guesser___init__ .nil pass0 (pa_cons (pe_lst pa_nil) (pa_cons pe_int pa_nil))) (pa_cons pe_int pa_nil)))) (pe_lst (pa_cons pe_bl (pa_cons (pe_make T.mk_Guesser (G_Guesser___init__ (P := P) T) (hr.mono (by decide)) (by rfl) T.gc_Guesser T.b_Guesser___init__ .nil pass0 (pa_cons (pe_lst pa_nil) (pa_cons pe_int pa_nil))) pa_nil))) (nomark _)))))
    (pss_one (ps_ret pe_bl))
    pss_nil)
  (pss_one (ps_if (pt_cmpR (op_neG T.ec_Guesser (G_eqG (P := P) T) eqG_mon (hr.mono (by decide)) hr.units T.b_Guesser___eq__ pass0) (pe_call (G_law_caught (P := P) T) (hr.mono (by decide)) (by rfl) T.g_law_caught T.F_law_caught.kp T.b_law_caught .nil pass0 (pa_cons (pv 3) (pa_cons (pe_make T.mk_Guesser (G_Guesser___init__ (P := P) T) (hr.mono (by decide)) (by rfl) T.gc_Guesser T.b_Guesser___init__ .nil pass0 (pa_cons (pe_lst (pa_cons pe_int pa_nil)) (pa_cons pe_int pa_nil))) (pa_cons (pe_make T.mk_Guesser (G_Guesser___init__ (P := P) T) (hr.mono (by decide)) (by rfl) T.gc_Guesser T.b_Guesser___init__ .nil pass0 (pa_cons (pe_lst (pa_cons pe_int pa_nil)) (pa_cons pe_int pa_nil))) pa_nil)))) (pe_lst (pa_cons pe_bl (pa_cons (pe_make T.mk_Guesser (G_Guesser___init__ (P := P) T) (hr.mono (by decide)) (by rfl) T.gc_Guesser T.b_Guesser___init__ .nil pass0 (pa_cons (pe_lst (pa_cons pe_int pa_nil)) (pa_cons pe_int pa_nil))) pa_nil))) (nomark _))
    (pss_one (ps_ret pe_bl))
    pss_nil))))
  (pss_one (ps_ret pe_bl))))), ?_⟩
  refine ⟨_, rfl, by decide, by decide, ?_⟩
  refine for_range (lo := 0) (n := 3) (fun i σ H1 => ∃ v1 v4 v5 v6 : Option V, σ = [some (.ref a), v1, none, none, v4, v5, v6, none] ∧ Same H H1) ⟨none, none, none, none, rfl, Same.refl _⟩ ?_ ?_
  · rintro i σ H1 hi ⟨v1, v4, v5, v6, rfl, s1⟩
    refine ⟨_, rfl, _, rfl, a, ns, i, by rw [Int.zero_add]; rfl, s1.seq hS, fun H2 g s2 ng gG => ?_⟩
    refine ⟨_, rfl, g, _, _, rfl, gG, by omega, by decide, small_2900 (by decide), fun r H3a r0 r1 g3a b3a => ?_⟩
    obtain ⟨m3, rfl⟩ : ∃ m : Nat, r = (m : Int) := ⟨r.toNat, by omega⟩
    refine ⟨_, rfl, by omega, by omega, fun D nD => ?_⟩
    rw [Int.toNat_natCast]
    refine lc_drawR (lo := 0) (n := m3) g _ 100 (fun y => y.natAbs ≤ 4) nD g3a (small1000 (by omega)) (fun x => rfl) ?_ ?_
    · intro i H' hi b gi Qt qt
      refine ⟨_, rfl, g, _, _, rfl, gi, by omega, by decide, small_2900 (by decide), fun x H3 x0 x1 g3 b3 => ?_⟩
      exact ⟨_, _, rfl, rfl, qt _ _ (by omega) b3 (g3.mono (by omega))⟩
    intro H3 ys b3 g3 hD hl3 hP3
    have Dg : D ≠ g := g3a.ne nD
    refine ⟨_, rfl, g, _, _, rfl, g3, by omega, by decide, small_2900 (by decide), fun r H4a r0 r1 g4a b4a => ?_⟩
    obtain ⟨m4, rfl⟩ : ∃ m : Nat, r = (m : Int) := ⟨r.toNat, by omega⟩
    refine ⟨_, rfl, by omega, by omega, fun E nE => ?_⟩
    rw [Int.toNat_natCast]
    refine lc_drawR (lo := 0) (n := m4) g _ 100 (fun y => y.natAbs ≤ 4) nE g4a (small1000 (by omega)) (fun x => rfl) ?_ ?_
    · intro i H' hi b gi Qt qt
      refine ⟨_, rfl, g, _, _, rfl, gi, by omega, by decide, small_2900 (by decide), fun x H3 x0 x1 g3 b3 => ?_⟩
      exact ⟨_, _, rfl, rfl, qt _ _ (by omega) b3 (g3.mono (by omega))⟩
    intro H4 zs b4 g4 hE hl4 hP4
    have Eg : E ≠ g := g4a.ne nE
    have hD4 := b4 _ _ Dg (b4a _ _ Dg hD)
    refine ⟨_, rfl, _, rfl, _, rfl, g, D, E, ys, zs, _, rfl, g4, by omega, hD4, hE, Dg, Eg, ⟨by omega, hP3⟩, ⟨by omega, hP4⟩, fun H5 b5 g5 => ⟨_, rfl, iteNtt ?_⟩⟩
    refine ⟨_, rfl, _, rfl, _, rfl, g, D, E, ys, zs, _, rfl, g5, by omega, b5 _ _ Dg hD4, b5 _ _ Eg hE, Dg, Eg, ⟨by omega, hP3⟩, ⟨by omega, hP4⟩, fun H6 b6 g6 => ⟨_, rfl, iteNtt ?_⟩⟩
    refine ⟨_, rfl, g, _, rfl, g6, by omega, fun H7 b7 g7 => ⟨_, rfl, iteNtt ?_⟩⟩
    exact ⟨_, _, _, _, rfl, But.fresh (s1.trans s2) (s1.free ng) ((((((b3a.trans b3).trans b4a).trans b4).trans b5).trans b6).trans b7)⟩
  rintro σ H1 ⟨v1, v4, v5, v6, rfl, s1⟩
  refine ⟨_, rfl, by decide, by decide, ?_⟩
  refine for_range (lo := 0) (n := 5) (fun i σ H2 => ∃ v2 : Option V, σ = [some (.ref a), v1, v2, none, v4, v5, v6, none] ∧ Same H1 H2) ⟨none, rfl, Same.refl _⟩ ?_ ?_
  · rintro i σ H2 hi ⟨v2, rfl, s2⟩
    have hi5 : i < 5 := hi
    have e1 : prodW (stepW i) (stepW 3) = stepW (i + 3) := steps_sum ⟨i, hi5⟩
    have e2 : stepW 5 = prodW (stepW i) (stepW (5 - i)) := steps_lead ⟨i, hi5⟩
    refine ⟨_, rfl, i, by rw [Int.zero_add]; rfl, by omega, fun x1 H3 s3 G1 => ?_⟩
    refine ⟨3, rfl, by omega, fun x2 H4 s4 G2 => ?_⟩
    refine ⟨_, _, rfl, .inl ⟨stepW i, stepW 3, ⟨x1, rfl, G1.same s4⟩, ⟨x2, rfl, G2⟩, fun p5 H5 np5 s5 hp5 => ?_⟩⟩
    refine ⟨_, rfl, _, _, rfl, rfl, i + 3, ?_, by omega, fun x6 H6 s6 G6 => ?_⟩
    · show [V.int (0 + (i : Int) + 3)] = _
      rw [Int.zero_add]
      rfl
    obtain ⟨_, _, dx6, pp6, hx6, _⟩ := id G6
    refine ⟨x6, dx6, _, rfl, hx6, rfl, x6, stepW (i + 3), 0, rfl, G6, fun p7 H7 np7 s7 hp7 => ?_⟩
    rw [e1] at hp5
    refine ne_lst (.inl (.inl (s7 _ _ (s6 _ _ hp5)))) (.inl (.inl hp7)) ⟨_, rfl, iteF ?_⟩
    refine ⟨_, rfl, i, by rw [Int.zero_add]; rfl, by omega, fun x8 H8 s8 G8 => ?_⟩
    refine ⟨5, rfl, by omega, fun x9 H9 s9 G9 => ?_⟩
    refine ⟨_, _, rfl, .inl ⟨stepW i, stepW 5, ⟨x8, rfl, G8.same s9⟩, ⟨x9, rfl, G9⟩, fun H' s hL => absurd (hL.2 _ e2) (fun z => nomatch z), fun p10 H10 t np10 s10 hp10 hL => ?_⟩⟩
    obtain rfl : t = stepW (5 - i) := Option.some.inj (hL.2 _ e2)
    refine ⟨_, rfl, _, _, rfl, rfl, 5 - i, ?_, by omega, fun x11 H11 s11 G11 => ?_⟩
    · show [V.int (5 - (0 + (i : Int)))] = [V.int ((5 - i : Nat) : Int)]
      rw [show (5 : Int) - (0 + (i : Int)) = ((5 - i : Nat) : Int) by omega]
    obtain ⟨_, _, dx11, pp11, hx11, _⟩ := id G11
    refine ⟨x11, dx11, _, rfl, hx11, rfl, x11, stepW (5 - i), 0, rfl, G11, fun p12 H12 np12 s12 hp12 => ?_⟩
    refine .inl (ne_lst (.inl (.inl (s12 _ _ (s11 _ _ hp10)))) (.inl (.inl hp12)) ⟨_, rfl, iteF ?_⟩)
    exact ⟨_, rfl, (((((((((s2.trans s3).trans s4).trans s5).trans s6).trans s7).trans s8).trans s9).trans s10).trans s11).trans s12⟩
  rintro σ H2 ⟨v2, rfl, s2⟩
  refine ⟨_, rfl, by decide, by decide, ?_⟩
  refine for_range (lo := 0) (n := 4) (fun i σ H3 => ∃ v3 : Option V, σ = [some (.ref a), v1, v2, v3, v4, v5, v6, none] ∧ Same H2 H3) ⟨none, rfl, Same.refl _⟩ ?_ ?_
  · rintro i σ H3 hi ⟨v3, rfl, s3⟩
    refine ⟨_, rfl, i, .non, .int 3, .non, by rw [Int.zero_add]; rfl, hi, .inl ⟨.inl ⟨_, (by simp [notTys]), .base .non⟩, rfl⟩, fun H4 p4 s4 hp4 => ?_⟩
    refine ⟨(by show 2 ≤ sizeLine; decide), fun M5 nM5 => ?_⟩
    obtain ⟨H5, e5, s5, hM5⟩ := fresh (.lst [V.bl true, .non]) nM5
    rw [e5]
    refine .inr ⟨⟨p4, M5, _, _, rfl, rfl, s5 _ _ hp4, hM5, Prs.cons (.inl ⟨rfl, rfl, rfl⟩) (Prs.cons (.inl ⟨rfl, rfl, rfl⟩) Prs.nil)⟩, fun H6 e6 => ⟨_, rfl, iteF ?_⟩⟩
    have s6 : Same H5 H6 := fun a o h => e6 a o h
    refine ⟨_, rfl, ?_⟩
    refine ⟨(by show 0 ≤ sizeLine; decide), fun lA nlA => ?_⟩
    obtain ⟨HA, eA, sA, hlA⟩ := fresh (.lst ([] : List V)) nlA
    rw [eA]
    intro xA dxA nxA ndxA nexA
    have tA : Same HA (upd (upd HA dxA (.own xA)) xA (.ins T.C_Guesser dxA [])) := fun b o e => by
      rw [upd_ne (ne_of_none e nxA), upd_ne (ne_of_none e ndxA)]
      exact e
    refine ⟨xA, lA, dxA, ([] : List Int), 1, rfl, upd_same, .inl (tA _ _ hlA), ⟨by decide, fun n hn => nomatch hn⟩, by decide, fun JA kpA GA _ => ⟨rfl, ?_⟩⟩
    have uA : Same H6 JA := sA.trans (keep_same nxA ndxA kpA)
    clear tA kpA nexA
    refine ⟨i, .ref xA, .int 3, .ref xA, by rw [Int.zero_add]; rfl, hi, .inl ⟨.inr ⟨xA, [], 1, rfl, GA, by decide⟩, rfl⟩, fun H7 p7 s7 hp7 => ?_⟩
    refine ⟨(by show 0 ≤ sizeLine; decide), fun lB nlB => ?_⟩
    obtain ⟨HB, eB, sB, hlB⟩ := fresh (.lst ([] : List V)) nlB
    rw [eB]
    intro xB dxB nxB ndxB nexB
    have tB : Same HB (upd (upd HB dxB (.own xB)) xB (.ins T.C_Guesser dxB [])) := fun b o e => by
      rw [upd_ne (ne_of_none e nxB), upd_ne (ne_of_none e ndxB)]
      exact e
    refine ⟨xB, lB, dxB, ([] : List Int), 1, rfl, upd_same, .inl (tB _ _ hlB), ⟨by decide, fun n hn => nomatch hn⟩, by decide, fun JB kpB GB _ => ⟨rfl, ?_⟩⟩
    have uB : Same H7 JB := sB.trans (keep_same nxB ndxB kpB)
    clear tB kpB nexB
    refine ⟨(by show 2 ≤ sizeLine; decide), fun M8 nM8 => ?_⟩
    obtain ⟨H8, e8, s8, hM8⟩ := fresh (.lst [V.bl true, .ref xB]) nM8
    rw [e8]
    have GA8 := ((GA.same s7).same uB).same s8
    have GB8 := GB.same s8
    obtain ⟨_, _, dA, pA, hA8, _⟩ := id GA8
    obtain ⟨_, _, dB, pB, hB8, _⟩ := id GB8
    refine .inr ⟨⟨p7, M8, _, _, rfl, rfl, s8 _ _ (uB _ _ hp7), hM8, Prs.cons (.inl ⟨rfl, rfl, rfl⟩) (Prs.cons (.inr ⟨xA, xB, dA, dB, _, _, rfl, rfl, hA8, hB8, [], 1, GA8, GB8⟩) Prs.nil)⟩, fun H9 e9 => ⟨_, rfl, iteF ?_⟩⟩
    have s9 : Same H8 H9 := fun a o h => e9 a o h
    refine ⟨_, rfl, ?_⟩
    refine ⟨(by show 1 ≤ sizeLine; decide), fun lC nlC => ?_⟩
    obtain ⟨HC, eC, sC, hlC⟩ := fresh (.lst [V.int 2]) nlC
    rw [eC]
    intro xC dxC nxC ndxC nexC
    have tC : Same HC (upd (upd HC dxC (.own xC)) xC (.ins T.C_Guesser dxC [])) := fun b o e => by
      rw [upd_ne (ne_of_none e nxC), upd_ne (ne_of_none e ndxC)]
      exact e
    refine ⟨xC, lC, dxC, ([2] : List Int), 0, rfl, upd_same, .inl (tC _ _ hlC), ⟨by decide, fun n hn => by rw [List.mem_singleton.mp hn]; decide⟩, by decide, fun JC kpC GC _ => ⟨rfl, ?_⟩⟩
    have uC : Same H9 JC := sC.trans (keep_same nxC ndxC kpC)
    clear tC kpC nexC
    refine ⟨(by show 1 ≤ sizeLine; decide), fun lD nlD => ?_⟩
    obtain ⟨HD, eD, sD, hlD⟩ := fresh (.lst [V.int 2]) nlD
    rw [eD]
    intro xD dxD nxD ndxD nexD
    have tD : Same HD (upd (upd HD dxD (.own xD)) xD (.ins T.C_Guesser dxD [])) := fun b o e => by
      rw [upd_ne (ne_of_none e nxD), upd_ne (ne_of_none e ndxD)]
      exact e
    refine ⟨xD, lD, dxD, ([2] : List Int), 1, rfl, upd_same, .inl (tD _ _ hlD), ⟨by decide, fun n hn => by rw [List.mem_singleton.mp hn]; decide⟩, by decide, fun JD kpD GD _ => ⟨rfl, ?_⟩⟩
    have uD : Same JC JD := sD.trans (keep_same nxD ndxD kpD)
    clear tD kpD nexD
    refine ⟨i, .ref xC, .ref xD, .ref xD, by rw [Int.zero_add]; rfl, hi, .inr ⟨[2], ⟨xC, rfl, GC.same uD⟩, .inr ⟨xD, [2], 1, rfl, GD, by decide⟩, rfl⟩, fun H10 p10 s10 hp10 => ?_⟩
    refine ⟨(by show 1 ≤ sizeLine; decide), fun lE nlE => ?_⟩
    obtain ⟨HE, eE, sE, hlE⟩ := fresh (.lst [V.int 2]) nlE
    rw [eE]
    intro xE dxE nxE ndxE nexE
    have tE : Same HE (upd (upd HE dxE (.own xE)) xE (.ins T.C_Guesser dxE [])) := fun b o e => by
      rw [upd_ne (ne_of_none e nxE), upd_ne (ne_of_none e ndxE)]
      exact e
    refine ⟨xE, lE, dxE, ([2] : List Int), 1, rfl, upd_same, .inl (tE _ _ hlE), ⟨by decide, fun n hn => by rw [List.mem_singleton.mp hn]; decide⟩, by decide, fun JE kpE GE _ => ⟨rfl, ?_⟩⟩
    have uE : Same H10 JE := sE.trans (keep_same nxE ndxE kpE)
    clear tE kpE nexE
    refine ⟨(by show 2 ≤ sizeLine; decide), fun M11 nM11 => ?_⟩
    obtain ⟨H11, e11, s11, hM11⟩ := fresh (.lst [V.bl true, .ref xE]) nM11
    rw [e11]
    have GD11 := ((GD.same s10).same uE).same s11
    have GE11 := GE.same s11
    obtain ⟨_, _, dD, pD, hD11, _⟩ := id GD11
    obtain ⟨_, _, dE, pE, hE11, _⟩ := id GE11
    refine .inr ⟨⟨p10, M11, _, _, rfl, rfl, s11 _ _ (uE _ _ hp10), hM11, Prs.cons (.inl ⟨rfl, rfl, rfl⟩) (Prs.cons (.inr ⟨xD, xE, dD, dE, _, _, rfl, rfl, hD11, hE11, [2], 1, GD11, GE11⟩) Prs.nil)⟩, fun H12 e12 => ⟨_, rfl, iteF ?_⟩⟩
    have s12 : Same H11 H12 := fun a o h => e12 a o h
    exact ⟨_, rfl, ((((((((((((s3.trans s4).trans s5).trans s6).trans uA).trans s7).trans uB).trans s8).trans s9).trans uC).trans uD).trans s10).trans uE).trans (s11.trans s12)⟩
  rintro σ H3 ⟨v3, rfl, s3⟩
  exact q _
end
end My

open PySem PySem.W PySem.Calls PyProof.Rows
set_option maxRecDepth 100000 in
set_option maxHeartbeats 0 in
theorem PySem.Challenge.cw_wholesound_k13_rests_of_rests_holds : PySem.Challenge.rw_wholesound_k13_rests_of_rests.Holds := by
  w_on; o_law
  refine HandSHeadRun.head_any (r := OpenLaw.row PySem.Challenge.rw_wholesound_k13_rests_of_rests) (q := view (OpenLaw.row PySem.Challenge.rw_wholesound_k13_rests_of_rests).prog [49]) (H := My.hk) (ob := My.ob) (M := 8000) (loose := My.loose) (d := HandSHeadRun.topDef (OpenLaw.row PySem.Challenge.rw_wholesound_k13_rests_of_rests).prog 49) (kwd := []) My.ob_eq
    (by kernel_rfl) (fun s => by kernel_rfl) My.run (by kernel_rfl) (by kernel_rfl) (by kernel_rfl) (by rfl) (by first | assumption | decide +kernel) (by decide +kernel) ⟨rfl, rfl, rfl, rfl, rfl, by decide +kernel⟩ ?hw ?hc
  case hw => w_witness2
  case hc =>
    refine L2.walk_ofE (l := PySem.Challenge.rw_wholesound_k13_rests_of_rests) (n := 63) (k := 15) (x := "_law_script") (CX := L2.CX0) rfl (by decide) (by kernel_rfl) ⟨rfl, by decide, by decide⟩ ?F (fun _ _ _ _ z => z)
    intro w mg fa h Y G hmg0
    obtain ⟨K, KX, c⟩ := Y
    have hmg : mg ("law" : PySem.Str) = some (.ref fa) := by
      have e : (HandSHeadRun.topDef (OpenLaw.row PySem.Challenge.rw_wholesound_k13_rests_of_rests).prog 49).name = ("law" : PySem.Str) := by kernel_rfl
      rw [← e]
      exact hmg0
    have T : My.Top K mg := My.top_mk KX G c
    have e := hmg.symm.trans T.g_law
    cases e
    have b := L2.FunD.bindsA (ps := ["_law_script"]) T.F_law fun _ _ _ _ _ _ us hl => match us, hl with | [_], _ => rfl
    exact ⟨K, T.fd_law, My.sp_law K, KX, fun s v => b s [v] rfl, fun H a ns hl _ hS => ⟨a, ns, rfl, hS, hl, fun _ => rfl⟩, fun base _ _ => My.G_law (pf := ⟨by kernel_rfl, by kernel_rfl⟩) T⟩


