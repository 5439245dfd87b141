import PyProof.Rows.All
import Wide.All
import OpenK.AllK
import Wide.FinOn
import KE.KStateDown
import Lean
import HandS.ForMost
import HandS.Exc
import HandS.Flow
import HandS.DictComp
import HandS.Style
import HandS.Wide
import HandS.WideBits
import HandS.IsInst
import HandS.Codes
import HandS.Walk
import HandS.Words
import HandS.WordsExc
import HandS.Defaults
import HandS.Head0
import HandS.Head1
import HandS.Head2
import HandS.HeadEnd
import HandS.HeadHook1
import HandS.HeadHook2
import HandS.SortInts
import PyProof.Rows.SortShellAny
import PyProof.InstNe
import KE.DataMinMax
import KE.SortData
import KE.IntBitsLaws
import KE.BitLaws
import HandS.Deep
import HandS.SetKeys
import PyProof.Rows.StrMul
import HandS.TupLe
import HandS.Property
import HandS.Conv
import HandS.NoneIn
import HandS.SetFor
import HandS.Strs
import HandS.Sort
import HandS.StrMore
import HandS.ExcInit
import HandS.ExcSuper
import HandS.Nested
import KE.KExcSuper
import HandS.ExcField
import HandS.TryMany
import HandS.ExcIs
import HandS.TryOnly
import HandS.CallSlots
import KE.KDictDisplayH
import PyProof.StrLawsFirst
import KE.GoesZip
import KE.GoesMore
import HandS.Zip
import PyProof.CallType
import PyProof.ZipIter
import PyProof.TupleIter
import PyProof.Rows.CallKwBuiltin
import HandS.Star
import PySem.Challenge.RW_wholesound_k53_counts_refused
set_option Elab.async false
set_option linter.all false
set_option maxRecDepth 100000
set_option maxHeartbeats 4000000
set_option exponentiation.threshold 100000
namespace Pre
open PySem PySem.Spec PyProof.Rows L2
/-! ### heaps -/
theorem same_upd {H : Hp} {p : Addr} {o : HO} (h : H p = none) : Same H (upd H p o) := fun b x e => by
  rw [upd_ne (ne_of_none e h)]
  exact e
/-- a fresh thing that is then changed is no change of what was -/
theorem same_over {H H' : Hp} {p : Addr} {o : HO} (n : H p = none) (s : Same H H') : Same H (upd H' p o) := fun b x e => by
  rw [upd_ne (ne_of_none e n)]
  exact s b x e
theorem Same.tup {K : PySem.W.Frag} {H H' : Hp} {a : Addr} {xs : List V} (e : Same H H') (h : SqT K H a xs) : SqT K H' a xs := by
  rcases h with (h | ⟨o, h⟩) | h
  · exact .inl (.inl (e _ _ h))
  · exact .inl (.inr ⟨o, e _ _ h⟩)
  · exact .inr h
mutual
theorem dp_same {K : PySem.W.Frag} {H H' : Hp} (s : Same H H') : ∀ (d : PyData) (v : V), Dp K H v d → Dp K H' v d
  | .none, _, h => by cases h; exact .non
  | .bool _, _, h => by cases h; exact .bl _
  | .int _, _, h => by cases h; exact .int _
  | .str _, _, h => by cases h; exact .str _
  | .list ds, _, h => by cases h with | lst a b => exact .lst (s.seq a) (dps_same s ds _ b)
  | .tuple ds, _, h => by cases h with | tup a b => exact .tup (Same.tup s a) (dps_same s ds _ b)
  | .dict _, _, h => nomatch h
theorem dps_same {K : PySem.W.Frag} {H H' : Hp} (s : Same H H') : ∀ (ds : List PyData) (vs : List V), DpAll K H vs ds → DpAll K H' vs ds
  | [], _, h => by cases h; exact .nil
  | d :: ds, _, h => by cases h with | cons a b => exact .cons (dp_same s d _ a) (dps_same s ds _ b)
end
theorem dp_ints {K : PySem.W.Frag} {H : Hp} : ∀ ns : List Int, DpAll K H (ns.map V.int) (ns.map PyData.int)
  | [] => .nil
  | n :: r => .cons (.int n) (dp_ints r)
theorem eqv_ints : ∀ ns ms : List Int, PyData.eqvAll (ns.map PyData.int) (ms.map PyData.int) = decide (ns = ms)
  | [], [] => rfl
  | [], _ :: _ => rfl
  | _ :: _, [] => rfl
  | n :: r, m :: q => by
    show (PyData.eqv (.int n) (.int m) && PyData.eqvAll (r.map PyData.int) (q.map PyData.int)) = decide (n :: r = m :: q)
    rw [eqv_ints r q]
    show ((n == m) && decide (r = q)) = decide (n :: r = m :: q)
    by_cases h : n = m
    · subst h; simp
    · simp [h]
theorem lay_ints : ∀ ns : List Int, PyData.canLayAll0 (ns.map PyData.int) = true
  | [] => rfl
  | n :: r => by
    show (PyData.canLay0 (.int n) && PyData.canLayAll0 (r.map PyData.int)) = true
    rw [lay_ints r]
    rfl
theorem depth_ints : ∀ ns : List Int, PyData.depthAll (ns.map PyData.int) = 0
  | [] => by simp [PyData.depthAll]
  | n :: r => by
    show PyData.depthAll (.int n :: r.map PyData.int) = 0
    rw [PyData.depthAll, depth_ints r]
    simp [PyData.depth]
theorem shaped_ints (ns : List Int) : SeqAt.shaped (.list (ns.map PyData.int)) = true := by
  unfold SeqAt.shaped
  rw [PyData.canLay0, lay_ints, PyData.depth, depth_ints]
  rfl
theorem shaped_tup (ns : List Int) : SeqAt.shaped (.tuple (ns.map PyData.int)) = true := by
  unfold SeqAt.shaped
  rw [PyData.canLay0, lay_ints, PyData.depth, depth_ints]
  rfl
/-! ### comparisons of lists and tuples of whole numbers that are told alike -/
theorem ne_tup {K : PySem.W.Frag} {H : Hp} {a b : Addr} {ns : List Int} {Q : V → Hp → Prop} (ha : SqT K H a (ns.map V.int)) (hb : SqT K H b (ns.map V.int)) (q : Q (.bl false) H) : rNeD K (.ref a) (.ref b) H Q := by
  refine ⟨.tuple (ns.map PyData.int), .tuple (ns.map PyData.int), .tup ha (dp_ints ns), .tup hb (dp_ints ns), shaped_tup ns, shaped_tup ns, ?_⟩
  rw [PyData.eqv, eqv_ints, decide_eq_true rfl]
  exact q
theorem eq_tup {K : PySem.W.Frag} {H : Hp} {a b : Addr} {ns : List Int} {Q : V → Hp → Prop} (ha : SqT K H a (ns.map V.int)) (hb : SqT K H b (ns.map V.int)) (q : Q (.bl true) H) : rEqD K (.ref a) (.ref b) H Q := by
  refine ⟨.tuple (ns.map PyData.int), .tuple (ns.map PyData.int), .tup ha (dp_ints ns), .tup hb (dp_ints ns), shaped_tup ns, shaped_tup ns, ?_⟩
  rw [PyData.eqv, eqv_ints, decide_eq_true rfl]
  exact q
/-- lists of whole numbers, compared -/
theorem eqD_lst {K : PySem.W.Frag} {H : Hp} {a b : Addr} {ns ms : List Int} {Q : V → Hp → Prop} (ha : SqL K H a (ns.map V.int)) (hb : SqL K H b (ms.map V.int)) (q : Q (.bl (decide (ns = ms))) H) : rEqD K (.ref a) (.ref b) H Q := by
  refine ⟨.list (ns.map PyData.int), .list (ms.map PyData.int), .lst ha (dp_ints ns), .lst hb (dp_ints ms), shaped_ints ns, shaped_ints ms, ?_⟩
  rw [PyData.eqv, eqv_ints]
  exact q
theorem neD_lst {K : PySem.W.Frag} {H : Hp} {a b : Addr} {ns ms : List Int} {Q : V → Hp → Prop} (ha : SqL K H a (ns.map V.int)) (hb : SqL K H b (ms.map V.int)) (q : Q (.bl (!decide (ns = ms))) H) : rNeD K (.ref a) (.ref b) H Q := by
  refine ⟨.list (ns.map PyData.int), .list (ms.map PyData.int), .lst ha (dp_ints ns), .lst hb (dp_ints ms), shaped_ints ns, shaped_ints ms, ?_⟩
  rw [PyData.eqv, eqv_ints]
  exact q
theorem ne_lst {K : PySem.W.Frag} {H : Hp} {a b : Addr} {ns : List Int} {Q : V → Hp → Prop} (ha : SqL K H a (ns.map V.int)) (hb : SqL K H b (ns.map V.int)) (q : Q (.bl false) H) : rNeD K (.ref a) (.ref b) H Q :=
  neD_lst ha hb (by rw [decide_eq_true rfl]; exact q)
theorem eq_lst {K : PySem.W.Frag} {H : Hp} {a b : Addr} {ns : List Int} {Q : V → Hp → Prop} (ha : SqL K H a (ns.map V.int)) (hb : SqL K H b (ns.map V.int)) (q : Q (.bl true) H) : rEqD K (.ref a) (.ref b) H Q :=
  eqD_lst ha hb (by rw [decide_eq_true rfl]; exact q)
/-! ### powers -/
def CPowW (i j : Int) : Prop := 0 ≤ j ∧ (Builtin.Int.intBits i : Int) * j ≤ 2 ^ 27
theorem op_powW {X : Cx} : OpR X (binaryOp .Pow) (rI CPowW fun i j => .int (i ^ j.toNat)) := opI fun _ _ _ _ _ _ _ hc q => pow_int hc.1 hc.2 q
/-! ### comprehensions whose parts leave what is tracked as it is: sel tells of each item what comes of it -/
theorem take_fm {α : Type} {l : List (Option α)} {i : Nat} {o : Option α} (h : l[i]? = some o) : (l.take (i + 1)).filterMap id = (l.take i).filterMap id ++ o.toList := by
  rw [List.take_add_one, h, List.filterMap_append]
  cases o <;> rfl
theorem fm_len {α : Type} (l : List (Option α)) (i : Nat) : ((l.take i).filterMap id).length ≤ l.length :=
  Nat.le_trans (List.length_filterMap_le _ _) (by rw [List.length_take]; omega)
theorem lc_selL {K : PySem.W.Frag} {a : Addr} {xs : List V} {j : Nat} {tt : TT} {te : TE} {vs : List Nat} {σ : L2.St} {H1 : Hp} {D : Addr} {Qd : Hp → Prop} (sel : List (Option V)) (nD : H1 D = none) (hS : SqL K H1 a xs) (hlen : sel.length = xs.length) (hz : xs.length < sizeLine)
    (hw : ∀ x, wipe ((wipe σ vs).set j (some x)) vs = wipe σ vs)
    (hs : ∀ (i : Nat) (x : V) (o : Option V) (H' : Hp), xs[i]? = some x → sel[i]? = some o → Same H1 H' → ∀ Qt : Option V → Hp → Prop, (∀ H'', Same H' H'' → Qt o H'') →
      tt ((wipe σ vs).set j (some x)) H' fun b H3 => if b = true then te ((wipe σ vs).set j (some x)) H3 fun y H4 => Qt (some y) H4 else Qt none H3)
    (hd : ∀ H', Same H1 H' → H' D = some (.lst (sel.filterMap id)) → Qd H') :
    ∃ W : Nat → Nat → Hp → Prop, (∃ m, W 0 m (upd H1 D (.lst []))) ∧ ∀ i m H, W i m H →
      ((Itl K a).stop i H ∧ Qd H) ∨ ((Itl K a).go i H ∧ ∃ Nx : Hp → Prop, (∀ H', Nx H' → ∃ m', m' < m ∧ W (i + 1) m' H') ∧ ∀ x H', (Itl K a).yld i H x H' → gName j x (wipe σ vs) H' fun σ2 H2 => wipe σ2 vs = wipe σ vs ∧ tt σ2 H2 fun b H3 =>
        if b = true then te σ2 H3 fun y H4 => ∃ acc, H4 D = some (.lst acc) ∧ acc.length < sizeLine ∧ Nx (upd H4 D (.lst (acc ++ [y]))) else Nx H3) := by
  refine lc_list (K := K) (a := a) (xs := xs) (fun i H => Same H1 H ∧ H D = some (.lst ((sel.take i).filterMap id))) ⟨same_upd nD, upd_same⟩ (fun i H _ p => p.1.seq hS) ?_ ?_
  · rintro i x H hx ⟨s, hD⟩
    refine ⟨hw x, ?_⟩
    have hi : i < sel.length := by rw [hlen]; exact (List.getElem?_eq_some_iff.mp hx).1
    have ho : sel[i]? = some sel[i] := List.getElem?_eq_getElem hi
    have hl : ((sel.take i).filterMap id).length < sizeLine := Nat.lt_of_le_of_lt (fm_len sel i) (by omega)
    refine hs i x sel[i] H hx ho s (fun o H4 => match o with
      | some y => ∃ acc, H4 D = some (.lst acc) ∧ acc.length < sizeLine ∧ (Same H1 (upd H4 D (.lst (acc ++ [y]))) ∧ (upd H4 D (.lst (acc ++ [y]))) D = some (.lst ((sel.take (i + 1)).filterMap id)))
      | none => Same H1 H4 ∧ H4 D = some (.lst ((sel.take (i + 1)).filterMap id))) fun H4 s4 => ?_
    generalize sel[i] = o at ho ⊢
    cases o with
    | some y =>
      refine ⟨_, s4 _ _ hD, hl, same_over nD (s.trans s4), ?_⟩
      rw [upd_same, take_fm ho]
      rfl
    | none =>
      refine ⟨s.trans s4, ?_⟩
      rw [take_fm ho, s4 _ _ hD]
      simp
  · rintro H ⟨s, hD⟩
    refine hd H s ?_
    rw [hD, ← hlen, List.take_length]
theorem lc_selR {lo : Int} {n : Nat} {j : Nat} {tt : TT} {te : TE} {vs : List Nat} {σ : L2.St} {H1 : Hp} {D : Addr} {Qd : Hp → Prop} (sel : List (Option V)) (nD : H1 D = none) (hlen : sel.length = n) (hz : n < sizeLine)
    (hw : ∀ x, wipe ((wipe σ vs).set j (some x)) vs = wipe σ vs)
    (hs : ∀ (i : Nat) (o : Option V) (H' : Hp), i < n → sel[i]? = some o → Same H1 H' → ∀ Qt : Option V → Hp → Prop, (∀ H'', Same H' H'' → Qt o H'') →
      tt ((wipe σ vs).set j (some (.int (lo + (i : Int))))) H' fun b H3 => if b = true then te ((wipe σ vs).set j (some (.int (lo + (i : Int))))) H3 fun y H4 => Qt (some y) H4 else Qt none H3)
    (hd : ∀ H', Same H1 H' → H' D = some (.lst (sel.filterMap id)) → Qd H') :
    ∃ W : Nat → Nat → Hp → Prop, (∃ m, W 0 m (upd H1 D (.lst []))) ∧ ∀ i m H, W i m H →
      ((Itr lo n).stop i H ∧ Qd H) ∨ ((Itr lo n).go i H ∧ ∃ Nx : Hp → Prop, (∀ H', Nx H' → ∃ m', m' < m ∧ W (i + 1) m' H') ∧ ∀ x H', (Itr lo n).yld i H x H' → gName j x (wipe σ vs) H' fun σ2 H2 => wipe σ2 vs = wipe σ vs ∧ tt σ2 H2 fun b H3 =>
        if b = true then te σ2 H3 fun y H4 => ∃ acc, H4 D = some (.lst acc) ∧ acc.length < sizeLine ∧ Nx (upd H4 D (.lst (acc ++ [y]))) else Nx H3) := by
  refine lc_range (lo := lo) (n := n) (fun i H => Same H1 H ∧ H D = some (.lst ((sel.take i).filterMap id))) ⟨same_upd nD, upd_same⟩ ?_ ?_
  · rintro i H hi' ⟨s, hD⟩
    refine ⟨hw _, ?_⟩
    have hi : i < sel.length := by rw [hlen]; exact hi'
    have ho : sel[i]? = some sel[i] := List.getElem?_eq_getElem hi
    have hl : ((sel.take i).filterMap id).length < sizeLine := Nat.lt_of_le_of_lt (fm_len sel i) (by omega)
    refine hs i sel[i] H hi' ho s (fun o H4 => match o with
      | some y => ∃ acc, H4 D = some (.lst acc) ∧ acc.length < sizeLine ∧ (Same H1 (upd H4 D (.lst (acc ++ [y]))) ∧ (upd H4 D (.lst (acc ++ [y]))) D = some (.lst ((sel.take (i + 1)).filterMap id)))
      | none => Same H1 H4 ∧ H4 D = some (.lst ((sel.take (i + 1)).filterMap id))) fun H4 s4 => ?_
    generalize sel[i] = o at ho ⊢
    cases o with
    | some y =>
      refine ⟨_, s4 _ _ hD, hl, same_over nD (s.trans s4), ?_⟩
      rw [upd_same, take_fm ho]
      rfl
    | none =>
      refine ⟨s.trans s4, ?_⟩
      rw [take_fm ho, s4 _ _ hD]
      simp
  · rintro H ⟨s, hD⟩
    refine hd H s ?_
    rw [hD, ← hlen, List.take_length]
theorem fm_some {α : Type} (ys : List α) : (ys.map some).filterMap id = ys := by
  rw [List.filterMap_map]
  show List.filterMap (fun y => some y) ys = ys
  exact List.filterMap_some
/-- no test: ys tells what comes of each item -/
theorem lc_mapL {K : PySem.W.Frag} {a : Addr} {xs : List V} {j : Nat} {te : TE} {vs : List Nat} {σ : L2.St} {H1 : Hp} {D : Addr} {Qd : Hp → Prop} (ys : List V) (nD : H1 D = none) (hS : SqL K H1 a xs) (hlen : ys.length = xs.length) (hz : xs.length < sizeLine)
    (hw : ∀ x, wipe ((wipe σ vs).set j (some x)) vs = wipe σ vs)
    (hs : ∀ (i : Nat) (x y : V) (H' : Hp), xs[i]? = some x → ys[i]? = some y → Same H1 H' → ∀ Qt : V → Hp → Prop, (∀ H'', Same H' H'' → Qt y H'') → te ((wipe σ vs).set j (some x)) H' Qt)
    (hd : ∀ H', Same H1 H' → H' D = some (.lst ys) → Qd H') :
    ∃ W : Nat → Nat → Hp → Prop, (∃ m, W 0 m (upd H1 D (.lst []))) ∧ ∀ i m H, W i m H →
      ((Itl K a).stop i H ∧ Qd H) ∨ ((Itl K a).go i H ∧ ∃ Nx : Hp → Prop, (∀ H', Nx H' → ∃ m', m' < m ∧ W (i + 1) m' H') ∧ ∀ x H', (Itl K a).yld i H x H' → gName j x (wipe σ vs) H' fun σ2 H2 => wipe σ2 vs = wipe σ vs ∧ tYes σ2 H2 fun b H3 =>
        if b = true then te σ2 H3 fun y H4 => ∃ acc, H4 D = some (.lst acc) ∧ acc.length < sizeLine ∧ Nx (upd H4 D (.lst (acc ++ [y]))) else Nx H3) := by
  refine lc_selL (K := K) (a := a) (xs := xs) (tt := tYes) (ys.map some) nD hS (by rw [List.length_map]; exact hlen) hz hw ?_ ?_
  · intro i x o H' hx ho s Qt qt
    rw [List.getElem?_map] at ho
    obtain ⟨y, hy, rfl⟩ := Option.map_eq_some_iff.mp ho
    show if true = true then te ((wipe σ vs).set j (some x)) H' (fun y H4 => Qt (some y) H4) else Qt none H'
    exact iteT (hs i x y H' hx hy s (fun y H4 => Qt (some y) H4) qt)
  · intro H' s hD
    rw [fm_some] at hD
    exact hd H' s hD
theorem lc_mapR {lo : Int} {n : Nat} {j : Nat} {te : TE} {vs : List Nat} {σ : L2.St} {H1 : Hp} {D : Addr} {Qd : Hp → Prop} (ys : List V) (nD : H1 D = none) (hlen : ys.length = n) (hz : n < sizeLine)
    (hw : ∀ x, wipe ((wipe σ vs).set j (some x)) vs = wipe σ vs)
    (hs : ∀ (i : Nat) (y : V) (H' : Hp), i < n → ys[i]? = some y → Same H1 H' → ∀ Qt : V → Hp → Prop, (∀ H'', Same H' H'' → Qt y H'') → te ((wipe σ vs).set j (some (.int (lo + (i : Int))))) H' Qt)
    (hd : ∀ H', Same H1 H' → H' D = some (.lst ys) → Qd H') :
    ∃ W : Nat → Nat → Hp → Prop, (∃ m, W 0 m (upd H1 D (.lst []))) ∧ ∀ i m H, W i m H →
      ((Itr lo n).stop i H ∧ Qd H) ∨ ((Itr lo n).go i H ∧ ∃ Nx : Hp → Prop, (∀ H', Nx H' → ∃ m', m' < m ∧ W (i + 1) m' H') ∧ ∀ x H', (Itr lo n).yld i H x H' → gName j x (wipe σ vs) H' fun σ2 H2 => wipe σ2 vs = wipe σ vs ∧ tYes σ2 H2 fun b H3 =>
        if b = true then te σ2 H3 fun y H4 => ∃ acc, H4 D = some (.lst acc) ∧ acc.length < sizeLine ∧ Nx (upd H4 D (.lst (acc ++ [y]))) else Nx H3) := by
  refine lc_selR (lo := lo) (n := n) (tt := tYes) (ys.map some) nD (by rw [List.length_map]; exact hlen) hz hw ?_ ?_
  · intro i o H' hi ho s Qt qt
    rw [List.getElem?_map] at ho
    obtain ⟨y, hy, rfl⟩ := Option.map_eq_some_iff.mp ho
    show if true = true then te ((wipe σ vs).set j (some (.int (lo + (i : Int))))) H' (fun y H4 => Qt (some y) H4) else Qt none H'
    exact iteT (hs i y H' hi hy s (fun y H4 => Qt (some y) H4) qt)
  · intro H' s hD
    rw [fm_some] at hD
    exact hd H' s hD
/-- an item of a list of whole numbers -/
theorem int_at {ns : List Int} {i : Nat} {x : V} (h : (ns.map V.int)[i]? = some x) : ∃ n, ns[i]? = some n ∧ x = .int n := by
  rw [List.getElem?_map] at h
  obtain ⟨n, hn, e⟩ := Option.map_eq_some_iff.mp h
  exact ⟨n, hn, e.symm⟩
/-! ### rules with the written part named (within a comprehension Lean doesn't find it) -/
section
variable {X : Cx}
theorem k_len (K : PySem.W.Frag) (h : X.K = K) : CallR X (.builtin "len") (fun xs H Q => ∃ p ys, xs = [.ref p] ∧ (SqL K H p ys ∨ SqT K H p ys) ∧ Q (.int ys.length) H) := by subst h; exact call_len_seq
theorem k_sum (K : PySem.W.Frag) (h : X.K = K) (hc : X.calm = true) : CallR X (.builtin "sum") (rSum K) := by subst h; exact cr_sum hc
theorem k_max (K : PySem.W.Frag) (h : X.K = K) (hc : X.calm = true) : CallR X (.builtin "max") (rMax K) := by subst h; exact cr_max hc
theorem k_min (K : PySem.W.Frag) (h : X.K = K) (hc : X.calm = true) : CallR X (.builtin "min") (rMin K) := by subst h; exact cr_min hc
theorem k_isi (K : PySem.W.Frag) (h : X.K = K) : CallR X (.builtin "isinstance") (rIsi K) := by subst h; exact call_isi
theorem k_listOf (K : PySem.W.Frag) (h : X.K = K) : CallR X (.type "list") (fun xs H Q => ∃ p ys, xs = [.ref p] ∧ (SqL K H p ys ∨ SqT K H p ys) ∧ ∀ l, H l = none → Q (.ref l) (upd H l (.lst ys))) := by subst h; exact call_list_of
theorem k_tupleOf (K : PySem.W.Frag) (h : X.K = K) : CallR X (.type "tuple") (fun xs H Q => ∃ p ys, xs = [.ref p] ∧ ((SqL K H p ys ∧ ∀ l, H l = none → Q (.ref l) (upd H l (.tup ys))) ∨ (SqT K H p ys ∧ Q (.ref p) H))) := by subst h; exact call_tuple_of
theorem k_ixL (K : PySem.W.Frag) (h : X.K = K) : IxR X (rIxL K) := by subst h; exact ix_list
theorem k_ixT (K : PySem.W.Frag) (h : X.K = K) : IxR X (rIxT K) := by subst h; exact ix_tup
theorem k_slL (K : PySem.W.Frag) (h : X.K = K) : SlR X (rSlL K) := by subst h; exact sl_list
theorem k_slT (K : PySem.W.Frag) (h : X.K = K) : SlR X (rSlT K) := by subst h; exact sl_tup
theorem k_eqD (K : PySem.W.Frag) (h : X.K = K) (hu : X.A.units + 64 < cLine) : OpR X (compareOp .Eq) (rEqD K) := by subst h; exact op_eqD hu
theorem k_neD (K : PySem.W.Frag) (h : X.K = K) (hu : X.A.units + 64 < cLine) : OpR X (compareOp .NotEq) (rNeD K) := by subst h; exact op_neD hu
theorem k_in (K : PySem.W.Frag) (h : X.K = K) : OpR X (compareOp .In) (rIn K false) := by subst h; exact op_in_seq
theorem k_notIn (K : PySem.W.Frag) (h : X.K = K) : OpR X (compareOp .NotIn) (rIn K true) := by subst h; exact op_notIn_seq
theorem k_piL (K : PySem.W.Frag) (h : X.K = K) {tg l : Expr} {tl : TE} (hl : PE X l tl) : PI X tg l (iList K tl) := by subst h; exact pi_list hl
theorem k_piT (K : PySem.W.Frag) (h : X.K = K) {tg l : Expr} {tl : TE} (hl : PE X l tl) : PI X tg l (iTup K tl) := by subst h; exact pi_tup hl
theorem k_piE (K : PySem.W.Frag) (h : X.K = K) {e : Expr} {ta : TA} {p pos tpos : Pos} {elts : List Expr} {kk : Nat} (hg : Gl X "enumerate") (hm : X.mg "enumerate" = none) (ha : PA X [e] ta) (hs : starEach [e] X.env = [(false, eval e X.env)] := by rfl) : PI X (.Tuple elts kk tpos) (.Call (.Name "enumerate" p) [e] [] pos) (iEnum K ta) := by subst h; exact pi_enum hg hm ha hs
theorem k_pgT (K : PySem.W.Frag) (h : X.K = K) {es : List Expr} {k : Nat} {t : TGs} {n : Nat} {pos : Pos} (hc : X.calm = true) (hp : PGs X es t) (hn : (assignEach es X.env).length = n := by rfl) (hst : (assignEach es X.env).findIdx? (·.1) = none := by rfl) : PG X (.Tuple es k pos) (gTup K n t) := by subst h; exact pg_tup hc hp hn hst
theorem k_pgL (K : PySem.W.Frag) (h : X.K = K) {es : List Expr} {k : Nat} {t : TGs} {n : Nat} {pos : Pos} (hc : X.calm = true) (hp : PGs X es t) (hn : (assignEach es X.env).length = n := by rfl) (hst : (assignEach es X.env).findIdx? (·.1) = none := by rfl) : PG X (.Tuple es k pos) (gUnl K n t) := by subst h; exact pg_unl hc hp hn hst
theorem k_fld (K : PySem.W.Frag) (h : X.K = K) {e : Expr} {f : Str} {pos : Pos} {ta : TE} (he : PE X e ta) (hb : attributeBase e f X.env (eval e X.env) = eval e X.env) : PE X (.Attribute e f pos) (tFld K ta f) := by subst h; exact pe_fld he hb
theorem k_index (K : PySem.W.Frag) (h : X.K = K) : MtR X "list.index" (rIndex K) := by subst h; exact mt_index
end
/-! ### small things -/
theorem fresh {H : Hp} {p : Addr} (o : HO) (np : H p = none) : ∃ H', upd H p o = H' ∧ Same H H' ∧ H' p = some o := ⟨_, rfl, same_upd np, upd_same⟩
theorem cut_take (xs : List V) (k : Nat) : cutV xs none (some (k : Int)) = xs.take k := by
  unfold cutV
  rw [HT.sIx_nat, HT.sIx_none, List.drop_zero, Nat.sub_zero]
  rcases Nat.le_total k xs.length with h | h
  · rw [Nat.min_eq_left h]
  · rw [Nat.min_eq_right h, List.take_of_length_le h, List.take_length]
theorem cut_drop (xs : List V) (k : Nat) : cutV xs (some (k : Int)) none = xs.drop k := by
  unfold cutV
  rw [HT.sIx_nat, HT.sIx_none]
  rcases Nat.le_total k xs.length with h | h
  · rw [Nat.min_eq_left h, List.take_of_length_le (by rw [List.length_drop]; exact Nat.le_refl _)]
  · rw [Nat.min_eq_right h, List.drop_length, List.drop_of_length_le h, List.take_nil]
theorem rep_ints (k : Nat) (ks : List Int) : (List.replicate k (ks.map V.int)).flatten = ((List.replicate k ks).flatten).map V.int := by
  rw [List.map_flatten, List.map_replicate]
theorem rep_len {α : Type} (k : Nat) (ks : List α) : ((List.replicate k ks).flatten).length = k * ks.length := by
  induction k with
  | zero => simp
  | succ k ih => rw [List.replicate_succ, List.flatten_cons, List.length_append, ih, Nat.succ_mul]; omega
theorem rep_mem {α : Type} {k : Nat} {ks : List α} {x : α} (h : x ∈ (List.replicate k ks).flatten) : x ∈ ks := by
  obtain ⟨l, hl, hx⟩ := List.mem_flatten.mp h
  rw [(List.mem_replicate.mp hl).2] at hx
  exact hx
/-! ### comprehensions that make new things: R tells what is known of the i-th; D is no part of it -/
def Off (D : Addr) (H H' : Hp) : Prop := ∀ b o, b ≠ D → H b = some o → H' b = some o
def RelPv (R : Nat → V → Hp → Prop) (H1 : Hp) (D : Addr) (i : Nat) (H : Hp) : Prop := ∃ ys : List V, Same H1 H ∧ H D = some (.lst ys) ∧ ys.length = i ∧ ∀ (k : Nat) (y : V), ys[k]? = some y → R k y H
theorem lc_relR {lo : Int} {n : Nat} {j : Nat} {te : TE} {vs : List Nat} {σ : L2.St} {H1 : Hp} {D : Addr} {Qd : Hp → Prop} (R : Nat → V → Hp → Prop) (nD : H1 D = none) (hz : n < sizeLine)
    (mono : ∀ i y H H', Off D H H' → R i y H → R i y H')
    (hw : ∀ x, wipe ((wipe σ vs).set j (some x)) vs = wipe σ vs)
    (hs : ∀ (i : Nat) (H' : Hp) (xs : List V), i < n → Same H1 H' → H' D = some (.lst xs) → ∀ Qt : V → Hp → Prop, (∀ y H'', Same H' H'' → R i y H'' → Qt y H'') → te ((wipe σ vs).set j (some (.int (lo + (i : Int))))) H' Qt)
    (hd : ∀ H' ys, Same H1 H' → H' D = some (.lst ys) → ys.length = n → (∀ (i : Nat) (y : V), ys[i]? = some y → R i y H') → Qd H') :
    ∃ W : Nat → Nat → Hp → Prop, (∃ m, W 0 m (upd H1 D (.lst []))) ∧ ∀ i m H, W i m H →
      ((Itr lo n).stop i H ∧ Qd H) ∨ ((Itr lo n).go i H ∧ ∃ Nx : Hp → Prop, (∀ H', Nx H' → ∃ m', m' < m ∧ W (i + 1) m' H') ∧ ∀ x H', (Itr lo n).yld i H x H' → gName j x (wipe σ vs) H' fun σ2 H2 => wipe σ2 vs = wipe σ vs ∧ tYes σ2 H2 fun b H3 =>
        if b = true then te σ2 H3 fun y H4 => ∃ acc, H4 D = some (.lst acc) ∧ acc.length < sizeLine ∧ Nx (upd H4 D (.lst (acc ++ [y]))) else Nx H3) := by
  refine lc_range (lo := lo) (n := n) (RelPv R H1 D) ⟨[], same_upd nD, upd_same, rfl, fun k y h => by simp at h⟩ ?_ ?_
  · rintro i H hi ⟨ys, s, hD, hl, hR⟩
    refine ⟨hw _, ?_⟩
    show if true = true then te ((wipe σ vs).set j (some (.int (lo + (i : Int))))) H (fun y H4 => ∃ acc, H4 D = some (.lst acc) ∧ acc.length < sizeLine ∧ RelPv R H1 D (i + 1) (upd H4 D (.lst (acc ++ [y])))) else RelPv R H1 D (i + 1) H
    refine iteT (hs i H ys hi s hD _ fun y H4 s4 r4 => ?_)
    refine ⟨ys, s4 _ _ hD, by omega, ys ++ [y], same_over nD (s.trans s4), upd_same, by rw [List.length_append, hl]; rfl, fun k z hz => ?_⟩
    have off : Off D H4 (upd H4 D (.lst (ys ++ [y]))) := fun b o nb h => by rw [upd_ne nb]; exact h
    by_cases hk : k < ys.length
    · rw [List.getElem?_append_left hk] at hz
      exact mono k z H _ (fun b o nb h => off b o nb (s4 b o h)) (hR k z hz)
    · rw [List.getElem?_append_right (by omega)] at hz
      have hk2 : k - ys.length = 0 := by
        have h2 := (List.getElem?_eq_some_iff.mp hz).1
        rw [List.length_singleton] at h2
        omega
      rw [hk2] at hz
      cases hz
      have ek : k = i := by omega
      rw [ek]
      exact mono i y H4 _ off r4
  · rintro H ⟨ys, s, hD, hl, hR⟩
    exact hd H ys s hD hl hR
/-! ### ways that are told by whole numbers -/
theorem iteDT {p A B : Prop} [Decidable p] (hp : p) (h : A) : if decide p = true then A else B := by rw [decide_eq_true hp]; exact iteT h
theorem iteDF {p A B : Prop} [Decidable p] (hp : ¬ p) (h : B) : if decide p = true then A else B := by rw [decide_eq_false hp]; exact iteF h
theorem iteNT {p A B : Prop} [Decidable p] (hp : ¬ p) (h : A) : if (!decide p) = true then A else B := by rw [decide_eq_false hp]; exact iteT h
theorem iteNF {p A B : Prop} [Decidable p] (hp : p) (h : B) : if (!decide p) = true then A else B := by rw [decide_eq_true hp]; exact iteF h
theorem iteET {a b : Int} {A B : Prop} [Decidable (V.int a = V.int b)] (hp : a = b) (h : A) : if decide (V.int a = V.int b) = true then A else B := iteDT (congrArg V.int hp) h
theorem iteEF {a b : Int} {A B : Prop} [Decidable (V.int a = V.int b)] (hp : ¬ a = b) (h : B) : if decide (V.int a = V.int b) = true then A else B := iteDF (fun z => hp (V.int.inj z)) h
theorem iteENT {a b : Int} {A B : Prop} [Decidable (V.int a = V.int b)] (hp : ¬ a = b) (h : A) : if (!decide (V.int a = V.int b)) = true then A else B := iteNT (fun z => hp (V.int.inj z)) h
theorem iteENF {a b : Int} {A B : Prop} [Decidable (V.int a = V.int b)] (hp : a = b) (h : B) : if (!decide (V.int a = V.int b)) = true then A else B := iteNF (congrArg V.int hp) h
theorem iteNtt {A B : Prop} (h : B) : if (!true) = true then A else B := h
theorem iteNff {A B : Prop} (h : A) : if (!false) = true then A else B := h
/-- 1 or 0 of a comparison -/
theorem int_if {p : Prop} [Decidable p] : (if decide p = true then (1 : Int) else 0) = if p then 1 else 0 := by by_cases h : p <;> simp [h]
end Pre

namespace My
open PySem PySem.Spec PyProof.Rows L2
/-! ### own errors whose __init__ says super().__init__(value); self.value = value -/
namespace Sup
open PySem.W PySem.Calls
section
variable {prog : Program} {w : World} {A : Around} {E : Value → Shared → Prop} {h : Heap} {g : Array GenState} {d : Drawn} {t : Nat} {os : OsState}
variable {nm q : Str} {C N : Addr} {bs bm : List Value} {hdct : Bool} {sn : List Str} {sub : List Value} {ab : Bool} {col : Option Bool} {dd : Option Addr} {k0 k1 k2 k3 k5 : Option Value}
theorem call_bwV {u e t0 : Addr} {rest : List Value} {Q : Value → Shared → Prop}
    (hC : h.get? C = some (excClassObj nm q C N bs bm hdct sn sub ab col dd k0 k1 k2 k3 k5 "ValueError.__new__")) (he : h.get? e = some (HandSPX.excO C t0)) (hu : h.get? u = some (kxs_mw "ValueError.__init__" e)) (hrest : rest.length ≤ sizeLine)
    (hq : ∀ h' t1, (∀ b o, b ≠ e → h.get? b = some o → h'.get? b = some o) → h'.get? e = some (HandSPX.excO C t1) → Q .none ⟨h', g, d, t, os⟩) :
    wpAny (model prog w) A (call (.ref u) rest) Q E ⟨h, g, d, t, os⟩ := by
  refine wpAny_call (codeAny_of_tree ?_)
  show wpAny _ A.in1 (callAny (.ref u) ⟨rest, []⟩) _ _ _
  simp only [callAny]
  refine wpAny_bind (wpAny_load hu ?_)
  simp only [kxs_mw, show (Value.type "method-wrapper" == Value.type "method" || Value.type "method-wrapper" == Value.type "builtin_function_or_method" || Value.type "method-wrapper" == Value.type "method-wrapper") = true by decide, if_true]
  refine W.KFB.if_so (by decide) ?_
  refine wpAny_bind (ESX.check_bound F.excBase_ValueError hC he rfl ?_)
  refine wpAny_bind (wpAny_pure (wpAny_pure ?_))
  refine ⟨Code.quiet_builtin _ (by decide +kernel), codeAny_builtin F.excBase_ValueError.initEntry ?_⟩
  rw [Around.under_plainId F.excBase_ValueError.init.plain _]
  exact exc_init_tree (cls := .ref C) (t0 := t0) (dv := none) (c2 := .none) (c3 := .none) (b4 := .bool false) he hrest fun h' k e' _ => hq h' _ k e'
end
/-- the file of the program: what its code objects are asked for -/
class PF (P : Program) (file : Str) : Prop where
  file : ((P.main.file : Str) == file) = true
  top : (P.main.scope.names.lookup ("super" : Str)).isSome = false
/-- what the written part says of such a class C, named x, and its __init__ at fI -/
structure SupC (K : Frag) (file x : Str) (st : Stmt) (C fI : Addr) (fd : FuncData) : Prop where
  T : OexC K C
  ex : ∃ (oc : Value) (od : Option Addr) (dV kV doc pm : Value) (an : Option Addr) (c cc : Addr) (ct : Value) (osl : Array (Option Value)),
    fd = ksFn "__init__" (x ++ (".__init__" : Str)) (defArgs st) (defBody st) (defScope st) dV kV doc pm an (.ref c) ct cc ∧ K.lookup fI = some ⟨oc, od, .func fd, osl⟩ ∧ codeIn K (.ref c) (x ++ (".__init__" : Str)) = true ∧
    (∃ (ccl : Value) (cdd : Option Addr) (vs : Array Value) (ccs : Array (Option Value)) (tf : Tok), K.lookup c = some ⟨ccl, cdd, .fields vs, ccs⟩ ∧ vs[2]? = some (.str file tf)) ∧ (∃ (cl : Value) (cld : Option Addr) (csl : Array (Option Value)), K.lookup cc = some ⟨cl, cld, .cell (some (.ref C)), csl⟩)
  sup : ks_superIn K C C "__init__" = some (some (.builtin "ValueError.__init__"))
  subV : subIn K (.ref C) (.type "ValueError") = some true
  subC : mroIn K C (.ref C) = some true
  opq : nsIn K cStatics "thirdparty.any" = some none
  nov : findIn K (.ref C) "value" = some none
/-- the body's shape -/
def SupBody (st : Stmt) : Prop := ∃ p0 p1 p2 p3 p4 p5 p6 p7 p8 p9 : Pos,
  defBody st = [.Expr (.Call (.Attribute (.Call (.Name "super" p0) [] [] p1) "__init__" p2) [.Name "value" p3] [] p4) p5, .Assign [.Attribute (.Name "self" p6) "value" p7] (.Name "value" p8) p9] ∧
  ((defArgs st).posonlyargs ++ (defArgs st).args).head?.map (·.arg) = some ("self" : Str) ∧
  ∀ env : Env, ∃ pl : Sem Bool, eval (.Call (.Attribute (.Call (.Name "super" p0) [] [] p1) "__init__" p2) [.Name "value" p3] [] p4) env = (do
      let ov ← attributeBase (.Call (.Name "super" p0) [] [] p1) "__init__" env (eval (.Call (.Name "super" p0) [] [] p1) env)
      standAt p2.atName
      let (f, first) ← holding [ov] (getMethod ov "__init__" pl)
      callWith p4 f first (backTo p4 (starEach [.Name "value" p3] env)) [])
def sp_exc_init (C : Addr) : Sp := fun vs H Q _ => ∃ (a : Addr) (v : V), vs = [.ref a, v] ∧ H a = some (exo a C none) ∧ ∀ d, H d = none → d ≠ a → Q .non (upd (upd H d (exd d [("value", v)])) a (exo a C (some d)))
section
variable {P : Program} {w : World} {K : Frag} {mg : Str → Option Value} {base : Heap} {CX : CXT} {file x : Str} {st : Stmt} {C fI : Addr} {fd : FuncData}
theorem fn_sup [pf : PF P file] (S : NdefX.NScope ["self", "value", "__class__"] ["self", "value"] ["__class__"] (defScope st)) (hgs : (defScope st).names.lookup ("super" : Str) = some .globalImplicit) (hb0 : SupBody st) (F : SupC K file x st C fI fd) (nosup : mg ("super" : Str) = none) :
    FnOk P w K mg base CX 1 fI fd ["self", "value"] (sp_exc_init C) := by
  refine ⟨fun vs H Q E h => by obtain ⟨a, v, rfl, _⟩ := h; rfl, fun A outer s H args us vs Q E hr e0 hb rv hsp => ?_⟩
  obtain ⟨a, v, rfl, ha, q⟩ := hsp
  obtain ⟨oc, od, dV, kV, doc, pm, an, c, cc, ct, osl, rfl, lk, hcd, ⟨ccl, cdd, cvs, ccs, tf, lkc, hvs⟩, cl, cld, csl, lkcc⟩ := F.ex
  obtain ⟨p0, p1, p2, p3, p4, p5, p6, p7, p8, p9, hbody, hself, hev⟩ := hb0
  obtain ⟨pl, hpl⟩ := hev (NdefX.envF ⟨"__init__", x ++ (".__init__" : Str), defArgs st, defBody st, defScope st, [("__class__", cc)], c⟩ fI s.heap.objs.size)
  have hin : K.In s.heap := e0.mod.kin.keeps fun b o z => (e0.bs b o z).1
  have lim : s.heap.NoLimit := e0.mod.nolimit.keeps fun b o e => (e0.bs b o e).1
  let Fn : NdefX.NF := ⟨"__init__", x ++ (".__init__" : Str), defArgs st, defBody st, defScope st, [("__class__", cc)], c⟩
  refine codeAny_call_function hr.depth (hin _ _ lk) rfl S.co S.gen rfl (codeRec_of hin hcd) (hb _ _ _ _ ?_)
  refine wpAny_newFunctionEnv S.nocell (fun ⟨n, _⟩ hy => S.par n (List.of_mem_zip hy).1) (fun h₁ hns hsb => ⟨lim.fresh _ hsb, ?_⟩) S.kind
  show codeAny _ _ (.func (defBody st) (NdefX.envF Fn fI s.heap.objs.size)) _ _
  have kp : ∀ b o, s.heap.get? b = some o → h₁.get? b = some o := fun b o e => hsb.extBut b o (Nat.ne_of_lt (Heap.lt_size e)) (Heap.get?_push_of_some _ e)
  have hcc : ∀ y c', ([("__class__", cc)] : List (Str × Addr)).lookup y = some c' → y = ("__class__" : Str) ∧ c' = cc := fun y c' e => by
    by_cases h : y = ("__class__" : Str)
    · subst h
      cases e
      exact ⟨rfl, rfl⟩
    · rw [List.lookup_cons, show (y == ("__class__" : Str)) = false by simpa using h] at e
      cases e
  have cells : NdefX.CellsAt Fn.cl ["__class__"] [some (.ref C)] s.heap H := {
    len := rfl
    all := fun y c' e => by
      obtain ⟨_, rfl⟩ := hcc y c' e
      exact ⟨(e0.bs _ _ (e0.mod.kin _ _ lkcc)).2, _, _, hin _ _ lkcc, rfl⟩
    inj := fun y z c' e1 e2 => by rw [(hcc y c' e1).1, (hcc z c' e2).1]
    has := fun i y e => by
      cases i with
      | zero =>
        cases e
        refine ⟨cc, rfl, fun u hu => ?_⟩
        cases hu
        exact ⟨.ref C, rfl, _, hin _ _ lkcc, rfl⟩
      | succ i => simp at e }
  have I : Inv (NdefX.ncx CX P w K mg base ["self", "value", "__class__"] Fn fI A outer s H E) [] (NdefX.startF ["self", "value", "__class__"] [.ref a, v] [some (.ref C)]) H { s with heap := h₁, toks := s.toks + (["self", "value"].zip us).length } := NdefX.inv_startN S hr.hd e0 rfl rv cells hns kp
  obtain ⟨nm, q0, N, bs, bm, sn, sub, ab, col, dd, k0, k1, k2, k3, k5, hC, hbm⟩ := F.T.cls
  have hcl : clsIn K C = some { name := nm, bases := bs, mro := .ref C :: bm, ns := N, qualname := q0, hasDict := true, slotNames := sn, subclasses := sub, abstract := ab, collection := col, hasDel := false } := by unfold clsIn; rw [hC] <;> rfl
  refine ks_codeAny_funcAt ?_
  rw [hbody]
  obtain ⟨ar, hp, har⟩ : ∃ ar, ((defArgs st).posonlyargs ++ (defArgs st).args).head? = some ar ∧ ar.arg = ("self" : Str) := by
    cases e : ((defArgs st).posonlyargs ++ (defArgs st).args).head? with
    | none => rw [e] at hself; cases hself
    | some ar => rw [e] at hself; exact ⟨ar, rfl, Option.some.inj hself⟩
  have X1 : K.In h₁ := hin.keeps kp
  obtain ⟨ual, rfl⟩ : ∃ u1, us = [.ref a, u1] := by
    cases rv with
    | cons r1 r2 => cases r2 with
      | cons r3 r4 => cases r4; cases r1; exact ⟨_, rfl⟩
  refine ks_wpAt_execs_cons (ks_wpAt_Expr_any (ks_wpAt_MethodCall (pl := pl) ?_ hpl) I.quiet)
  refine ks_wpAt_super_base (env := NdefX.envF Fn fI s.heap.objs.size) hgs (S.frk _ (by simp)) (by decide) rfl (X1 _ _ lk) rfl hp rfl (X1 _ _ lkc) rfl hvs pf.file pf.top ?_
  obtain ⟨mb, hb1, hb2⟩ := I.mod.blt
  refine ks_loadName_global S.kind hgs (loadGlobal_builtin (env := NdefX.envF Fn fI s.heap.objs.size) (I.mod.glob.keeps I.bk) nosup (hb1.keeps I.bk) ((hb2 _ (by decide)).trans (show bootBuiltins "super" = some (.type "super") by decide +kernel)) ⟨rfl, ?_⟩)
  refine wpAny_loadName_free S.kind (S.frk _ (by simp)) rfl ⟨_, X1 _ _ lkcc, rfl⟩ ?_
  rw [har]
  refine wpAny_loadName_local S.kind (S.par _ (by simp)) hns rfl ?_
  obtain ⟨t1, he0⟩ := exo_at e0.hok ha
  have he1 := kp _ _ he0
  refine ks_wpAny_isType_cls (X1 _ _ hC) rfl ⟨rfl, ?_⟩
  refine ks_wpAny_call_super (X1 _ _ hC) rfl he1 rfl (fun c e => by cases e) (looks_mroIn X1 F.subC) (fun h2 hso k2 => ?_)
  have X2 : K.In h2 := X1.keeps k2
  have he2 := k2 _ _ he1
  have IA : InstAt h2 a (HandSPX.excO C t1) C none := ⟨he2, rfl, rfl, trivial⟩
  have hf := F.sup
  unfold ks_superIn at hf
  rw [hcl] at hf
  refine kxs_getMethod kxs_ValueError hso (looks_opaque X2 F.opq) (l₀ := .ref C :: bm) (fun A Q E s k q => wpAny_bind ((looks_clsIn X2 hcl) A _ E s k (wpAny_pure q))) rfl X2 hf (IA.type.andThen (looks_subIn X2 F.subV)) (ks_ne X2 IA hcl) (by decide) ?_
  have k3 : ∀ b o, h₁.get? b = some o → (h2.push (kxs_mw "ValueError.__init__" a)).get? b = some o := fun b o e => Heap.get?_push_of_some _ (k2 b o e)
  have I3 := I.kept (h' := h2.push (kxs_mw "ValueError.__init__" a)) (t' := s.toks + (["self", "value"].zip [Value.ref a, ual]).length + 1) k3
  refine kxs_callWith (i := "ValueError.__init__") (x := a) rfl ?_
  rw [show starEach [Expr.Name "value" p3] (NdefX.envF Fn fI s.heap.objs.size) = (false, eval (.Name "value" p3) (NdefX.envF Fn fI s.heap.objs.size)) :: starEach [] (NdefX.envF Fn fI s.heap.objs.size) from rfl]
  refine evalArgs_plain ?_
  refine spliced_cons ?_
  obtain ⟨m, hn, hl⟩ := I3.loc
  obtain ⟨u, ru, l⟩ := hl 1 "value" v rfl rfl (.inl (S.par _ (by simp)))
  have fin : wpAny (model P w) (A.deeper (NdefX.envF Fn fI s.heap.objs.size)) (eval (.Name "value" p3) (NdefX.envF Fn fI s.heap.objs.size)) (fun z s' => z = u ∧ s' = { s with heap := h2.push (kxs_mw "ValueError.__init__" a), toks := s.toks + (["self", "value"].zip [Value.ref a, ual]).length + 1 }) (fun e s' =>
      wpAny (model P w) (A.deeper (NdefX.envF Fn fI s.heap.objs.size)) (leaving (NdefX.envF Fn fI s.heap.objs.size) e)
        (fun x s'' => CR CX outer P w H s Q E (Except.error e) s'')
        (fun e' s'' => CR CX outer P w H s Q E (Except.error e') s'') s') { s with heap := h2.push (kxs_mw "ValueError.__init__" a), toks := s.toks + (["self", "value"].zip [Value.ref a, ual]).length + 1 } := by
    rcases l with ⟨hk, hm⟩ | ⟨hk, _⟩
    · exact wpAny_Name (wpAny_loadName_local S.kind hk hn hm ⟨rfl, rfl⟩) (by decide)
    · have hv : (defScope st).names.lookup ("value" : Str) = some .local := S.par _ (by simp)
      rcases hk with hk | hk <;> exact absurd (hv.symm.trans hk) (by intro z; cases z)
  refine wpAny_mono fin (fun z s' hz => ?_) fun _ _ z => z
  obtain ⟨rfl, rfl⟩ := hz
  refine spliced_nil ⟨Heap.get?_push_at rfl rfl, ?_⟩
  refine call_bwV (e := a) (t0 := t1) (X2.keeps (fun b o e => Heap.get?_push_of_some _ e) _ _ hC) (Heap.get?_push_of_some _ he2) (Heap.get?_push_at rfl rfl) (by show 1 ≤ sizeLine; decide) fun h' t2 k4 hx => ?_
  refine wpAt_of_wpAny ?_
  have J := I3.write (t' := s.toks + (["self", "value"].zip [Value.ref a, ual]).length + 1) (x := a) (e := a) (o := exo a C none) (by rw [ha]; exact True.intro) (.inl rfl) k4 ⟨_, hx⟩ (exo_ok hx)
  have eu : upd H a (exo a C none) = H := by
    funext b
    by_cases hb : b = a
    · rw [hb, upd_same, ha]
    · rw [upd_ne hb]
  rw [eu] at J
  have ht : PSs (NdefX.ncx CX P w K mg base ["self", "value", "__class__"] Fn fI A outer s H E) [.Assign [.Attribute (.Name "self" p6) "value" p7] (.Name "value" p8) p9] (tOst K "value" (tVar 0) (tVar 1)) :=
    pss_one (ps_ost (pe_var (i := 0) rfl (.inl (S.par _ (by simp)))) (pe_var (i := 1) rfl (.inl (S.par _ (by simp)))))
  refine wpAny_mono (ht.run [] _ _ H { nx := fun _ H' => Q .non H', rt := Q } J ⟨v, rfl, .ref a, rfl, a, C, rfl, F.T, F.nov, .inl ⟨ha, fun dx n ne => q dx n ne⟩⟩) (fun fl s' hs => ?_) fun e s' hs => hs
  have fin : ∀ {σ' : L2.St} {H' : Hp} {v : V} {u : Value}, Inv (NdefX.ncx CX P w K mg base ["self", "value", "__class__"] Fn fI A outer s H E) [] σ' H' s' → L2.RelV v u → Q v H' → CE outer P w H s Q u s' :=
    fun {σ' H' v u} J rv q => ⟨v, H', J.os, J.bare, J.base, J.hok, rv, q⟩
  cases fl with
  | ret u =>
    obtain ⟨v, σ', H', J, rv, q⟩ := hs
    exact fin J rv q
  | next =>
    obtain ⟨σ', H', J, q⟩ := hs
    exact fin (v := V.non) (u := Value.none) J rfl q
  | brk =>
    obtain ⟨_, _, _, q⟩ := hs
    exact False.elim q
  | cont =>
    obtain ⟨_, _, _, q⟩ := hs
    exact False.elim q
end
end Sup
end My

namespace My
open PySem PySem.Spec PyProof.Rows L2
/-! ### such an error raised; its value in an except suite; several clauses with a name -/
/-- what is left to be shown behind the making of such an error with the value v -/
theorem mk_sup {C : Addr} {v : V} {H1 : Hp} {Q : XK} (q : ∀ d, H1 d = none → Q (.ref C) (some d) (upd H1 d (.xd [("value", v)]))) : [v].length ≤ 1000 ∧ ∀ a, H1 a = none → Sup.sp_exc_init C (.ref a :: ([v] ++ [])) (upd H1 a (exo a C none))
    (fun w H2 => w = .non ∧ ∃ (d : Addr) (fs : List (Str × V)), H2 a = some (exo a C (some d)) ∧ H2 d = some (exd d fs) ∧ H1 d = none ∧ Q (.ref C) (some d) (upd (del H2 a) d (.xd fs))) (fun _ _ _ => False) := by
  refine ⟨by show 1 ≤ 1000; decide, fun a na => ⟨a, v, rfl, upd_same, fun d nd da => ⟨rfl, d, [("value", v)], upd_same, ?_, ?_, ?_⟩⟩⟩
  · rw [upd_ne da, upd_same]
  · rw [upd_ne da] at nd
    exact nd
  · have hn : H1 d = none := by rw [upd_ne da] at nd; exact nd
    have e : upd (del (upd (upd (upd H1 a (exo a C none)) d (exd d [("value", v)])) a (exo a C (some d))) a) d (.xd [("value", v)]) = upd H1 d (.xd [("value", v)]) := by
      funext b
      by_cases hb : b = d
      · rw [hb, upd_same, upd_same]
      · rw [upd_ne hb, upd_ne hb]
        by_cases hba : b = a
        · rw [hba, del_same, na]
        · rw [del_ne hba, upd_ne hba, upd_ne hb, upd_ne hba]
    rw [e]
    exact q d hn
/-- the reading of err.f, the class of err told there -/
def tXfA (K : PySem.W.Frag) (a : Addr) (cls : Value) (d : Option Addr) (f : Str) (te : TE) : TE := fun σ H Q => te σ H fun x H1 => x = .ref a ∧ ∃ C : Addr, cls = .ref C ∧ XfC K C ∧ PySem.W.findIn K (.ref C) f = some none ∧ ∃ (dd : Addr) (fs : List (Str × V)) (v : V), d = some dd ∧ H1 dd = some (.xd fs) ∧ fs.lookup f = some v ∧ Q v H1
theorem pe_xfA {X : Cx} {a : Addr} {oe : Obj} {cls : Value} {d : Option Addr} {pn : List (Addr × Obj)} {e : Expr} {te : TE} {pos : Pos} {n : Str}
    (hz : Zc cls d oe) (hf : ∃ vs, oe.data = .fields vs) (he : PE (X.suite a ((a, oe) :: pn)) e te) (hb : attributeBase e n X.env (eval e X.env) = eval e X.env := by rfl) :
    PE (X.suite a ((a, oe) :: pn)) (.Attribute e n pos) (tXfA X.K a cls d n te) := by
  refine ⟨fun pins s σ H Q I h => ?_⟩
  refine attr_of hb (thn (he.run pins s σ H _ I h) fun u s1 hh => ?_)
  obtain ⟨x, H1, I1, rx, ex, C, ec, T, hno, dd, fs, v, ed, ea, l, q⟩ := hh
  subst ex
  obtain rfl : u = Value.ref a := rx
  subst ec
  subst ed
  obtain ⟨ha, _⟩ := I1.pin (a, oe) (List.mem_append_left _ List.mem_cons_self)
  obtain ⟨vs, hd⟩ := hf
  have hx : ObjOk X.prog X.w H1 s1.heap dd (.xd fs) := I1.hok dd _ ea
  obtain ⟨mA, hns, hr⟩ := hx
  obtain ⟨od, ho, hl⟩ := lookIn_ns hns
  obtain ⟨u, hu, ru⟩ := RelO.some_of (v := v) (o := mA n) (by rw [← l]; exact hr n)
  have J : PySem.W.InstAt s1.heap a oe C (some od) := ⟨ha, hz.1, by unfold PySem.W.notCls; rw [hd] <;> rfl, by rw [hz.2]; exact ho⟩
  exact HandSPX.exc_get I1.kIn J T.ga T.gg T.exC (PySem.W.findObj_own T.hdC hno rfl (by rw [hl, hu])) (handed_of ru) ⟨v, H1, I1.tok _, ru, q⟩
/-- what the clauses 'except x as n' wish of an exception of the body, one after the other; slot i is n's -/
def wManyAs (K : PySem.W.Frag) (i : Nat) (Wout : WX) (D : Ends) : List (Value × (Addr → Value → Option Addr → TS)) → WX
  | [] => Wout
  | (c, ts) :: r => fun cls d σ H => ∃ b, PySem.W.exmOne K cls c = some b ∧ (b = true → ∀ a, H a = none → ts a cls d { nx := fun σ' H' => D.nx (σ'.set i none) H', rt := D.rt, bk := fun σ' H' => D.bk (σ'.set i none) H', ct := fun σ' H' => D.ct (σ'.set i none) H' } (σ.set i (some (.ref a))) H) ∧
    (b = false → wManyAs K i Wout D r cls d σ H)
inductive HdsAs (X : Cx) (n : Str) : List ExceptHandler → List (Value × (Addr → Value → Option Addr → TS)) → Prop
  | nil : HdsAs X n [] []
  | cons {x : Str} {c : Value} {ts : Addr → Value → Option Addr → TS} {b₀ : Stmt} {suite : List Stmt} {np pos' : Pos} {hds : List ExceptHandler} {l : List (Value × (Addr → Value → Option Addr → TS))} (hc : Names X x c)
      (hsu : ∀ (a : Addr) (oe : Obj) (cls : Value) (d : Option Addr) (pn : List (Addr × Obj)), Zc cls d oe → (∃ vs, oe.data = .fields vs) → PSs (X.suite a ((a, oe) :: pn)) (b₀ :: suite) (ts a cls d)) (r : HdsAs X n hds l) :
      HdsAs X n (.ExceptHandler (some (.Name x np)) (some n) (b₀ :: suite) pos' :: hds) ((c, ts) :: l)
section
variable {X : Cx} {n : Str} {i : Nat} {body : List Stmt} {h₀ : ExceptHandler} {hds : List ExceptHandler} {l : List (Value × (Addr → Value → Option Addr → TS))} {pos : Pos} {tb : WX → TS} {Wout : WX}
theorem ps_try_manyAs (hs : X.stack = X.env :: X.outer) (hf : X.env.frame = some X.env.locals) (hN : X.N.Nodup) (hi : X.N[i]? = some n) (hln : X.env.kindOf n = some .local) (tk : Takes X Wout)
    (hb : ∀ (W : WX) (pn : List (Addr × Obj)) (xe : Value → Shared → Prop), Takes (X.tr pn xe) W → PassesOwn (model X.prog X.w) X.A X.env xe → PSs (X.tr pn xe) body (tb W))
    (hh : HdsAs X n (h₀ :: hds) l) : PS X (.Try body (h₀ :: hds) [] [] pos) (fun D σ H => tb (wManyAs X.K i Wout D l) D σ H) := by
  refine ⟨fun pins s σ H D I h => ?_⟩
  have ok := I.ok
  have hfr : X.A.frames = some (X.env :: X.outer) := by rw [ok.frames, hs]
  have hloc : Loc X.env.scope n := .inl hln
  refine wpAny_Try_except ?_
  refine wpAny_mono ((hb (wManyAs X.K i Wout D l) (X.pn ++ pins) (fun e s₁ => wpAny (model X.prog X.w) X.A (noteFrame e X.env) (fun _ s₂ => wpAny (model X.prog X.w) X.A (setFlight e none) (fun _ s₃ =>
    wpAny (model X.prog X.w) X.A (handleBy e X.env (h₀ :: hds)) (SP X pins D) X.xe s₃) X.xe s₂) X.xe s₁) (fun u s' xx => ?_) PassesOwn.looking).run [] s σ H D (I.toTry _) h) (fun f s1 hsp => ?_) (fun e s1 he => he)
  · -- the catch
    obtain ⟨a, B, sI, pins', σ', H', cls, d, rfl, J', nb, up, sky, na, os, ag, w⟩ := xx
    have J : Inv X pins σ' H' sI := J'.ofTry ok
    have sky' : Sky B (X.env :: X.outer) a (Zc cls d) X.env.locals s'.heap := by rw [← hs]; exact sky
    show wpAny (model X.prog X.w) X.A (noteFrame (.ref a) X.env) _ _ _
    refine Sky.land Zc.steady hfr hf sky' fun h3 fl3 up3 => ?_
    have J3 : Inv X pins σ' H' { s' with heap := h3 } := J.landed nb fl3.1 (up.trans up3) os ag
    obtain ⟨oe3, vs3, he3, hz3, hd3⟩ := fl3.there
    have notFr : ∀ {h : Heap} {o : Obj} {vs : Array Value}, h.FunFrames B (X.env :: X.outer) → h.get? a = some o → o.data = .fields vs → a ∉ frs (X.env :: X.outer) := fun {h o vs} ff e dd hm => by
      obtain ⟨_, o', e', hnf⟩ := ff.mem hm
      rw [e] at e'; cases e'
      exact hnf _ dd
    have nfr := notFr fl3.2.2.1 he3 hd3
    have nL : a ≠ X.env.locals := fun z => nfr (List.mem_filterMap.mpr ⟨X.env, List.mem_cons_self, by rw [hf, z]⟩)
    have nF : a ∉ X.fs := fun hm => by
      obtain ⟨e, he, q⟩ := List.mem_filterMap.mp hm
      exact nfr (List.mem_filterMap.mpr ⟨e, List.mem_cons_of_mem _ he, q⟩)
    have S3 := J3.suite he3 hd3 na nL nF
    have go : ∀ {hds' : List ExceptHandler} {l' : List (Value × (Addr → Value → Option Addr → TS))}, HdsAs X n hds' l' → wManyAs X.K i Wout D l' cls d σ' H' →
        wpAny (model X.prog X.w) X.A (handleBy (.ref a) X.env hds') (SP X pins D) X.xe { s' with heap := h3 } := by
      intro hds' l' hk
      induction hk with
      | nil =>
        intro w
        refine wpAny_handleBy_nil ?_
        obtain ⟨k1, k2, k3, oe, vs, T, oT, ts', he, hz, hd, h1, hr⟩ := id fl3
        unfold PySem.passOn
        refine wpAny_bind (wpAny_field he hd h1 ?_)
        rw [if_neg (show ¬ ((Value.ref T == Value.none) = true) from by simp)]
        have fin : wpAny (model X.prog X.w) X.A (setFlight (.ref a) X.env.frame) (fun _ s4 => wpAny (model X.prog X.w) X.A (throw (.ref a) : Sem Flow) (SP X pins D) X.xe s4) X.xe { s' with heap := h3 } := by
          rw [hf]
          refine HandSPX.setFlight_upZ fl3 fun h4 hh4 up4 => wpAny_throw (tk _ _ ?_)
          exact ⟨a, B, sI, pins, σ', H', cls, d, rfl, J, nb, (up.trans up3).trans up4, .inr (.inr (by rw [hs]; exact hh4)), na, os, ag, w⟩
        first
          | exact wpAny_bind (wpAny_pure (wpAny_bind fin))
          | exact wpAny_bind fin
      | @cons x c ts b₀ suite np pos' hds2 l2 hc hsu r ih =>
        intro w
        obtain ⟨b, hb1, hyes, hno⟩ := w
        refine wpAny_handleBy_cons (codeAny_handlers_test ?_) (by intro q; cases q)
        have LT : PySem.W.Looks (model X.prog X.w) h3 (typeOf (.ref a)) cls := fun A Q E s k q => wpAny_typeOf_ref (k _ _ he3) (by rw [hz3.1]; exact q)
        have LM := PySem.W.exm_one (M := model X.prog X.w) (J3.kIn) LT hb1
        have test : ∀ {Q : Value → Shared → Prop} {E : Value → Shared → Prop}, Q c { s' with heap := h3 } → wpAny (model X.prog X.w) (X.A.mark (some (.ref a))) (eval (.Name x np) X.env) Q E { s' with heap := h3 } := fun {Q E} q => by
          obtain ⟨hg, hdbg, hm | ⟨hm, hv, hnn⟩⟩ := hc
          · exact ld_glob (X := X.suite a ((a, oe3) :: (X.pn ++ pins))) S3 hg hm q hdbg
          · exact ld_blt (X := X.suite a ((a, oe3) :: (X.pn ++ pins))) S3 hg hm hv q hnn hdbg
        refine test (LM.here ?_)
        cases b with
        | true =>
          refine codeAny_handlers_suite_as ?_
          refine HandSPX.lands_againZ fl3 fun h4 fl4 up4 => ?_
          have J4 : Inv X pins σ' H' { s' with heap := h4 } := J.landed nb fl4.1 ((up.trans up3).trans up4) os ag
          obtain ⟨oe4, vs4, he4, hz4, hd4⟩ := fl4.there
          have S4 := J4.suite he4 hd4 na nL nF
          refine store_ok (X := X.suite a ((a, oe4) :: (X.pn ++ pins))) (v := .ref a) S4 hN hi hloc rfl (fun s5 S5 => ?_) (.inr hln)
          refine wpAny_mono ((hsu a oe4 cls d (X.pn ++ pins) hz4 ⟨_, hd4⟩).run [] s5 _ H' _ S5 (hyes rfl a na)) (fun f s6 hsp => ?_) (fun _ _ z => False.elim z)
          have end_ : ∀ {σ6 : L2.St} {H6 : Hp} {Q : Shared → Prop}, Inv (X.suite a ((a, oe4) :: (X.pn ++ pins))) [] σ6 H6 s6 → (∀ s7, Inv X pins (σ6.set i none) H6 s7 → Q s7) →
              wpAny (model X.prog X.w) X.A (do bindName X.env n .none; unbindBehindTheSuite X.env n pos') (fun _ s7 => Q s7) X.xe s6 := fun {σ6 H6 Q} S6 hq => gone_ok (S6.unsuite ok) hN hi hln hq
          cases f with
          | next =>
            obtain ⟨σ6, H6, S6, q6⟩ := hsp
            exact end_ S6 fun s7 J7 => ⟨_, _, J7, q6⟩
          | brk =>
            obtain ⟨σ6, H6, S6, q6⟩ := hsp
            exact end_ S6 fun s7 J7 => ⟨_, _, J7, q6⟩
          | cont =>
            obtain ⟨σ6, H6, S6, q6⟩ := hsp
            exact end_ S6 fun s7 J7 => ⟨_, _, J7, q6⟩
          | ret u =>
            obtain ⟨v6, σ6, H6, S6, r6, q6⟩ := hsp
            exact end_ S6 fun s7 J7 => ⟨_, _, _, J7, r6, q6⟩
        | false =>
          show wpAny _ X.A (handleBy (.ref a) X.env hds2) _ _ _
          exact ih (hno rfl)
    exact go hh w
  · cases f with
    | next =>
      obtain ⟨σ', H', J', q⟩ := hsp
      exact wpAny_execs_nil ⟨σ', H', J'.ofTry ok, q⟩
    | brk =>
      obtain ⟨σ', H', J', q⟩ := hsp
      exact ⟨σ', H', J'.ofTry ok, q⟩
    | cont =>
      obtain ⟨σ', H', J', q⟩ := hsp
      exact ⟨σ', H', J'.ofTry ok, q⟩
    | ret u =>
      obtain ⟨v, σ', H', J', r, q⟩ := hsp
      exact ⟨v, σ', H', J'.ofTry ok, r, q⟩
end
end My

namespace My
open PySem PySem.Spec PyProof.Rows L2
/-! ### own errors as they stand behind the top: what is asked of the written part -/
abbrev ErW : Type := Option (Str × Str × Arguments × FuncBody × Scope × Addr × Addr)
def erI (K : PySem.W.Frag) (x : Str) : Addr := match PySem.W.findIn K (.ref (He.ga K x)) "__init__" with
  | some (some (.ref a)) => a
  | _ => 0
def erW (K : PySem.W.Frag) (x : Str) : ErW := match K.lookup (erI K x) with
  | some ⟨_, _, .func fd, _⟩ => some (fd.name, fd.qualname, fd.params, fd.body, fd.scope, fd.globals, fd.builtins)
  | _ => none
/-- an own error class over ValueError -/
def oexB (K : PySem.W.Frag) (C : Addr) : Bool := match K.lookup C with
  | some ⟨.type "type", _, .cls cd, sl⟩ => (match cd.mro, sl.toList with
    | .ref C' :: bm, [_, _, _, _, some (.builtin n), _] => C' == C && (n == ("ValueError.__new__" : String) && (!cd.hasDel && (cd.hasDict && PySem.HandSPX.refsVE bm)))
    | _, _ => false)
  | _ => false
theorem oexB_ok {K : PySem.W.Frag} {C : Addr} (q : oexB K C = true) : ∃ nm qn N bs bm sn sub ab col dd k0 k1 k2 k3 k5, K.lookup C = some (excClassObj nm qn C N bs bm true sn sub ab col dd k0 k1 k2 k3 k5 "ValueError.__new__") ∧ PySem.HandSPX.refsVE bm = true := by
  unfold oexB at q
  split at q
  · rename_i dd cd sl ho
    split at q
    · rename_i C' bm k0 k1 k2 k3 n k5 hm hs
      simp only [Bool.and_eq_true, beq_iff_eq, Bool.not_eq_true'] at q
      obtain ⟨rfl, rfl, hdel, hdict, ht⟩ := q
      obtain ⟨nm, bs, mro, ns, qn, hd, sn, sub, ab, col, del⟩ := cd
      dsimp only at hm hdel hdict
      subst hm hdel hdict
      have hsl : sl = #[k0, k1, k2, k3, some (.builtin "ValueError.__new__"), k5] := by
        obtain ⟨l⟩ := sl
        simp only at hs
        rw [hs]
      subst hsl
      exact ⟨nm, qn, ns, bs, bm, sn, sub, ab, col, dd, k0, k1, k2, k3, k5, ho, ht⟩
    · cases q
  · cases q
/-- its __init__: one cell, of the class; code of the file; one default, None -/
def iniB (K : PySem.W.Frag) (file x : Str) : Bool := match K.lookup (erI K x) with
  | some ⟨_, _, .func fd, _⟩ => (match fd.closure with
    | [(n, cc)] => decide (n = ("__class__" : Str)) && ((match K.lookup cc with
      | some ⟨_, _, .cell (some (.ref C')), _⟩ => C' == He.ga K x
      | _ => false) && ((match fd.code with
        | .ref c => (match K.lookup c with
          | some ⟨_, _, .fields vs, _⟩ => (match (vs[2]? : Option Value) with
            | some (Value.str f _) => decide (f = file)
            | _ => false)
          | _ => false)
        | _ => false) && (PySem.W.codeIn K fd.code (x ++ (".__init__" : Str)) && (He.dflB K fd.defaults [.non] && He.kwdB K fd.kwdefaults []))))
    | _ => false)
  | _ => false
def errB (K : PySem.W.Frag) (file x : Str) : Bool :=
  oexB K (He.ga K x) && (iniB K file x && (xfB K (He.ga K x) && (decide (PySem.W.findIn K (.ref (He.ga K x)) "__setattr__" = some (some (.builtin "object.__setattr__"))) && (decide (PySem.W.subIn K (.ref (He.ga K x)) (.type "BaseException") = some true) && (decide (PySem.W.typeIn K (.ref (He.ga K x)) = some (.type "type")) && (PySem.W.keepIn K (.ref (He.ga K x)) &&
  (decide (PySem.W.ks_superIn K (He.ga K x) (He.ga K x) "__init__" = some (some (.builtin "ValueError.__init__"))) && (decide (PySem.W.subIn K (.ref (He.ga K x)) (.type "ValueError") = some true) && (decide (PySem.W.mroIn K (He.ga K x) (.ref (He.ga K x)) = some true) && (decide (PySem.W.nsIn K cStatics "thirdparty.any" = some none) && (decide (PySem.W.findIn K (.ref (He.ga K x)) "value" = some none) &&
  (decide (PySem.W.findIn K (.ref (He.ga K x)) "__init__" = some (some (.ref (erI K x)))) && decide (PySem.W.typeIn K (.ref (erI K x)) = some (.type "function"))))))))))))))
structure ErrC (K : PySem.W.Frag) (file x : Str) (st : Stmt) (C fI : Addr) (fd : FuncData) : Prop where
  sup : Sup.SupC K file x st C fI fd
  ini : PySem.W.findIn K (.ref C) "__init__" = some (some (.ref fI))
  ity : PySem.W.typeIn K (.ref fI) = some (.type "function")
  bnd : Binds K fd ["self", "value"] []
  xf : XfC K C
theorem err_ok {K : PySem.W.Frag} {file x : Str} {st : Stmt} (h : errB K file x = true) (e : erW K x = some (("__init__" : Str), x ++ (".__init__" : Str), defArgs st, FuncBody.stmts (defBody st), defScope st, mainGlobals, builtinsNs))
    (hb : ∀ (T cc : Addr) (kV doc pm : Value) (an : Option Addr) (cdv ct : Value) (us its : List Value), us.length = 2 → its.length = 1 →
      ∃ k, bindArgs (PySem.W.ksFn "__init__" (x ++ (".__init__" : Str)) (defArgs st) (defBody st) (defScope st) (.ref T) kV doc pm an cdv ct cc) ⟨us, []⟩ = seqItems? (.ref T) >>= k ∧ k (some its.toArray) = pure ((["self", "value"] : List Str).zip us)) :
    ∃ fd, ErrC K file x st (He.ga K x) (erI K x) fd := by
  unfold errB at h
  obtain ⟨h1, h⟩ := He.ba h
  obtain ⟨h2, h⟩ := He.ba h
  obtain ⟨h3, h⟩ := He.ba h
  obtain ⟨h4, h⟩ := He.ba h
  obtain ⟨h5, h⟩ := He.ba h
  obtain ⟨h6, h⟩ := He.ba h
  obtain ⟨h7, h⟩ := He.ba h
  obtain ⟨h8, h⟩ := He.ba h
  obtain ⟨h9, h⟩ := He.ba h
  obtain ⟨h10, h⟩ := He.ba h
  obtain ⟨h11, h⟩ := He.ba h
  obtain ⟨h12, h⟩ := He.ba h
  obtain ⟨h13, h14⟩ := He.ba h
  unfold iniB at h2
  unfold erW at e
  cases q : K.lookup (erI K x) with
  | none => rw [q] at e; cases e
  | some o =>
    obtain ⟨oc, od, dt, osl⟩ := o
    rw [q] at e h2
    cases dt with
    | func fd =>
      obtain ⟨n1, n2, n3, n4, n5, n6, n7, n8, n9, n10, n11, n12, n13, n14, n15⟩ := fd
      have e2 : (some (n1, n2, n3, n4, n5, n6, n15) : ErW) = some (("__init__" : Str), x ++ (".__init__" : Str), defArgs st, FuncBody.stmts (defBody st), defScope st, mainGlobals, builtinsNs) := e
      simp only [Option.some.injEq, Prod.mk.injEq] at e2
      obtain ⟨r1, r2, r3, r4, r5, r6, r7⟩ := e2
      subst r1 r2 r3 r4 r5 r6 r7
      dsimp only at h2
      split at h2
      · rename_i n cc
        obtain ⟨k1, h2⟩ := He.ba h2
        obtain ⟨k2, h2⟩ := He.ba h2
        obtain ⟨k3, h2⟩ := He.ba h2
        obtain ⟨k4, h2⟩ := He.ba h2
        obtain ⟨k5, k6⟩ := He.ba h2
        obtain rfl := of_decide_eq_true k1
        split at k2
        · rename_i cl cld C' csl lcc
          obtain rfl := beq_iff_eq.mp k2
          split at k3
          · rename_i c0
            split at k3
            · rename_i ccl cdd vs ccs lc
              split at k3
              · rename_i f tf hvs
                obtain rfl := of_decide_eq_true k3
                have D := He.dflB_ok k5
                refine ⟨_, ⟨⟨⟨oexB_ok h1, of_decide_eq_true h4, of_decide_eq_true h5, of_decide_eq_true h6, h7⟩, ⟨oc, od, n8, n9, n10, n11, n12, _, cc, n14, osl, rfl, q, k4, ⟨ccl, cdd, vs, ccs, tf, lc, hvs⟩, cl, cld, csl, lcc⟩,
                  of_decide_eq_true h8, of_decide_eq_true h9, of_decide_eq_true h10, of_decide_eq_true h11, of_decide_eq_true h12⟩, of_decide_eq_true h13, of_decide_eq_true h14, ?_, xfB_ok h3⟩⟩
                rcases D with ⟨z, _⟩ | ⟨_, T, o, its, m, rfl, lT, oT, rT⟩
                · cases z
                · intro s us X hlen
                  rw [List.append_nil] at hlen ⊢
                  obtain ⟨k, e1, e2⟩ := hb T cc n9 n10 n11 n12 _ n14 us its hlen rT.length.symm
                  refine BindsTo.of_looks fun M => ?_
                  refine Eq.mpr (congrArg (fun z => PySem.W.Looks M s.heap z _) e1) ?_
                  exact looks_items X lT oT (.of_pure e2)
              · cases k3
            · cases k3
          · cases k3
        · cases k2
      · cases h2
    | _ => cases e
end My

namespace My
open PySem PySem.Spec PyProof.Rows L2
/-! ### an error kept behind its clause: asked by isinstance, its value read -/
/-- a caught error: its class, its dict -/
def ExK (cls : Value) (d : Option Addr) (a : Addr) : HO := .ext fun h => ∃ (oe : Obj) (vs : Array Value), h.get? a = some oe ∧ Zc cls d oe ∧ oe.data = .fields vs
section
variable {X : Cx} {pins : List (Addr × Obj)} {σ : L2.St} {H : Hp} {s : Shared} {a : Addr}
/-- what is not there in a state is none of what the state speaks of -/
theorem _root_.L2.Inv.newIn (I : Inv X pins σ H s) (hx : X.ex = []) (na : s.heap.get? a = none) : X.s_0.heap.get? a = none ∧ a ≠ X.env.locals ∧ (∀ x c, X.env.cells.lookup x = some c → a ≠ c) ∧ ∀ p ∈ X.pn ++ pins, a ≠ p.1 := by
  refine ⟨?_, ?_, ?_, ?_⟩
  · cases e : X.s_0.heap.get? a with
    | none => rfl
    | some o =>
      obtain ⟨o', e'⟩ := I.base.there a o e (by rw [hx]; exact fun z => nomatch z)
      rw [na] at e'
      cases e'
  · obtain ⟨m, ⟨o, es, ep, ho, _⟩, _⟩ := I.loc
    exact fun e => by rw [← e, na] at ho; cases ho
  · intro x c e z
    obtain ⟨v, o, ho, _⟩ := I.cell x c e
    rw [← z, na] at ho
    cases ho
  · intro p hp z
    have ho := (I.pin p hp).1
    rw [← z, na] at ho
    cases ho
/-- an object that is there is from now on told of -/
theorem _root_.L2.Inv.track {cls : Value} {d : Option Addr} {oe : Obj} {vs : Array Value} (I : Inv X pins σ H s) (ha : s.heap.get? a = some oe) (z : Zc cls d oe) (hd : oe.data = .fields vs) (na : H a = none) (n0 : X.s_0.heap.get? a = none) (nL : a ≠ X.env.locals)
    (nC : ∀ x c, X.env.cells.lookup x = some c → a ≠ c) (nP : ∀ p ∈ X.pn ++ pins, a ≠ p.1) : Inv X pins σ (upd H a (ExK cls d a)) s := by
  have ne : ∀ {b : Addr} {o : HO}, H b = some o → b ≠ a := fun {b o} e q => by rw [q, na] at e; cases e
  refine ⟨I.ok, I.os, I.bare, ⟨I.base.keep, I.base.slot, fun b o e n hx => ?_, I.base.there, fun b xs e => ?_, fun b o u e => ?_, fun b ps e => ?_⟩, I.loc, I.cell, ?_, fun x c e => ?_, fun p hp => ?_, fun b u e => ?_, I.len⟩
  · rw [upd_ne fun q => by rw [q, n0] at e; cases e]
    exact I.base.free b o e n hx
  · have q := I.base.tups b xs e
    rw [upd_ne (ne q)]
    exact q
  · have q := I.base.frzs b o u e
    rw [upd_ne (ne q)]
    exact q
  · obtain ⟨m, q⟩ := I.base.tbls b ps e
    exact ⟨m, by rw [upd_ne (ne q)]; exact q⟩
  · rw [upd_ne fun q => nL q.symm]
    exact I.free
  · rw [upd_ne fun q => nC x c e q.symm]
    exact I.freeC x c e
  · obtain ⟨e, n, r⟩ := I.pin p hp
    exact ⟨e, by rw [upd_ne fun q => nP p hp q.symm]; exact n, r⟩
  · by_cases hb : b = a
    · subst hb
      rw [upd_same] at e
      cases e
      exact ⟨⟨oe, vs, ha, z, hd⟩, ⟨oe, ha⟩, fun _ _ ⟨o, v, q, r⟩ k => ⟨o, v, k o q, r⟩⟩
    · rw [upd_ne hb] at e
      exact (I.hok b u e).stay (fun c v _ q => q) (fun c q => by rw [upd_ne (ne q)]; exact q) fun c xs q => by rw [upd_ne (ne q)]; exact q
end
/-- as wManyAs, the error told of behind the clause -/
def wKeepAs (K : PySem.W.Frag) (i : Nat) (Wout : WX) (D : Ends) : List (Value × (Addr → Value → Option Addr → TS)) → WX
  | [] => Wout
  | (c, ts) :: r => fun cls d σ H => ∃ b, PySem.W.exmOne K cls c = some b ∧ (b = true → ∀ a, H a = none → ts a cls d { nx := fun σ' H' => D.nx (σ'.set i none) (upd H' a (ExK cls d a)), rt := D.rt, bk := fun σ' H' => D.bk (σ'.set i none) H', ct := fun σ' H' => D.ct (σ'.set i none) H' } (σ.set i (some (.ref a))) H) ∧
    (b = false → wKeepAs K i Wout D r cls d σ H)
section
variable {X : Cx} {n : Str} {i : Nat} {body : List Stmt} {h₀ : ExceptHandler} {hds : List ExceptHandler} {l : List (Value × (Addr → Value → Option Addr → TS))} {pos : Pos} {tb : WX → TS} {Wout : WX}
theorem ps_try_keep (hx0 : X.ex = []) (hs : X.stack = X.env :: X.outer) (hf : X.env.frame = some X.env.locals) (hN : X.N.Nodup) (hi : X.N[i]? = some n) (hln : X.env.kindOf n = some .local) (tk : Takes X Wout)
    (hb : ∀ (W : WX) (pn : List (Addr × Obj)) (xe : Value → Shared → Prop), Takes (X.tr pn xe) W → PassesOwn (model X.prog X.w) X.A X.env xe → PSs (X.tr pn xe) body (tb W))
    (hh : HdsAs X n (h₀ :: hds) l) : PS X (.Try body (h₀ :: hds) [] [] pos) (fun D σ H => tb (wKeepAs X.K i Wout D l) D σ H) := by
  refine ⟨fun pins s σ H D I h => ?_⟩
  have ok := I.ok
  have hfr : X.A.frames = some (X.env :: X.outer) := by rw [ok.frames, hs]
  have hloc : Loc X.env.scope n := .inl hln
  refine wpAny_Try_except ?_
  refine wpAny_mono ((hb (wKeepAs X.K i Wout D l) (X.pn ++ pins) (fun e s₁ => wpAny (model X.prog X.w) X.A (noteFrame e X.env) (fun _ s₂ => wpAny (model X.prog X.w) X.A (setFlight e none) (fun _ s₃ =>
    wpAny (model X.prog X.w) X.A (handleBy e X.env (h₀ :: hds)) (SP X pins D) X.xe s₃) X.xe s₂) X.xe s₁) (fun u s' xx => ?_) PassesOwn.looking).run [] s σ H D (I.toTry _) h) (fun f s1 hsp => ?_) (fun e s1 he => he)
  · -- the catch
    obtain ⟨a, B, sI, pins', σ', H', cls, d, rfl, J', nb, up, sky, na, os, ag, w⟩ := xx
    have J : Inv X pins σ' H' sI := J'.ofTry ok
    have sky' : Sky B (X.env :: X.outer) a (Zc cls d) X.env.locals s'.heap := by rw [← hs]; exact sky
    show wpAny (model X.prog X.w) X.A (noteFrame (.ref a) X.env) _ _ _
    refine Sky.land Zc.steady hfr hf sky' fun h3 fl3 up3 => ?_
    have J3 : Inv X pins σ' H' { s' with heap := h3 } := J.landed nb fl3.1 (up.trans up3) os ag
    obtain ⟨oe3, vs3, he3, hz3, hd3⟩ := fl3.there
    have notFr : ∀ {h : Heap} {o : Obj} {vs : Array Value}, h.FunFrames B (X.env :: X.outer) → h.get? a = some o → o.data = .fields vs → a ∉ frs (X.env :: X.outer) := fun {h o vs} ff e dd hm => by
      obtain ⟨_, o', e', hnf⟩ := ff.mem hm
      rw [e] at e'; cases e'
      exact hnf _ dd
    have nfr := notFr fl3.2.2.1 he3 hd3
    have nL : a ≠ X.env.locals := fun z => nfr (List.mem_filterMap.mpr ⟨X.env, List.mem_cons_self, by rw [hf, z]⟩)
    have nF : a ∉ X.fs := fun hm => by
      obtain ⟨e, he, q⟩ := List.mem_filterMap.mp hm
      exact nfr (List.mem_filterMap.mpr ⟨e, List.mem_cons_of_mem _ he, q⟩)
    have S3 := J3.suite he3 hd3 na nL nF
    have new := Inv.newIn J hx0 (a := a) (by
      cases e : sI.heap.get? a with
      | none => rfl
      | some o =>
        have := nb a o e (by rw [hs]; exact nfr)
        rw [fl3.2.1] at this
        cases this)
    have go : ∀ {hds' : List ExceptHandler} {l' : List (Value × (Addr → Value → Option Addr → TS))}, HdsAs X n hds' l' → wKeepAs X.K i Wout D l' cls d σ' H' →
        wpAny (model X.prog X.w) X.A (handleBy (.ref a) X.env hds') (SP X pins D) X.xe { s' with heap := h3 } := by
      intro hds' l' hk
      induction hk with
      | nil =>
        intro w
        refine wpAny_handleBy_nil ?_
        obtain ⟨k1, k2, k3, oe, vs, T, oT, ts', he, hz, hd, h1, hr⟩ := id fl3
        unfold PySem.passOn
        refine wpAny_bind (wpAny_field he hd h1 ?_)
        rw [if_neg (show ¬ ((Value.ref T == Value.none) = true) from by simp)]
        have fin : wpAny (model X.prog X.w) X.A (setFlight (.ref a) X.env.frame) (fun _ s4 => wpAny (model X.prog X.w) X.A (throw (.ref a) : Sem Flow) (SP X pins D) X.xe s4) X.xe { s' with heap := h3 } := by
          rw [hf]
          refine HandSPX.setFlight_upZ fl3 fun h4 hh4 up4 => wpAny_throw (tk _ _ ?_)
          exact ⟨a, B, sI, pins, σ', H', cls, d, rfl, J, nb, (up.trans up3).trans up4, .inr (.inr (by rw [hs]; exact hh4)), na, os, ag, w⟩
        first
          | exact wpAny_bind (wpAny_pure (wpAny_bind fin))
          | exact wpAny_bind fin
      | @cons x c ts b₀ suite np pos' hds2 l2 hc hsu r ih =>
        intro w
        obtain ⟨b, hb1, hyes, hno⟩ := w
        refine wpAny_handleBy_cons (codeAny_handlers_test ?_) (by intro q; cases q)
        have LT : PySem.W.Looks (model X.prog X.w) h3 (typeOf (.ref a)) cls := fun A Q E s k q => wpAny_typeOf_ref (k _ _ he3) (by rw [hz3.1]; exact q)
        have LM := PySem.W.exm_one (M := model X.prog X.w) (J3.kIn) LT hb1
        have test : ∀ {Q : Value → Shared → Prop} {E : Value → Shared → Prop}, Q c { s' with heap := h3 } → wpAny (model X.prog X.w) (X.A.mark (some (.ref a))) (eval (.Name x np) X.env) Q E { s' with heap := h3 } := fun {Q E} q => by
          obtain ⟨hg, hdbg, hm | ⟨hm, hv, hnn⟩⟩ := hc
          · exact ld_glob (X := X.suite a ((a, oe3) :: (X.pn ++ pins))) S3 hg hm q hdbg
          · exact ld_blt (X := X.suite a ((a, oe3) :: (X.pn ++ pins))) S3 hg hm hv q hnn hdbg
        refine test (LM.here ?_)
        cases b with
        | true =>
          refine codeAny_handlers_suite_as ?_
          refine HandSPX.lands_againZ fl3 fun h4 fl4 up4 => ?_
          have J4 : Inv X pins σ' H' { s' with heap := h4 } := J.landed nb fl4.1 ((up.trans up3).trans up4) os ag
          obtain ⟨oe4, vs4, he4, hz4, hd4⟩ := fl4.there
          have S4 := J4.suite he4 hd4 na nL nF
          refine store_ok (X := X.suite a ((a, oe4) :: (X.pn ++ pins))) (v := .ref a) S4 hN hi hloc rfl (fun s5 S5 => ?_) (.inr hln)
          refine wpAny_mono ((hsu a oe4 cls d (X.pn ++ pins) hz4 ⟨_, hd4⟩).run [] s5 _ H' _ S5 (hyes rfl a na)) (fun f s6 hsp => ?_) (fun _ _ z => False.elim z)
          have end_ : ∀ {σ6 : L2.St} {H6 : Hp} {Q : Shared → Prop}, Inv (X.suite a ((a, oe4) :: (X.pn ++ pins))) [] σ6 H6 s6 → (∀ s7, Inv X pins (σ6.set i none) H6 s7 → Q s7) →
              wpAny (model X.prog X.w) X.A (do bindName X.env n .none; unbindBehindTheSuite X.env n pos') (fun _ s7 => Q s7) X.xe s6 := fun {σ6 H6 Q} S6 hq => gone_ok (S6.unsuite ok) hN hi hln hq
          cases f with
          | next =>
            obtain ⟨σ6, H6, S6, q6⟩ := hsp
            obtain ⟨ha6, na6, _, _, _⟩ := S6.pin (a, oe4) (List.mem_append.mpr (.inl List.mem_cons_self))
            exact gone_ok (Inv.track (S6.unsuite ok) ha6 hz4 hd4 na6 new.1 new.2.1 new.2.2.1 new.2.2.2) hN hi hln fun s7 J7 => ⟨_, _, J7, q6⟩
          | brk =>
            obtain ⟨σ6, H6, S6, q6⟩ := hsp
            exact end_ S6 fun s7 J7 => ⟨_, _, J7, q6⟩
          | cont =>
            obtain ⟨σ6, H6, S6, q6⟩ := hsp
            exact end_ S6 fun s7 J7 => ⟨_, _, J7, q6⟩
          | ret u =>
            obtain ⟨v6, σ6, H6, S6, r6, q6⟩ := hsp
            exact end_ S6 fun s7 J7 => ⟨_, _, _, J7, r6, q6⟩
        | false =>
          show wpAny _ X.A (handleBy (.ref a) X.env hds2) _ _ _
          exact ih (hno rfl)
    exact go hh w
  · cases f with
    | next =>
      obtain ⟨σ', H', J', q⟩ := hsp
      exact wpAny_execs_nil ⟨σ', H', J'.ofTry ok, q⟩
    | brk =>
      obtain ⟨σ', H', J', q⟩ := hsp
      exact ⟨σ', H', J'.ofTry ok, q⟩
    | cont =>
      obtain ⟨σ', H', J', q⟩ := hsp
      exact ⟨σ', H', J'.ofTry ok, q⟩
    | ret u =>
      obtain ⟨v, σ', H', J', r, q⟩ := hsp
      exact ⟨v, σ', H', J'.ofTry ok, r, q⟩
end
/-! ### isinstance of it, its value -/
/-- what isinstance asks of the class of an error -/
structure ExcI (K : PySem.W.Frag) (D : Addr) : Prop where
  xf : XfC K D
  ha : PySem.W.findIn K (.ref D) "__class__" = some (some (.builtin "object.__class__"))
  hn : PySem.W.specialIn K (.builtin "object.__class__") "__get__" = some (some (.builtin "getset_descriptor.__get__"))
  ht : PySem.W.takesIn K (.builtin "object.__class__") = some true
  hm : PySem.W.mroIn K D (.type "object") = some true
/-- its class by name, the error with a dict of its own -/
theorem cls_named {prog : Program} {w : World} {A : Around} {F : Value → Shared → Prop} {st : Shared} {K : PySem.W.Frag} {a C : Addr} {oe od : Obj} {G : Option Value → Shared → Prop} (c : ExcI K C) (hK : K.In st.heap) (J : PySem.W.InstAt st.heap a oe C (some od))
    (g : G (some (.ref C)) { st with toks := st.toks + 1 }) : wpAny (model prog w) A (getAttr? (.ref a) "__class__") G F st := by
  have found : PySem.W.findObj K C (some od) "__class__" = some (.bind (.builtin "getset_descriptor.__get__") (.builtin "object.__class__")) := by
    refine PySem.W.findObj_data ?_ c.ha c.hn c.ht
    obtain ⟨kd, hk, _⟩ := PySem.W.any_some c.xf.hdC
    rw [hk]
    rfl
  obtain ⟨hh, gs, dr, tk, o5⟩ := st
  have isC := J.type (M := model prog w)
  have isGa := PySem.W.looks_findIn (M := model prog w) hK c.xf.ga
  have isGg := PySem.W.looks_findIn (M := model prog w) hK c.xf.gg
  have isIt := PySem.W.looks_find (M := model prog w) hK J found
  have isSub : PySem.W.Looks (model prog w) hh (isInstance (.ref a) (.type "BaseException")) true := isC.andThen (PySem.W.looks_subIn hK c.xf.exC)
  have n1 : (Value.builtin "BaseException.__getattribute__" == Value.builtin "object.__getattribute__") = false := by decide +kernel
  have n2 : (onTheHeap (Value.ref C) && Value.builtin "BaseException.__getattribute__" == Value.builtin "object.__getattribute__") = false := by rw [n1]; exact Bool.and_false _
  have n3 : (false && onTheHeap (Value.builtin "BaseException.__getattribute__")) = false := Bool.false_and _
  unfold getAttr? getAttrBy? getAttrBy
  refine wpAny_bind (wpAny_mkText (wpAny_bind (wpAny_attempt (wpAny_holding (wpAny_bind (isC.at (wpAny_bind (isGa.at ?_))))))))
  change wpAny _ _ (if (onTheHeap (Value.ref C) && Value.builtin "BaseException.__getattribute__" == Value.builtin "object.__getattribute__") = true then _ else _) _ _ _
  rw [n2]
  rw [if_neg Bool.false_ne_true]
  unfold getAttrByItsOwn hookBefore
  refine wpAny_bind ?_
  have n4 : onTheHeap (Value.ref C) = true := by rfl
  rw [if_pos n4]
  refine isGg.at (wpAny_bind (wpAny_attempt (wpAny_holding ?_)))
  unfold callGetattribute
  rw [n3]
  rw [if_neg Bool.false_ne_true]
  unfold boundAndCalled
  rw [PySem.F.excAttr_ValueError.ga.bind (.ref a)]
  refine wpAny_bind (wpAny_pure ?_)
  change wpAny _ _ (call (.builtin "BaseException.__getattribute__") [.ref a, .str "__class__" tk]) _ _ _
  refine wpAny_call (codeAny_call_builtin PySem.F.excAttr_ValueError.ga.plain PySem.F.entry_bexc_ga ?_)
  refine @PySem.W.check_slot (model prog w) _ _ ⟨hh, gs, dr, tk + 1, o5⟩ "BaseException.__getattribute__" "BaseException" "__getattribute__" (.ref a) [.str "__class__" tk] [] _ (by decide +kernel) (by decide +kernel) isSub (PySem.F.args_bexc_ga _ _) ?_
  unfold Builtin.«object.__getattribute__»
  refine wpAny_bind (wpAny_of_eq (a := ((Value.ref a : Value), [Value.str "__class__" tk])) (by first | rfl | (simp only [slotArgs]; rfl)) (wpAny_bind (wpAny_pure (wpAny_bind (isC.at (wpAny_bind (isIt.at ?_)))))))
  change wpAny _ _ (holding [Value.builtin "object.__class__"] (call (.builtin "getset_descriptor.__get__") [.builtin "object.__class__", .ref a, .ref C]) >>= ret) _ _ _
  refine wpAny_bind (wpAny_holding (wpAny_call (PySem.W.class_get (s := ⟨hh, gs, dr, tk + 1, o5⟩) (ox := oe) (od := some od) hK J c.hm (wpAny_pure ?_))))
  change wpAny _ _ (handedOut (.ref C)) _ _ _
  rw [PySem.W.handedOut_of (v := .ref C) rfl]
  first
    | exact wpAny_pure g
    | exact wpAny_pure (wpAny_pure g)
    | exact wpAny_pure (wpAny_bind (wpAny_pure (wpAny_pure g)))
/-- the error is an object of its class, its dict there -/
theorem kit_err {K : PySem.W.Frag} {a C : Addr} {oe od : Obj} (c : ExcI K C) : PySem.W.KitX K (.ref a) (.ref C) (fun h => PySem.W.InstAt h a oe C (some od)) where
  ty := fun _ _ _ J => J.type
  it := fun _ h hK _ => by
    obtain ⟨kd, hk, _⟩ := PySem.W.any_some c.xf.hdC
    unfold PySem.W.clsIn at hk
    split at hk
    · rename_i e1 e2 e3 e4 there
      intro B R' F' st keep goal
      unfold isType loadHead
      exact wpAny_bind (wpAny_loadPart (keep _ _ (hK _ _ there)) (wpAny_pure goal))
    · cases hk
  ne := fun h t dd is m sl hK ht => by
    obtain ⟨kd, hk, _⟩ := PySem.W.any_some c.xf.hdC
    cases q : (Value.ref C == Value.ref t) with
    | false => rfl
    | true =>
      obtain rfl : C = t := Value.ref.inj (beq_iff_eq.mp q)
      unfold PySem.W.clsIn at hk
      split at hk
      · rename_i e1 e2 e3 e4 there
        have z := (hK _ _ there).symm.trans ht
        cases z
      · cases hk
  ca := fun hK J g => cls_named c hK J g
/-- isinstance(x, c): x a kept error, or any other thing as before -/
def rIsiE (K : PySem.W.Frag) : List V → Hp → VK → Prop := fun xs H Q => rIsi K xs H Q ∨ ∃ (a C dd : Addr) (fs : List (Str × V)) (c : V) (u : Value) (b : Bool), xs = [.ref a, c] ∧ H a = some (ExK (.ref C) (some dd) a) ∧ H dd = some (.xd fs) ∧ ExcI K C ∧ ClsV c u ∧ PySem.W.kitOne K (.ref C) u = some b ∧ Q (.bl b) H
section
variable {X : Cx}
theorem inst_kept {pins : List (Addr × Obj)} {σ : L2.St} {H : Hp} {s : Shared} {a C dd : Addr} {fs : List (Str × V)} (I : Inv X pins σ H s) (ha : H a = some (ExK (.ref C) (some dd) a)) (hd : H dd = some (.xd fs)) :
    ∃ (oe od : Obj) (mA : Str → Option Value), PySem.W.InstAt s.heap a oe C (some od) ∧ s.heap.get? dd = some od ∧ (∀ n, PySem.W.lookIn n od = some (mA n)) ∧ ∀ f, RelO (fs.lookup f) (mA f) := by
  obtain ⟨⟨oe, vs, he, hz, hv⟩, _⟩ := I.hok a _ ha
  obtain ⟨mA, hns, hr⟩ := (show ObjOk X.prog X.w H s.heap dd (.xd fs) from I.hok dd _ hd)
  obtain ⟨od, ho, hl⟩ := lookIn_ns hns
  exact ⟨oe, od, mA, ⟨he, hz.1, by unfold PySem.W.notCls; rw [hv] <;> rfl, by rw [hz.2]; exact ho⟩, ho, hl, hr⟩
theorem call_isiE : CallR X (.builtin "isinstance") (rIsiE X.K) := by
  intro pins s σ H xs us Q I r h
  rcases h with h | ⟨a, C, dd, fs, c, u, b, rfl, ha, hd, hc, hu, hk, q⟩
  · exact call_isi pins s σ H xs us Q I r h
  · obtain ⟨oe, od, mA, J, _⟩ := inst_kept I ha hd
    obtain ⟨u1, u2, rfl, r1, r2⟩ := r.two
    obtain rfl : u1 = Value.ref a := r1
    obtain rfl := hu.eq r2
    exact PySem.W.kia_one (kit_err hc) I.kIn J hk (fun z => nomatch z) fun tk => ⟨.bl b, H, I.tok tk, rfl, q⟩
theorem k_isiE (K : PySem.W.Frag) (h : X.K = K) : CallR X (.builtin "isinstance") (rIsiE K) := by subst h; exact call_isiE
/-- err.f of a kept error -/
def tXfK (K : PySem.W.Frag) (f : Str) (te : TE) : TE := fun σ H Q => te σ H fun x H1 => ∃ (a C dd : Addr) (fs : List (Str × V)) (v : V), x = .ref a ∧ H1 a = some (ExK (.ref C) (some dd) a) ∧ H1 dd = some (.xd fs) ∧ XfC K C ∧ PySem.W.findIn K (.ref C) f = some none ∧ fs.lookup f = some v ∧ Q v H1
theorem pe_xfK {e : Expr} {te : TE} {pos : Pos} {n : Str} (he : PE X e te) (hb : attributeBase e n X.env (eval e X.env) = eval e X.env := by rfl) : PE X (.Attribute e n pos) (tXfK X.K n te) := by
  refine ⟨fun pins s σ H Q I h => ?_⟩
  refine attr_of hb (thn (he.run pins s σ H _ I h) fun u s1 hh => ?_)
  obtain ⟨x, H1, I1, rx, a, C, dd, fs, v, ex, ha, hd, T, hno, l, q⟩ := hh
  subst ex
  obtain rfl : u = Value.ref a := rx
  obtain ⟨oe, od, mA, J, ho, hl, hr⟩ := inst_kept I1 ha hd
  obtain ⟨u, hu, ru⟩ := RelO.some_of (v := v) (o := mA n) (by rw [← l]; exact hr n)
  exact HandSPX.exc_get I1.kIn J T.ga T.gg T.exC (PySem.W.findObj_own T.hdC hno rfl (by rw [hl, hu])) (handed_of ru) ⟨v, H1, I1.tok _, ru, q⟩
end
end My

namespace My
open PySem PySem.Spec PyProof.Rows L2 Pre PySem.W
/-! ### a function called by a local name -/
def tCallV (P : Program) (w : World) (K : PySem.W.Frag) (mg : Str → Option Value) (base : Heap) (CX : CXT) (k : Nat) (E : XK) (tf : TE) (t : TA) : TE := fun σ H Q => tf σ H fun v H1 =>
  ∃ (f : Addr) (fd : FuncData) (ps : List Str) (sp : Sp), v = .ref f ∧ FnOk P w K mg base CX k f fd ps sp ∧ PySem.W.keepIn K (.ref f) = true ∧ Binds K fd ps [] ∧ t σ H1 fun vs H2 => sp vs H2 Q E
section
variable {X : Cx} {CX : CXT} {k : Nat} {E : XK} {x : Str} {p pos : Pos} {e : Expr} {es : List Expr} {tf : TE} {t : TA}
theorem pe_callV (hr : Room k X.A) (hf : PE X (.Name x p) tf) (hx : Passes CX X E) (ha : PA X (e :: es) t) (he : starEach (e :: es) X.env = (false, eval e X.env) :: starEach es X.env := by rfl) (hpl : (backTo pos (starEach es X.env)).any (·.1) = false := by rfl) :
    PE X (.Call (.Name x p) (e :: es) [] pos) (tCallV X.prog X.w X.K X.mg X.base CX k E tf t) := by
  refine ⟨fun pins s σ H Q I h => ?_⟩
  refine wpAny_Call_Name_kw (thn (hf.run pins s σ H _ I h) fun u s1 ⟨v, H1, I1, r, f, fd, ps, sp, ev, F, hk, hb, q⟩ => ?_)
  subst ev
  obtain rfl : u = Value.ref f := r
  refine PySem.W.callWith_K (h₀ := X.base) I1.ok.mod.kin hk (thn (ha.run pos pins s1 σ H1 _ I1 q) fun us s2 ⟨vs, H2, I2, r2, q2⟩ => ⟨I2.kIn, ?_⟩) he hpl
  exact run_fn F hr hb .nil hx I2 r2 (by rw [List.append_nil]; exact q2)
end
/-- what nothing reaches here -/
def sp_no : Sp := fun _ _ _ _ => False
end My

namespace My
/-! ### rows by rules, modulo a number: a rule that leads another one -/
/-- a sum of the first n -/
def sumN : Nat → (Nat → Int) → Int
  | 0, _ => 0
  | n + 1, f => sumN n f + f n
theorem sumN_congr {n : Nat} {f g : Nat → Int} (h : ∀ i, i < n → f i = g i) : sumN n f = sumN n g := by
  induction n with
  | zero => rfl
  | succ n ih => rw [sumN, sumN, ih fun i hi => h i (by omega), h n (Nat.lt_succ_self n)]
theorem sumN_zero (n : Nat) : sumN n (fun _ => 0) = 0 := by
  induction n with
  | zero => rfl
  | succ n ih => rw [sumN, ih]; rfl
theorem sumN_none {n : Nat} {f : Nat → Int} (h : ∀ i, i < n → f i = 0) : sumN n f = 0 := (sumN_congr h).trans (sumN_zero n)
theorem sumN_add (n : Nat) (f g : Nat → Int) : sumN n (fun i => f i + g i) = sumN n f + sumN n g := by
  induction n with
  | zero => rfl
  | succ n ih => rw [sumN, sumN, sumN, ih]; omega
theorem sumN_mul (n : Nat) (c : Int) (f : Nat → Int) : sumN n (fun i => c * f i) = c * sumN n f := by
  induction n with
  | zero => simp [sumN]
  | succ n ih => rw [sumN, sumN, ih, Int.mul_add]
theorem sumN_front (n : Nat) (f : Nat → Int) : sumN (n + 1) f = f 0 + sumN n fun i => f (i + 1) := by
  induction n with
  | zero => simp [sumN]
  | succ n ih => rw [sumN, ih, sumN]; omega
theorem sumN_rev (n : Nat) (f : Nat → Int) : sumN n (fun i => f (n - 1 - i)) = sumN n f := by
  induction n generalizing f with
  | zero => rfl
  | succ n ih =>
    rw [sumN_front, sumN]
    have : (sumN n fun i => f (n + 1 - 1 - (i + 1))) = sumN n f := by
      rw [← ih f]
      refine sumN_congr fun i hi => ?_
      congr 1
      omega
    rw [this]
    show f n + _ = _
    omega
theorem sumN_cut {n k : Nat} (h : k ≤ n) {f : Nat → Int} (z : ∀ i, k ≤ i → i < n → f i = 0) : sumN n f = sumN k f := by
  induction n with
  | zero => obtain rfl : k = 0 := by omega
            rfl
  | succ n ih =>
    by_cases e : k = n + 1
    · rw [e]
    · rw [sumN, z n (by omega) (Nat.lt_succ_self n), ih (by omega) fun i h1 h2 => z i h1 (by omega)]
      omega
theorem sumN_swap (n m : Nat) (f : Nat → Nat → Int) : sumN n (fun i => sumN m (f i)) = sumN m fun j => sumN n fun i => f i j := by
  induction n with
  | zero => simp only [sumN]; exact (sumN_zero m).symm
  | succ n ih =>
    rw [sumN, ih, ← sumN_add]
    rfl
theorem sumN_dvd {N : Int} {n : Nat} {f : Nat → Int} (h : ∀ i, i < n → N ∣ f i) : N ∣ sumN n f := by
  induction n with
  | zero => exact Int.dvd_zero N
  | succ n ih => exact Int.dvd_add (ih fun i hi => h i (by omega)) (h n (Nat.lt_succ_self n))
theorem sumN_only {n k : Nat} (hk : k < n) {f : Nat → Int} (z : ∀ i, i < n → i ≠ k → f i = 0) : sumN n f = f k := by
  induction n with
  | zero => omega
  | succ n ih =>
    rw [sumN]
    by_cases e : k = n
    · subst e
      rw [sumN_none fun i hi => z i (by omega) (by omega)]
      omega
    · rw [ih (by omega) fun i hi ne => z i (by omega) ne, z n (Nat.lt_succ_self n) (fun q => e q.symm)]
      omega
section
variable (N : Int) (w : List Int)
/-- the row follows the rule w -/
def Fol (r : Nat → Int) : Prop := ∀ i, N ∣ r (i + w.length) - sumN w.length fun b => w.getD b 0 * r (i + w.length - 1 - b)
/-- a power led down: k weights done -/
def updW (f : Nat → Int) (top k : Nat) : Nat → Int := fun p => if p < top ∧ top - 1 - p < k then (f p + f top * w.getD (top - 1 - p) 0) % N else f p
/-- powers from the t-th on led down -/
def ledN (f : Nat → Int) (L : Nat) : Nat → Nat → Int
  | 0 => f
  | t + 1 => updW N w (ledN f L t) (L - 1 - t) w.length
/-- what is led: the rule q as powers -/
def iniP (q : List Int) : Nat → Int := fun p => q.getD p 0 % N
/-- how many powers there are at first -/
def lenP (q : List Int) : Nat := max q.length w.length
def redP (q : List Int) : Nat → Int := ledN N w (iniP N q) (lenP w q) (lenP w q - w.length)
variable {N w}
theorem upd_same_sum (hN : 0 < N) {f r : Nat → Int} (hr : Fol N w r) {top : Nat} (ht : w.length ≤ top) (i : Nat) : N ∣ sumN top (fun p => updW N w f top w.length p * r (i + p)) - sumN (top + 1) fun p => f p * r (i + p) := by
  rw [sumN]
  have h1 : N ∣ sumN top (fun p => updW N w f top w.length p * r (i + p)) - sumN top fun p => (f p + if top - 1 - p < w.length then f top * w.getD (top - 1 - p) 0 else 0) * r (i + p) := by
    have e : sumN top (fun p => updW N w f top w.length p * r (i + p)) - sumN top (fun p => (f p + if top - 1 - p < w.length then f top * w.getD (top - 1 - p) 0 else 0) * r (i + p)) = sumN top fun p => (updW N w f top w.length p - (f p + if top - 1 - p < w.length then f top * w.getD (top - 1 - p) 0 else 0)) * r (i + p) := by
      rw [Int.sub_eq_add_neg, ← Int.neg_one_mul, ← sumN_mul, ← sumN_add]
      refine sumN_congr fun p _ => ?_
      rw [Int.neg_one_mul, ← Int.sub_eq_add_neg, Int.sub_mul]
    rw [e]
    refine sumN_dvd fun p hp => ?_
    refine Int.dvd_mul_of_dvd_left ?_
    unfold updW
    by_cases c : top - 1 - p < w.length
    · rw [if_pos ⟨hp, c⟩, if_pos c]
      have := Int.dvd_self_sub_emod (x := f p + f top * w.getD (top - 1 - p) 0) (m := N)
      rw [← Int.neg_sub]
      exact Int.dvd_neg.mpr this
    · rw [if_neg fun z => c z.2, if_neg c, Int.add_zero, Int.sub_self]
      exact Int.dvd_zero N
  have h2 : sumN top (fun p => (f p + if top - 1 - p < w.length then f top * w.getD (top - 1 - p) 0 else 0) * r (i + p)) = sumN top (fun p => f p * r (i + p)) + f top * sumN w.length fun b => w.getD b 0 * r (i + top - 1 - b) := by
    have e1 : (fun p => (f p + if top - 1 - p < w.length then f top * w.getD (top - 1 - p) 0 else 0) * r (i + p)) = fun p => f p * r (i + p) + (if top - 1 - p < w.length then f top * w.getD (top - 1 - p) 0 else 0) * r (i + p) := by
      funext p
      rw [Int.add_mul]
    rw [e1, sumN_add]
    congr 1
    rw [← sumN_mul]
    have e2 : sumN top (fun p => (if top - 1 - p < w.length then f top * w.getD (top - 1 - p) 0 else 0) * r (i + p)) = sumN top fun p => (fun b => (if b < w.length then f top * w.getD b 0 else 0) * r (i + top - 1 - b)) (top - 1 - p) := by
      refine sumN_congr fun p hp => ?_
      dsimp only
      rw [show i + top - 1 - (top - 1 - p) = i + p by omega]
    refine e2.trans ((sumN_rev top fun b => (if b < w.length then f top * w.getD b 0 else 0) * r (i + top - 1 - b)).trans ?_)
    rw [sumN_cut ht fun b h1 h2 => by rw [if_neg (by omega), Int.zero_mul]]
    refine sumN_congr fun b hb => ?_
    rw [if_pos hb, Int.mul_assoc]
  have h3 : N ∣ f top * sumN w.length (fun b => w.getD b 0 * r (i + top - 1 - b)) - f top * r (i + top) := by
    rw [← Int.mul_sub]
    refine Int.dvd_mul_of_dvd_right ?_
    have := hr (i + top - w.length)
    rw [show i + top - w.length + w.length = i + top by omega] at this
    rw [← Int.neg_sub]
    exact Int.dvd_neg.mpr this
  rw [h2] at h1
  have h4 := Int.dvd_add h1 h3
  have e : ∀ a b c d : Int, (a - (b + c)) + (c - d) = a - (b + d) := fun a b c d => by omega
  rw [e] at h4
  exact h4
theorem led_sum (hN : 0 < N) {f r : Nat → Int} (hr : Fol N w r) {L : Nat} (i : Nat) : ∀ t, t + w.length ≤ L → N ∣ sumN (L - t) (fun p => ledN N w f L t p * r (i + p)) - sumN L fun p => f p * r (i + p)
  | 0, _ => by rw [Nat.sub_zero]; exact ⟨0, by rw [Int.mul_zero]; exact Int.sub_self _⟩
  | t + 1, h => by
    have ih := led_sum hN (f := f) hr (L := L) i t (by omega)
    have h1 := upd_same_sum hN (f := ledN N w f L t) hr (top := L - 1 - t) (by omega) i
    rw [show L - 1 - t + 1 = L - t by omega] at h1
    rw [show L - (t + 1) = L - 1 - t by omega]
    have := Int.dvd_add h1 ih
    rw [show ∀ a b c : Int, a - b + (b - c) = a - c from fun a b c => by omega] at this
    exact this
/-- led powers tell the same of all rows by the rule -/
theorem red_sum (hN : 0 < N) {r : Nat → Int} (hr : Fol N w r) (q : List Int) (i : Nat) : N ∣ sumN w.length (fun p => redP N w q p * r (i + p)) - sumN q.length fun p => q.getD p 0 * r (i + p) := by
  have h1 := led_sum hN (f := iniP N q) hr (L := lenP w q) i (lenP w q - w.length) (by unfold lenP; omega)
  rw [show lenP w q - (lenP w q - w.length) = w.length by unfold lenP; omega] at h1
  have h2 : N ∣ sumN (lenP w q) (fun p => iniP N q p * r (i + p)) - sumN q.length fun p => q.getD p 0 * r (i + p) := by
    rw [← sumN_cut (n := lenP w q) (k := q.length) (f := fun p => q.getD p 0 * r (i + p)) (by unfold lenP; omega) fun p h1 _ => by rw [List.getD_eq_getElem?_getD, List.getElem?_eq_none h1]; exact Int.zero_mul _]
    have e : sumN (lenP w q) (fun p => iniP N q p * r (i + p)) - sumN (lenP w q) (fun p => q.getD p 0 * r (i + p)) = sumN (lenP w q) fun p => (iniP N q p - q.getD p 0) * r (i + p) := by
      rw [Int.sub_eq_add_neg, ← Int.neg_one_mul, ← sumN_mul, ← sumN_add]
      refine sumN_congr fun p _ => ?_
      rw [Int.neg_one_mul, ← Int.sub_eq_add_neg, Int.sub_mul]
    rw [e]
    refine sumN_dvd fun p _ => Int.dvd_mul_of_dvd_left ?_
    unfold iniP
    have := Int.dvd_self_sub_emod (x := q.getD p 0) (m := N)
    rw [← Int.neg_sub]
    exact Int.dvd_neg.mpr this
  have := Int.dvd_add h1 h2
  rw [show ∀ a b c : Int, a - b + (b - c) = a - c from fun a b c => by omega] at this
  exact this
theorem led_range (hN : 0 < N) {f : Nat → Int} (hf : ∀ p, 0 ≤ f p ∧ f p < N) (L : Nat) : ∀ t p, 0 ≤ ledN N w f L t p ∧ ledN N w f L t p < N
  | 0, p => hf p
  | t + 1, p => by
    rw [ledN]
    unfold updW
    split
    · exact ⟨Int.emod_nonneg _ (by omega), Int.emod_lt_of_pos _ hN⟩
    · exact led_range hN hf L t p
theorem red_range (hN : 0 < N) (q : List Int) (p : Nat) : 0 ≤ redP N w q p ∧ redP N w q p < N := led_range hN (fun p => ⟨Int.emod_nonneg _ (by omega), Int.emod_lt_of_pos _ hN⟩) _ _ _
/-- where all is led to nought, all rows by the rule tell nought -/
theorem red_none (hN : 0 < N) {r : Nat → Int} (hr : Fol N w r) {q : List Int} (hz : ∀ p, p < w.length → redP N w q p = 0) (i : Nat) : N ∣ sumN q.length fun p => q.getD p 0 * r (i + p) := by
  have := red_sum hN hr q i
  rw [sumN_none fun p hp => by rw [hz p hp, Int.zero_mul], Int.zero_sub] at this
  exact Int.dvd_neg.mp this
/-- the last one alone -/
def Alo (m : Nat) (r : Nat → Int) : Prop := (∀ p, p + 1 < m → r p = 0) ∧ (0 < m → r (m - 1) = -1)
/-- otherwise the row from the last one alone tells where it first does not -/
theorem red_some (hN : 0 < N) {r : Nat → Int} (hr : Fol N w r) (ha : Alo w.length r) {q : List Int} {t : Nat} (ht : t < w.length) (hn : redP N w q t ≠ 0) (hz : ∀ p, t < p → p < w.length → redP N w q p = 0) :
    (∀ i, i < w.length - 1 - t → N ∣ sumN q.length fun p => q.getD p 0 * r (i + p)) ∧ ¬ N ∣ sumN q.length fun p => q.getD p 0 * r (w.length - 1 - t + p) := by
  constructor
  · intro i hi
    have := red_sum hN hr q i
    rw [sumN_none fun p hp => ?_, Int.zero_sub] at this
    · exact Int.dvd_neg.mp this
    · by_cases c : t < p
      · rw [hz p c hp, Int.zero_mul]
      · rw [ha.1 _ (by omega), Int.mul_zero]
  · intro hd
    have h1 := red_sum hN hr q (w.length - 1 - t)
    have h2 := Int.dvd_add h1 hd
    rw [show ∀ a b : Int, a - b + b = a from fun a b => by omega, sumN_only (k := t) ht fun p hp ne => ?_] at h2
    · rw [show w.length - 1 - t + t = w.length - 1 by omega, ha.2 (by omega), Int.mul_neg_one] at h2
      have h3 := Int.dvd_neg.mp h2
      obtain ⟨r1, r2⟩ := red_range (w := w) hN q t
      have := Int.le_of_dvd (by omega) h3
      omega
    · by_cases c : t < p
      · rw [hz p c hp, Int.zero_mul]
      · rw [ha.1 _ (by omega), Int.mul_zero]
end
/-- the rule as powers -/
def asP (u : List Int) : List Int := u.reverse.map (fun x => -x) ++ [1]
theorem asP_len (u : List Int) : (asP u).length = u.length + 1 := by unfold asP; rw [List.length_append, List.length_map, List.length_reverse]; rfl
/-- what the powers tell: the next one less the sum -/
theorem asP_sum (u : List Int) (r : Nat → Int) (i : Nat) : (sumN (asP u).length fun p => (asP u).getD p 0 * r (i + p)) = r (i + u.length) - sumN u.length fun b => u.getD b 0 * r (i + u.length - 1 - b) := by
  rw [asP_len, sumN]
  have e1 : (asP u).getD u.length 0 = 1 := by
    unfold asP
    rw [List.getD_eq_getElem?_getD, List.getElem?_append_right (by rw [List.length_map, List.length_reverse]; exact Nat.le_refl _), List.length_map, List.length_reverse, Nat.sub_self]
    rfl
  have e2 : (sumN u.length fun p => (asP u).getD p 0 * r (i + p)) = - sumN u.length fun b => u.getD b 0 * r (i + u.length - 1 - b) := by
    rw [← sumN_rev u.length fun b => u.getD b 0 * r (i + u.length - 1 - b), ← Int.neg_one_mul, ← sumN_mul]
    refine sumN_congr fun p hp => ?_
    have e3 : (asP u).getD p 0 = -(u.getD (u.length - 1 - p) 0) := by
      unfold asP
      rw [List.getD_eq_getElem?_getD, List.getElem?_append_left (by rw [List.length_map, List.length_reverse]; exact hp), List.getElem?_map, List.getElem?_reverse hp, List.getD_eq_getElem?_getD, List.getElem?_eq_getElem (by omega)]
      rfl
    rw [e3, show i + u.length - 1 - (u.length - 1 - p) = i + p by omega, Int.neg_mul, Int.neg_one_mul]
  rw [e1, e2, Int.one_mul]
  omega
theorem fol_asP {N : Int} {w : List Int} {r : Nat → Int} : Fol N w r ↔ ∀ i, N ∣ sumN (asP w).length fun p => (asP w).getD p 0 * r (i + p) := by
  unfold Fol
  constructor
  · intro h i; rw [asP_sum]; exact h i
  · intro h i; have := h i; rwa [asP_sum] at this
end My

namespace My
open PySem PySem.Spec PyProof.Rows L2
theorem nil_binds {K : PySem.W.Frag} {fd : FuncData} {ps : List Str} (h : ∃ ds, Vals [] ds ∧ Binds K fd ps ds) : Binds K fd ps [] := by
  obtain ⟨ds, v, b⟩ := h
  cases v
  exact b
def top (i : Nat) : Stmt := PySem.Challenge.pw_wholesound_k53_counts_refused.main.body.getD i (.Pass ⟨0, 0, 0, 0⟩)
abbrev s_is_whole : Stmt := top 12
abbrev N_is_whole : List Str := ["value"]
theorem sc_is_whole : FnScope N_is_whole ["value"] (defScope s_is_whole) := ⟨rfl, rfl, rfl, by decide +kernel, rfl, by decide +kernel, by decide +kernel⟩
abbrev s_is_between : Stmt := top 13
abbrev N_is_between : List Str := ["value", "low", "high"]
theorem sc_is_between : FnScope N_is_between ["value", "low", "high"] (defScope s_is_between) := ⟨rfl, rfl, rfl, by decide +kernel, rfl, by decide +kernel, by decide +kernel⟩
abbrev s_common_divisor : Stmt := top 14
abbrev N_common_divisor : List Str := ["one", "other"]
theorem sc_common_divisor : FnScope N_common_divisor ["one", "other"] (defScope s_common_divisor) := ⟨rfl, rfl, rfl, by decide +kernel, rfl, by decide +kernel, by decide +kernel⟩
abbrev s_fraction : Stmt := top 15
abbrev N_fraction : List Str := ["top", "under", "common"]
theorem sc_fraction : FnScope N_fraction ["top", "under"] (defScope s_fraction) := ⟨rfl, rfl, rfl, by decide +kernel, rfl, by decide +kernel, by decide +kernel⟩
abbrev s_check_depth : Stmt := top 16
abbrev N_check_depth : List Str := ["depth", "most"]
theorem sc_check_depth : FnScope N_check_depth ["depth", "most"] (defScope s_check_depth) := ⟨rfl, rfl, rfl, by decide +kernel, rfl, by decide +kernel, by decide +kernel⟩
abbrev s_check_number : Stmt := top 17
abbrev N_check_number : List Str := ["number", "low", "high"]
theorem sc_check_number : FnScope N_check_number ["number", "low", "high"] (defScope s_check_number) := ⟨rfl, rfl, rfl, by decide +kernel, rfl, by decide +kernel, by decide +kernel⟩
abbrev s_is_sample : Stmt := top 19
abbrev N_is_sample : List Str := ["value", "depth"]
theorem sc_is_sample : FnScope N_is_sample ["value", "depth"] (defScope s_is_sample) := ⟨rfl, rfl, rfl, by decide +kernel, rfl, by decide +kernel, by decide +kernel⟩
abbrev s_are_samples : Stmt := top 20
abbrev N_are_samples : List Str := ["value", "depth", "item"]
theorem sc_are_samples : FnScope N_are_samples ["value", "depth"] (defScope s_are_samples) := ⟨rfl, rfl, rfl, by decide +kernel, rfl, by decide +kernel, by decide +kernel⟩
abbrev s_wrapped : Stmt := top 21
abbrev N_wrapped : List Str := ["number", "depth", "half"]
theorem sc_wrapped : FnScope N_wrapped ["number", "depth"] (defScope s_wrapped) := ⟨rfl, rfl, rfl, by decide +kernel, rfl, by decide +kernel, by decide +kernel⟩
abbrev s_folded : Stmt := top 22
abbrev N_folded : List Str := ["number"]
theorem sc_folded : FnScope N_folded ["number"] (defScope s_folded) := ⟨rfl, rfl, rfl, by decide +kernel, rfl, by decide +kernel, by decide +kernel⟩
abbrev s_unfolded : Stmt := top 23
abbrev N_unfolded : List Str := ["number"]
theorem sc_unfolded : FnScope N_unfolded ["number"] (defScope s_unfolded) := ⟨rfl, rfl, rfl, by decide +kernel, rfl, by decide +kernel, by decide +kernel⟩
abbrev s_check_guesser : Stmt := top 30
abbrev N_check_guesser : List Str := ["value"]
theorem sc_check_guesser : FnScope N_check_guesser ["value"] (defScope s_check_guesser) := ⟨rfl, rfl, rfl, by decide +kernel, rfl, by decide +kernel, by decide +kernel⟩
abbrev s_check_row : Stmt := top 31
abbrev N_check_row : List Str := ["depth", "value"]
theorem sc_check_row : FnScope N_check_row ["depth", "value"] (defScope s_check_row) := ⟨rfl, rfl, rfl, by decide +kernel, rfl, by decide +kernel, by decide +kernel⟩
abbrev s_sum_before : Stmt := top 32
abbrev N_sum_before : List Str := ["guesser", "before", "found", "number", "weight"]
theorem sc_sum_before : FnScope N_sum_before ["guesser", "before"] (defScope s_sum_before) := ⟨rfl, rfl, rfl, by decide +kernel, rfl, by decide +kernel, by decide +kernel⟩
abbrev s_guess_behind : Stmt := top 33
abbrev N_guess_behind : List Str := ["guesser", "before"]
theorem sc_guess_behind : FnScope N_guess_behind ["guesser", "before"] (defScope s_guess_behind) := ⟨rfl, rfl, rfl, by decide +kernel, rfl, by decide +kernel, by decide +kernel⟩
abbrev s_told_rests : Stmt := top 34
abbrev N_told_rests : List Str := ["guesser", "row", "many", "found", "place"]
theorem sc_told_rests : FnScope N_told_rests ["guesser", "row"] (defScope s_told_rests) := ⟨rfl, rfl, rfl, by decide +kernel, rfl, by decide +kernel, by decide +kernel⟩
abbrev s_rests : Stmt := top 35
abbrev N_rests : List Str := ["guesser", "depth", "row", "item"]
theorem sc_rests : FnScope N_rests ["guesser", "depth", "row"] (defScope s_rests) := ⟨rfl, rfl, rfl, by decide +kernel, rfl, by decide +kernel, by decide +kernel⟩
abbrev s_row_of : Stmt := top 36
abbrev N_row_of : List Str := ["guesser", "depth", "rests", "many", "found", "rest"]
theorem sc_row_of : FnScope N_row_of ["guesser", "depth", "rests"] (defScope s_row_of) := ⟨rfl, rfl, rfl, by decide +kernel, rfl, by decide +kernel, by decide +kernel⟩
abbrev s_check_width : Stmt := top 40
abbrev N_check_width : List Str := ["width", "depth"]
theorem sc_check_width : FnScope N_check_width ["width", "depth"] (defScope s_check_width) := ⟨rfl, rfl, rfl, by decide +kernel, rfl, by decide +kernel, by decide +kernel⟩
abbrev s_chosen : Stmt := top 41
abbrev N_chosen : List Str := ["many", "few", "found", "turn"]
theorem sc_chosen : FnScope N_chosen ["many", "few"] (defScope s_chosen) := ⟨rfl, rfl, rfl, by decide +kernel, rfl, by decide +kernel, by decide +kernel⟩
abbrev s_sums_below : Stmt := top 42
abbrev N_sums_below : List Str := ["many", "bound", "total", "found", "turn", "part"]
theorem sc_sums_below : FnScope N_sums_below ["many", "bound", "total"] (defScope s_sums_below) := ⟨rfl, rfl, rfl, by decide +kernel, rfl, by decide +kernel, by decide +kernel⟩
abbrev s_how_many : Stmt := top 43
abbrev N_how_many : List Str := ["depth", "width", "many", "size", "total"]
theorem sc_how_many : FnScope N_how_many ["depth", "width", "many", "size"] (defScope s_how_many) := ⟨rfl, rfl, rfl, by decide +kernel, rfl, by decide +kernel, by decide +kernel⟩
abbrev s_size_bounds : Stmt := top 44
abbrev N_size_bounds : List Str := ["depth", "width", "many"]
theorem sc_size_bounds : FnScope N_size_bounds ["depth", "width", "many"] (defScope s_size_bounds) := ⟨rfl, rfl, rfl, by decide +kernel, rfl, by decide +kernel, by decide +kernel⟩
abbrev s_tables : Stmt := top 45
abbrev N_tables : List Str := ["many", "bound", "total", "found", "turn", "place", "row", "inner"]
theorem sc_tables : FnScope N_tables ["many", "bound", "total"] (defScope s_tables) := ⟨rfl, rfl, rfl, by decide +kernel, rfl, by decide +kernel, by decide +kernel⟩
abbrev s_row_at : Stmt := top 46
abbrev N_row_at : List Str := ["guesser", "depth", "width", "many", "size", "number", "rest", "bound", "total", "known", "folds", "each", "strokes", "fold"]
theorem sc_row_at : FnScope N_row_at ["guesser", "depth", "width", "many", "size", "number"] (defScope s_row_at) := ⟨rfl, rfl, rfl, by decide +kernel, rfl, by decide +kernel, by decide +kernel⟩
abbrev s_how_many_checked : Stmt := top 47
abbrev N_how_many_checked : List Str := ["depth", "width", "many", "size", "number", "found"]
theorem sc_how_many_checked : FnScope N_how_many_checked ["depth", "width", "many", "size", "number"] (defScope s_how_many_checked) := ⟨rfl, rfl, rfl, by decide +kernel, rfl, by decide +kernel, by decide +kernel⟩
abbrev s_number_of : Stmt := top 48
abbrev N_number_of : List Str := ["guesser", "depth", "width", "row", "folds", "total", "known", "number", "left", "place", "fold", "rest", "fewer", "each", "strokes"]
theorem sc_number_of : FnScope N_number_of ["guesser", "depth", "width", "row"] (defScope s_number_of) := ⟨rfl, rfl, rfl, by decide +kernel, rfl, by decide +kernel, by decide +kernel⟩
abbrev s_fair : Stmt := top 49
abbrev N_fair : List Str := ["depth", "width", "whole"]
theorem sc_fair : FnScope N_fair ["depth", "width"] (defScope s_fair) := ⟨rfl, rfl, rfl, by decide +kernel, rfl, by decide +kernel, by decide +kernel⟩
abbrev s_twice_mean : Stmt := top 50
abbrev N_twice_mean : List Str := ["depth", "width"]
theorem sc_twice_mean : FnScope N_twice_mean ["depth", "width"] (defScope s_twice_mean) := ⟨rfl, rfl, rfl, by decide +kernel, rfl, by decide +kernel, by decide +kernel⟩
abbrev s_mean : Stmt := top 51
abbrev N_mean : List Str := ["depth", "width"]
theorem sc_mean : FnScope N_mean ["depth", "width"] (defScope s_mean) := ⟨rfl, rfl, rfl, by decide +kernel, rfl, by decide +kernel, by decide +kernel⟩
abbrev s_least_means : Stmt := top 52
abbrev N_least_means : List Str := ["depth", "means", "width"]
theorem sc_least_means : FnScope N_least_means ["depth"] (defScope s_least_means) := ⟨rfl, rfl, rfl, by decide +kernel, rfl, by decide +kernel, by decide +kernel⟩
abbrev s_gap : Stmt := top 53
abbrev N_gap : List Str := ["one", "other", "depth"]
theorem sc_gap : FnScope N_gap ["one", "other", "depth"] (defScope s_gap) := ⟨rfl, rfl, rfl, by decide +kernel, rfl, by decide +kernel, by decide +kernel⟩
abbrev s_law_cell : Stmt := top 55
abbrev N_law_cell : List Str := ["_law_script", "_law_index"]
theorem sc_law_cell : FnScope N_law_cell ["_law_script", "_law_index"] (defScope s_law_cell) := ⟨rfl, rfl, rfl, by decide +kernel, rfl, by decide +kernel, by decide +kernel⟩
abbrev s_law_hash : Stmt := top 56
abbrev N_law_hash : List Str := ["_law_seed", "_law_index", "_law_mixed"]
theorem sc_law_hash : FnScope N_law_hash ["_law_seed", "_law_index"] (defScope s_law_hash) := ⟨rfl, rfl, rfl, by decide +kernel, rfl, by decide +kernel, by decide +kernel⟩
abbrev s_law_generator : Stmt := top 57
abbrev N_law_generator : List Str := ["_law_script", "_law_index", "_law_seed"]
theorem sc_law_generator : FnScope N_law_generator ["_law_script", "_law_index"] (defScope s_law_generator) := ⟨rfl, rfl, rfl, by decide +kernel, rfl, by decide +kernel, by decide +kernel⟩
abbrev s_law_random : Stmt := top 58
abbrev N_law_random : List Str := ["_law_generator_here", "_law_bound", "_law_drawn", "_law_turn"]
theorem sc_law_random : FnScope N_law_random ["_law_generator_here", "_law_bound"] (defScope s_law_random) := ⟨rfl, rfl, rfl, by decide +kernel, rfl, by decide +kernel, by decide +kernel⟩
abbrev s_law_weights : Stmt := top 59
abbrev N_law_weights : List Str := ["_law_generator_here", "_law_many", "_law_found", "_law_number", "_law_great", "_law_kind"]
theorem sc_law_weights : FnScope N_law_weights ["_law_generator_here", "_law_many"] (defScope s_law_weights) := ⟨rfl, rfl, rfl, by decide +kernel, rfl, by decide +kernel, by decide +kernel⟩
abbrev s_law_asked : Stmt := top 60
abbrev N_law_asked : List Str := ["_law_function", "_law_values"]
theorem sc_law_asked : FnScope N_law_asked ["_law_function", "_law_values"] (defScope s_law_asked) := ⟨rfl, rfl, rfl, by decide +kernel, rfl, by decide +kernel, by decide +kernel⟩
abbrev s_law_caught : Stmt := top 61
abbrev N_law_caught : List Str := ["_law_door", "_law_values", "_law_caught_here", "error", "_law_kinds", "_law_doors"]
theorem sc_law_caught : FnScope N_law_caught ["_law_door", "_law_values"] (defScope s_law_caught) := ⟨rfl, rfl, rfl, by decide +kernel, rfl, by decide +kernel, by decide +kernel⟩
abbrev s_law_all_refused : Stmt := top 62
abbrev N_law_all_refused : List Str := ["_law_door", "_law_ahead", "_law_bads", "_law_behind", "_law_kind", "_law_bad"]
theorem sc_law_all_refused : FnScope N_law_all_refused ["_law_door", "_law_ahead", "_law_bads", "_law_behind", "_law_kind"] (defScope s_law_all_refused) := ⟨rfl, rfl, rfl, by decide +kernel, rfl, by decide +kernel, by decide +kernel⟩
abbrev s_law_depths_right : Stmt := top 63
abbrev N_law_depths_right : List Str := ["_law_guesser", "_law_bads", "_law_door", "_law_ahead", "_law_many"]
theorem sc_law_depths_right : FnScope N_law_depths_right ["_law_guesser"] (defScope s_law_depths_right) := ⟨rfl, rfl, rfl, by decide +kernel, rfl, by decide +kernel, by decide +kernel⟩
abbrev s_law_widths_right : Stmt := top 64
abbrev N_law_widths_right : List Str := ["_law_guesser", "_law_depth", "_law_bads", "_law_door", "_law_ahead", "_law_many"]
theorem sc_law_widths_right : FnScope N_law_widths_right ["_law_guesser", "_law_depth"] (defScope s_law_widths_right) := ⟨rfl, rfl, rfl, by decide +kernel, rfl, by decide +kernel, by decide +kernel⟩
abbrev s_law : Stmt := top 65
abbrev N_law : List Str := ["_law_script", "_law_generator_here", "_law_door", "_law_bad", "_law_odd", "_law_guesser", "_law_depth"]
theorem sc_law : FnScope N_law ["_law_script"] (defScope s_law) := ⟨rfl, rfl, rfl, by decide +kernel, rfl, by decide +kernel, by decide +kernel⟩
abbrev s_Guesser___init__ : Stmt := inClass (top 29) 0
abbrev N_Guesser___init__ : List Str := ["self", "weights", "shift", "weight"]
theorem sc_Guesser___init__ : FnScope N_Guesser___init__ ["self", "weights", "shift"] (defScope s_Guesser___init__) := ⟨rfl, rfl, rfl, by decide +kernel, rfl, by decide +kernel, by decide +kernel⟩
abbrev s_InvalidNumber___init__ : Stmt := inClass (top 3) 0
theorem nsc_InvalidNumber : NdefX.NScope ["self", "value", "__class__"] ["self", "value"] ["__class__"] (defScope s_InvalidNumber___init__) := NdefX.nscope_by (by decide +kernel)
theorem sb_InvalidNumber : Sup.SupBody s_InvalidNumber___init__ := ⟨_, _, _, _, _, _, _, _, _, _, rfl, by decide +kernel, fun env => ⟨_, rfl⟩⟩
abbrev s_InvalidDepth___init__ : Stmt := inClass (top 4) 0
theorem nsc_InvalidDepth : NdefX.NScope ["self", "value", "__class__"] ["self", "value"] ["__class__"] (defScope s_InvalidDepth___init__) := NdefX.nscope_by (by decide +kernel)
theorem sb_InvalidDepth : Sup.SupBody s_InvalidDepth___init__ := ⟨_, _, _, _, _, _, _, _, _, _, rfl, by decide +kernel, fun env => ⟨_, rfl⟩⟩
abbrev s_InvalidRow___init__ : Stmt := inClass (top 7) 0
theorem nsc_InvalidRow : NdefX.NScope ["self", "value", "__class__"] ["self", "value"] ["__class__"] (defScope s_InvalidRow___init__) := NdefX.nscope_by (by decide +kernel)
theorem sb_InvalidRow : Sup.SupBody s_InvalidRow___init__ := ⟨_, _, _, _, _, _, _, _, _, _, rfl, by decide +kernel, fun env => ⟨_, rfl⟩⟩
abbrev s_InvalidGuesser___init__ : Stmt := inClass (top 8) 0
theorem nsc_InvalidGuesser : NdefX.NScope ["self", "value", "__class__"] ["self", "value"] ["__class__"] (defScope s_InvalidGuesser___init__) := NdefX.nscope_by (by decide +kernel)
theorem sb_InvalidGuesser : Sup.SupBody s_InvalidGuesser___init__ := ⟨_, _, _, _, _, _, _, _, _, _, rfl, by decide +kernel, fun env => ⟨_, rfl⟩⟩
abbrev s_InvalidWidth___init__ : Stmt := inClass (top 9) 0
theorem nsc_InvalidWidth : NdefX.NScope ["self", "value", "__class__"] ["self", "value"] ["__class__"] (defScope s_InvalidWidth___init__) := NdefX.nscope_by (by decide +kernel)
theorem sb_InvalidWidth : Sup.SupBody s_InvalidWidth___init__ := ⟨_, _, _, _, _, _, _, _, _, _, rfl, by decide +kernel, fun env => ⟨_, rfl⟩⟩
def fileS : Str := PySem.Challenge.pw_wholesound_k53_counts_refused.main.file
def notTys : List String := ["NoneType", "bool", "int", "str", "list", "tuple", "dict"]
/-- what the top has left -/
structure Top (K : PySem.W.Frag) (mg : Str → Option Value) where
  C_Guesser : Addr
  gc_Guesser : mg "Guesser" = some (.ref C_Guesser)
  cl_Guesser : Cls K C_Guesser
  ic_Guesser : C8.InsC K C_Guesser
  kx_Guesser : ∀ T ∈ notTys, PySem.W.kitOne K (.type T) (.ref C_Guesser) = some false
  na_Guesser_parts : NoAttr K C_Guesser "parts"
  na_Guesser_down : NoAttr K C_Guesser "down"
  f_is_whole : Addr
  fd_is_whole : FuncData
  F_is_whole : FunD K "is_whole" "is_whole" (defArgs s_is_whole) (defBody s_is_whole) (defScope s_is_whole) [] [] f_is_whole fd_is_whole
  b_is_whole : Binds K fd_is_whole ["value"] []
  g_is_whole : mg "is_whole" = some (.ref f_is_whole)
  f_is_between : Addr
  fd_is_between : FuncData
  F_is_between : FunD K "is_between" "is_between" (defArgs s_is_between) (defBody s_is_between) (defScope s_is_between) [] [] f_is_between fd_is_between
  b_is_between : Binds K fd_is_between ["value", "low", "high"] []
  g_is_between : mg "is_between" = some (.ref f_is_between)
  f_common_divisor : Addr
  fd_common_divisor : FuncData
  F_common_divisor : FunD K "common_divisor" "common_divisor" (defArgs s_common_divisor) (defBody s_common_divisor) (defScope s_common_divisor) [] [] f_common_divisor fd_common_divisor
  b_common_divisor : Binds K fd_common_divisor ["one", "other"] []
  g_common_divisor : mg "common_divisor" = some (.ref f_common_divisor)
  f_fraction : Addr
  fd_fraction : FuncData
  F_fraction : FunD K "fraction" "fraction" (defArgs s_fraction) (defBody s_fraction) (defScope s_fraction) [] [] f_fraction fd_fraction
  b_fraction : Binds K fd_fraction ["top", "under"] []
  g_fraction : mg "fraction" = some (.ref f_fraction)
  f_check_depth : Addr
  fd_check_depth : FuncData
  F_check_depth : FunD K "check_depth" "check_depth" (defArgs s_check_depth) (defBody s_check_depth) (defScope s_check_depth) [.int 24] [] f_check_depth fd_check_depth
  b_check_depth : Binds K fd_check_depth ["depth", "most"] []
  g_check_depth : mg "check_depth" = some (.ref f_check_depth)
  e0_check_depth : List Value
  v0_check_depth : Vals [.int 24] e0_check_depth
  b0_check_depth : Binds K fd_check_depth ["depth", "most"] e0_check_depth
  f_check_number : Addr
  fd_check_number : FuncData
  F_check_number : FunD K "check_number" "check_number" (defArgs s_check_number) (defBody s_check_number) (defScope s_check_number) [] [] f_check_number fd_check_number
  b_check_number : Binds K fd_check_number ["number", "low", "high"] []
  g_check_number : mg "check_number" = some (.ref f_check_number)
  f_is_sample : Addr
  fd_is_sample : FuncData
  F_is_sample : FunD K "is_sample" "is_sample" (defArgs s_is_sample) (defBody s_is_sample) (defScope s_is_sample) [] [] f_is_sample fd_is_sample
  b_is_sample : Binds K fd_is_sample ["value", "depth"] []
  g_is_sample : mg "is_sample" = some (.ref f_is_sample)
  f_are_samples : Addr
  fd_are_samples : FuncData
  F_are_samples : FunD K "are_samples" "are_samples" (defArgs s_are_samples) (defBody s_are_samples) (defScope s_are_samples) [] [] f_are_samples fd_are_samples
  b_are_samples : Binds K fd_are_samples ["value", "depth"] []
  g_are_samples : mg "are_samples" = some (.ref f_are_samples)
  f_wrapped : Addr
  fd_wrapped : FuncData
  F_wrapped : FunD K "wrapped" "wrapped" (defArgs s_wrapped) (defBody s_wrapped) (defScope s_wrapped) [] [] f_wrapped fd_wrapped
  b_wrapped : Binds K fd_wrapped ["number", "depth"] []
  g_wrapped : mg "wrapped" = some (.ref f_wrapped)
  f_folded : Addr
  fd_folded : FuncData
  F_folded : FunD K "folded" "folded" (defArgs s_folded) (defBody s_folded) (defScope s_folded) [] [] f_folded fd_folded
  b_folded : Binds K fd_folded ["number"] []
  g_folded : mg "folded" = some (.ref f_folded)
  f_unfolded : Addr
  fd_unfolded : FuncData
  F_unfolded : FunD K "unfolded" "unfolded" (defArgs s_unfolded) (defBody s_unfolded) (defScope s_unfolded) [] [] f_unfolded fd_unfolded
  b_unfolded : Binds K fd_unfolded ["number"] []
  g_unfolded : mg "unfolded" = some (.ref f_unfolded)
  f_check_guesser : Addr
  fd_check_guesser : FuncData
  F_check_guesser : FunD K "check_guesser" "check_guesser" (defArgs s_check_guesser) (defBody s_check_guesser) (defScope s_check_guesser) [] [] f_check_guesser fd_check_guesser
  b_check_guesser : Binds K fd_check_guesser ["value"] []
  g_check_guesser : mg "check_guesser" = some (.ref f_check_guesser)
  f_check_row : Addr
  fd_check_row : FuncData
  F_check_row : FunD K "check_row" "check_row" (defArgs s_check_row) (defBody s_check_row) (defScope s_check_row) [] [] f_check_row fd_check_row
  b_check_row : Binds K fd_check_row ["depth", "value"] []
  g_check_row : mg "check_row" = some (.ref f_check_row)
  f_sum_before : Addr
  fd_sum_before : FuncData
  F_sum_before : FunD K "sum_before" "sum_before" (defArgs s_sum_before) (defBody s_sum_before) (defScope s_sum_before) [] [] f_sum_before fd_sum_before
  b_sum_before : Binds K fd_sum_before ["guesser", "before"] []
  g_sum_before : mg "sum_before" = some (.ref f_sum_before)
  f_guess_behind : Addr
  fd_guess_behind : FuncData
  F_guess_behind : FunD K "guess_behind" "guess_behind" (defArgs s_guess_behind) (defBody s_guess_behind) (defScope s_guess_behind) [] [] f_guess_behind fd_guess_behind
  b_guess_behind : Binds K fd_guess_behind ["guesser", "before"] []
  g_guess_behind : mg "guess_behind" = some (.ref f_guess_behind)
  f_told_rests : Addr
  fd_told_rests : FuncData
  F_told_rests : FunD K "told_rests" "told_rests" (defArgs s_told_rests) (defBody s_told_rests) (defScope s_told_rests) [] [] f_told_rests fd_told_rests
  b_told_rests : Binds K fd_told_rests ["guesser", "row"] []
  g_told_rests : mg "told_rests" = some (.ref f_told_rests)
  f_rests : Addr
  fd_rests : FuncData
  F_rests : FunD K "rests" "rests" (defArgs s_rests) (defBody s_rests) (defScope s_rests) [] [] f_rests fd_rests
  b_rests : Binds K fd_rests ["guesser", "depth", "row"] []
  g_rests : mg "rests" = some (.ref f_rests)
  f_row_of : Addr
  fd_row_of : FuncData
  F_row_of : FunD K "row_of" "row_of" (defArgs s_row_of) (defBody s_row_of) (defScope s_row_of) [] [] f_row_of fd_row_of
  b_row_of : Binds K fd_row_of ["guesser", "depth", "rests"] []
  g_row_of : mg "row_of" = some (.ref f_row_of)
  f_check_width : Addr
  fd_check_width : FuncData
  F_check_width : FunD K "check_width" "check_width" (defArgs s_check_width) (defBody s_check_width) (defScope s_check_width) [] [] f_check_width fd_check_width
  b_check_width : Binds K fd_check_width ["width", "depth"] []
  g_check_width : mg "check_width" = some (.ref f_check_width)
  f_chosen : Addr
  fd_chosen : FuncData
  F_chosen : FunD K "chosen" "chosen" (defArgs s_chosen) (defBody s_chosen) (defScope s_chosen) [] [] f_chosen fd_chosen
  b_chosen : Binds K fd_chosen ["many", "few"] []
  g_chosen : mg "chosen" = some (.ref f_chosen)
  f_sums_below : Addr
  fd_sums_below : FuncData
  F_sums_below : FunD K "sums_below" "sums_below" (defArgs s_sums_below) (defBody s_sums_below) (defScope s_sums_below) [] [] f_sums_below fd_sums_below
  b_sums_below : Binds K fd_sums_below ["many", "bound", "total"] []
  g_sums_below : mg "sums_below" = some (.ref f_sums_below)
  f_how_many : Addr
  fd_how_many : FuncData
  F_how_many : FunD K "how_many" "how_many" (defArgs s_how_many) (defBody s_how_many) (defScope s_how_many) [] [] f_how_many fd_how_many
  b_how_many : Binds K fd_how_many ["depth", "width", "many", "size"] []
  g_how_many : mg "how_many" = some (.ref f_how_many)
  f_size_bounds : Addr
  fd_size_bounds : FuncData
  F_size_bounds : FunD K "size_bounds" "size_bounds" (defArgs s_size_bounds) (defBody s_size_bounds) (defScope s_size_bounds) [] [] f_size_bounds fd_size_bounds
  b_size_bounds : Binds K fd_size_bounds ["depth", "width", "many"] []
  g_size_bounds : mg "size_bounds" = some (.ref f_size_bounds)
  f_tables : Addr
  fd_tables : FuncData
  F_tables : FunD K "tables" "tables" (defArgs s_tables) (defBody s_tables) (defScope s_tables) [] [] f_tables fd_tables
  b_tables : Binds K fd_tables ["many", "bound", "total"] []
  g_tables : mg "tables" = some (.ref f_tables)
  f_row_at : Addr
  fd_row_at : FuncData
  F_row_at : FunD K "row_at" "row_at" (defArgs s_row_at) (defBody s_row_at) (defScope s_row_at) [] [] f_row_at fd_row_at
  b_row_at : Binds K fd_row_at ["guesser", "depth", "width", "many", "size", "number"] []
  g_row_at : mg "row_at" = some (.ref f_row_at)
  f_how_many_checked : Addr
  fd_how_many_checked : FuncData
  F_how_many_checked : FunD K "how_many_checked" "how_many_checked" (defArgs s_how_many_checked) (defBody s_how_many_checked) (defScope s_how_many_checked) [] [] f_how_many_checked fd_how_many_checked
  b_how_many_checked : Binds K fd_how_many_checked ["depth", "width", "many", "size", "number"] []
  g_how_many_checked : mg "how_many_checked" = some (.ref f_how_many_checked)
  f_number_of : Addr
  fd_number_of : FuncData
  F_number_of : FunD K "number_of" "number_of" (defArgs s_number_of) (defBody s_number_of) (defScope s_number_of) [] [] f_number_of fd_number_of
  b_number_of : Binds K fd_number_of ["guesser", "depth", "width", "row"] []
  g_number_of : mg "number_of" = some (.ref f_number_of)
  f_fair : Addr
  fd_fair : FuncData
  F_fair : FunD K "fair" "fair" (defArgs s_fair) (defBody s_fair) (defScope s_fair) [] [] f_fair fd_fair
  b_fair : Binds K fd_fair ["depth", "width"] []
  g_fair : mg "fair" = some (.ref f_fair)
  f_twice_mean : Addr
  fd_twice_mean : FuncData
  F_twice_mean : FunD K "twice_mean" "twice_mean" (defArgs s_twice_mean) (defBody s_twice_mean) (defScope s_twice_mean) [] [] f_twice_mean fd_twice_mean
  b_twice_mean : Binds K fd_twice_mean ["depth", "width"] []
  g_twice_mean : mg "twice_mean" = some (.ref f_twice_mean)
  f_mean : Addr
  fd_mean : FuncData
  F_mean : FunD K "mean" "mean" (defArgs s_mean) (defBody s_mean) (defScope s_mean) [] [] f_mean fd_mean
  b_mean : Binds K fd_mean ["depth", "width"] []
  g_mean : mg "mean" = some (.ref f_mean)
  f_least_means : Addr
  fd_least_means : FuncData
  F_least_means : FunD K "least_means" "least_means" (defArgs s_least_means) (defBody s_least_means) (defScope s_least_means) [] [] f_least_means fd_least_means
  b_least_means : Binds K fd_least_means ["depth"] []
  g_least_means : mg "least_means" = some (.ref f_least_means)
  f_gap : Addr
  fd_gap : FuncData
  F_gap : FunD K "gap" "gap" (defArgs s_gap) (defBody s_gap) (defScope s_gap) [] [] f_gap fd_gap
  b_gap : Binds K fd_gap ["one", "other", "depth"] []
  g_gap : mg "gap" = some (.ref f_gap)
  f_law_cell : Addr
  fd_law_cell : FuncData
  F_law_cell : FunD K "_law_cell" "_law_cell" (defArgs s_law_cell) (defBody s_law_cell) (defScope s_law_cell) [] [] f_law_cell fd_law_cell
  b_law_cell : Binds K fd_law_cell ["_law_script", "_law_index"] []
  g_law_cell : mg "_law_cell" = some (.ref f_law_cell)
  f_law_hash : Addr
  fd_law_hash : FuncData
  F_law_hash : FunD K "_law_hash" "_law_hash" (defArgs s_law_hash) (defBody s_law_hash) (defScope s_law_hash) [] [] f_law_hash fd_law_hash
  b_law_hash : Binds K fd_law_hash ["_law_seed", "_law_index"] []
  g_law_hash : mg "_law_hash" = some (.ref f_law_hash)
  f_law_generator : Addr
  fd_law_generator : FuncData
  F_law_generator : FunD K "_law_generator" "_law_generator" (defArgs s_law_generator) (defBody s_law_generator) (defScope s_law_generator) [] [] f_law_generator fd_law_generator
  b_law_generator : Binds K fd_law_generator ["_law_script", "_law_index"] []
  g_law_generator : mg "_law_generator" = some (.ref f_law_generator)
  f_law_random : Addr
  fd_law_random : FuncData
  F_law_random : FunD K "_law_random" "_law_random" (defArgs s_law_random) (defBody s_law_random) (defScope s_law_random) [] [] f_law_random fd_law_random
  b_law_random : Binds K fd_law_random ["_law_generator_here", "_law_bound"] []
  g_law_random : mg "_law_random" = some (.ref f_law_random)
  f_law_weights : Addr
  fd_law_weights : FuncData
  F_law_weights : FunD K "_law_weights" "_law_weights" (defArgs s_law_weights) (defBody s_law_weights) (defScope s_law_weights) [] [] f_law_weights fd_law_weights
  b_law_weights : Binds K fd_law_weights ["_law_generator_here", "_law_many"] []
  g_law_weights : mg "_law_weights" = some (.ref f_law_weights)
  f_law_asked : Addr
  fd_law_asked : FuncData
  F_law_asked : FunD K "_law_asked" "_law_asked" (defArgs s_law_asked) (defBody s_law_asked) (defScope s_law_asked) [] [] f_law_asked fd_law_asked
  b_law_asked : Binds K fd_law_asked ["_law_function", "_law_values"] []
  g_law_asked : mg "_law_asked" = some (.ref f_law_asked)
  f_law_caught : Addr
  fd_law_caught : FuncData
  F_law_caught : FunD K "_law_caught" "_law_caught" (defArgs s_law_caught) (defBody s_law_caught) (defScope s_law_caught) [] [] f_law_caught fd_law_caught
  b_law_caught : Binds K fd_law_caught ["_law_door", "_law_values"] []
  g_law_caught : mg "_law_caught" = some (.ref f_law_caught)
  f_law_all_refused : Addr
  fd_law_all_refused : FuncData
  F_law_all_refused : FunD K "_law_all_refused" "_law_all_refused" (defArgs s_law_all_refused) (defBody s_law_all_refused) (defScope s_law_all_refused) [] [] f_law_all_refused fd_law_all_refused
  b_law_all_refused : Binds K fd_law_all_refused ["_law_door", "_law_ahead", "_law_bads", "_law_behind", "_law_kind"] []
  g_law_all_refused : mg "_law_all_refused" = some (.ref f_law_all_refused)
  f_law_depths_right : Addr
  fd_law_depths_right : FuncData
  F_law_depths_right : FunD K "_law_depths_right" "_law_depths_right" (defArgs s_law_depths_right) (defBody s_law_depths_right) (defScope s_law_depths_right) [] [] f_law_depths_right fd_law_depths_right
  b_law_depths_right : Binds K fd_law_depths_right ["_law_guesser"] []
  g_law_depths_right : mg "_law_depths_right" = some (.ref f_law_depths_right)
  f_law_widths_right : Addr
  fd_law_widths_right : FuncData
  F_law_widths_right : FunD K "_law_widths_right" "_law_widths_right" (defArgs s_law_widths_right) (defBody s_law_widths_right) (defScope s_law_widths_right) [] [] f_law_widths_right fd_law_widths_right
  b_law_widths_right : Binds K fd_law_widths_right ["_law_guesser", "_law_depth"] []
  g_law_widths_right : mg "_law_widths_right" = some (.ref f_law_widths_right)
  f_law : Addr
  fd_law : FuncData
  F_law : FunD K "law" "law" (defArgs s_law) (defBody s_law) (defScope s_law) [] [] f_law fd_law
  b_law : Binds K fd_law ["_law_script"] []
  g_law : mg "law" = some (.ref f_law)
  f_Guesser___init__ : Addr
  fd_Guesser___init__ : FuncData
  F_Guesser___init__ : FunD K "__init__" "Guesser.__init__" (defArgs s_Guesser___init__) (defBody s_Guesser___init__) (defScope s_Guesser___init__) [] [] f_Guesser___init__ fd_Guesser___init__
  b_Guesser___init__ : Binds K fd_Guesser___init__ ["self", "weights", "shift"] []
  me_Guesser___init__ : Meth K C_Guesser "__init__" f_Guesser___init__
  mk_Guesser : Mk K C_Guesser f_Guesser___init__
  C_InvalidNumber : Addr
  gc_InvalidNumber : mg "InvalidNumber" = some (.ref C_InvalidNumber)
  fi_InvalidNumber : Addr
  fd_InvalidNumber : FuncData
  er_InvalidNumber : ErrC K fileS "InvalidNumber" s_InvalidNumber___init__ C_InvalidNumber fi_InvalidNumber fd_InvalidNumber
  C_InvalidDepth : Addr
  gc_InvalidDepth : mg "InvalidDepth" = some (.ref C_InvalidDepth)
  fi_InvalidDepth : Addr
  fd_InvalidDepth : FuncData
  er_InvalidDepth : ErrC K fileS "InvalidDepth" s_InvalidDepth___init__ C_InvalidDepth fi_InvalidDepth fd_InvalidDepth
  C_InvalidRow : Addr
  gc_InvalidRow : mg "InvalidRow" = some (.ref C_InvalidRow)
  fi_InvalidRow : Addr
  fd_InvalidRow : FuncData
  er_InvalidRow : ErrC K fileS "InvalidRow" s_InvalidRow___init__ C_InvalidRow fi_InvalidRow fd_InvalidRow
  C_InvalidGuesser : Addr
  gc_InvalidGuesser : mg "InvalidGuesser" = some (.ref C_InvalidGuesser)
  fi_InvalidGuesser : Addr
  fd_InvalidGuesser : FuncData
  er_InvalidGuesser : ErrC K fileS "InvalidGuesser" s_InvalidGuesser___init__ C_InvalidGuesser fi_InvalidGuesser fd_InvalidGuesser
  C_InvalidWidth : Addr
  gc_InvalidWidth : mg "InvalidWidth" = some (.ref C_InvalidWidth)
  fi_InvalidWidth : Addr
  fd_InvalidWidth : FuncData
  er_InvalidWidth : ErrC K fileS "InvalidWidth" s_InvalidWidth___init__ C_InvalidWidth fi_InvalidWidth fd_InvalidWidth
  C_SoundError : Addr
  gc_SoundError : mg "SoundError" = some (.ref C_SoundError)
  em_InvalidNumber_SoundError : PySem.W.exmOne K (.ref C_InvalidNumber) (.ref C_SoundError) = some true
  em_InvalidNumber_InvalidGuesser : PySem.W.exmOne K (.ref C_InvalidNumber) (.ref C_InvalidGuesser) = some false
  em_InvalidNumber_InvalidDepth : PySem.W.exmOne K (.ref C_InvalidNumber) (.ref C_InvalidDepth) = some false
  em_InvalidNumber_InvalidWidth : PySem.W.exmOne K (.ref C_InvalidNumber) (.ref C_InvalidWidth) = some false
  em_InvalidNumber_InvalidNumber : PySem.W.exmOne K (.ref C_InvalidNumber) (.ref C_InvalidNumber) = some true
  em_InvalidNumber_InvalidRow : PySem.W.exmOne K (.ref C_InvalidNumber) (.ref C_InvalidRow) = some false
  em_InvalidDepth_SoundError : PySem.W.exmOne K (.ref C_InvalidDepth) (.ref C_SoundError) = some true
  em_InvalidDepth_InvalidGuesser : PySem.W.exmOne K (.ref C_InvalidDepth) (.ref C_InvalidGuesser) = some false
  em_InvalidDepth_InvalidDepth : PySem.W.exmOne K (.ref C_InvalidDepth) (.ref C_InvalidDepth) = some true
  em_InvalidDepth_InvalidWidth : PySem.W.exmOne K (.ref C_InvalidDepth) (.ref C_InvalidWidth) = some false
  em_InvalidDepth_InvalidNumber : PySem.W.exmOne K (.ref C_InvalidDepth) (.ref C_InvalidNumber) = some false
  em_InvalidDepth_InvalidRow : PySem.W.exmOne K (.ref C_InvalidDepth) (.ref C_InvalidRow) = some false
  em_InvalidRow_SoundError : PySem.W.exmOne K (.ref C_InvalidRow) (.ref C_SoundError) = some true
  em_InvalidRow_InvalidGuesser : PySem.W.exmOne K (.ref C_InvalidRow) (.ref C_InvalidGuesser) = some false
  em_InvalidRow_InvalidDepth : PySem.W.exmOne K (.ref C_InvalidRow) (.ref C_InvalidDepth) = some false
  em_InvalidRow_InvalidWidth : PySem.W.exmOne K (.ref C_InvalidRow) (.ref C_InvalidWidth) = some false
  em_InvalidRow_InvalidNumber : PySem.W.exmOne K (.ref C_InvalidRow) (.ref C_InvalidNumber) = some false
  em_InvalidRow_InvalidRow : PySem.W.exmOne K (.ref C_InvalidRow) (.ref C_InvalidRow) = some true
  em_InvalidGuesser_SoundError : PySem.W.exmOne K (.ref C_InvalidGuesser) (.ref C_SoundError) = some true
  em_InvalidGuesser_InvalidGuesser : PySem.W.exmOne K (.ref C_InvalidGuesser) (.ref C_InvalidGuesser) = some true
  em_InvalidGuesser_InvalidDepth : PySem.W.exmOne K (.ref C_InvalidGuesser) (.ref C_InvalidDepth) = some false
  em_InvalidGuesser_InvalidWidth : PySem.W.exmOne K (.ref C_InvalidGuesser) (.ref C_InvalidWidth) = some false
  em_InvalidGuesser_InvalidNumber : PySem.W.exmOne K (.ref C_InvalidGuesser) (.ref C_InvalidNumber) = some false
  em_InvalidGuesser_InvalidRow : PySem.W.exmOne K (.ref C_InvalidGuesser) (.ref C_InvalidRow) = some false
  em_InvalidWidth_SoundError : PySem.W.exmOne K (.ref C_InvalidWidth) (.ref C_SoundError) = some true
  em_InvalidWidth_InvalidGuesser : PySem.W.exmOne K (.ref C_InvalidWidth) (.ref C_InvalidGuesser) = some false
  em_InvalidWidth_InvalidDepth : PySem.W.exmOne K (.ref C_InvalidWidth) (.ref C_InvalidDepth) = some false
  em_InvalidWidth_InvalidWidth : PySem.W.exmOne K (.ref C_InvalidWidth) (.ref C_InvalidWidth) = some true
  em_InvalidWidth_InvalidNumber : PySem.W.exmOne K (.ref C_InvalidWidth) (.ref C_InvalidNumber) = some false
  em_InvalidWidth_InvalidRow : PySem.W.exmOne K (.ref C_InvalidWidth) (.ref C_InvalidRow) = some false
  ki_InvalidNumber_SoundError : PySem.W.kitOne K (.ref C_InvalidNumber) (.ref C_SoundError) = some true
  ki_InvalidNumber_InvalidGuesser : PySem.W.kitOne K (.ref C_InvalidNumber) (.ref C_InvalidGuesser) = some false
  ki_InvalidNumber_InvalidDepth : PySem.W.kitOne K (.ref C_InvalidNumber) (.ref C_InvalidDepth) = some false
  ki_InvalidNumber_InvalidWidth : PySem.W.kitOne K (.ref C_InvalidNumber) (.ref C_InvalidWidth) = some false
  ki_InvalidNumber_InvalidNumber : PySem.W.kitOne K (.ref C_InvalidNumber) (.ref C_InvalidNumber) = some true
  ki_InvalidNumber_InvalidRow : PySem.W.kitOne K (.ref C_InvalidNumber) (.ref C_InvalidRow) = some false
  ki_InvalidDepth_SoundError : PySem.W.kitOne K (.ref C_InvalidDepth) (.ref C_SoundError) = some true
  ki_InvalidDepth_InvalidGuesser : PySem.W.kitOne K (.ref C_InvalidDepth) (.ref C_InvalidGuesser) = some false
  ki_InvalidDepth_InvalidDepth : PySem.W.kitOne K (.ref C_InvalidDepth) (.ref C_InvalidDepth) = some true
  ki_InvalidDepth_InvalidWidth : PySem.W.kitOne K (.ref C_InvalidDepth) (.ref C_InvalidWidth) = some false
  ki_InvalidDepth_InvalidNumber : PySem.W.kitOne K (.ref C_InvalidDepth) (.ref C_InvalidNumber) = some false
  ki_InvalidDepth_InvalidRow : PySem.W.kitOne K (.ref C_InvalidDepth) (.ref C_InvalidRow) = some false
  ki_InvalidRow_SoundError : PySem.W.kitOne K (.ref C_InvalidRow) (.ref C_SoundError) = some true
  ki_InvalidRow_InvalidGuesser : PySem.W.kitOne K (.ref C_InvalidRow) (.ref C_InvalidGuesser) = some false
  ki_InvalidRow_InvalidDepth : PySem.W.kitOne K (.ref C_InvalidRow) (.ref C_InvalidDepth) = some false
  ki_InvalidRow_InvalidWidth : PySem.W.kitOne K (.ref C_InvalidRow) (.ref C_InvalidWidth) = some false
  ki_InvalidRow_InvalidNumber : PySem.W.kitOne K (.ref C_InvalidRow) (.ref C_InvalidNumber) = some false
  ki_InvalidRow_InvalidRow : PySem.W.kitOne K (.ref C_InvalidRow) (.ref C_InvalidRow) = some true
  ki_InvalidGuesser_SoundError : PySem.W.kitOne K (.ref C_InvalidGuesser) (.ref C_SoundError) = some true
  ki_InvalidGuesser_InvalidGuesser : PySem.W.kitOne K (.ref C_InvalidGuesser) (.ref C_InvalidGuesser) = some true
  ki_InvalidGuesser_InvalidDepth : PySem.W.kitOne K (.ref C_InvalidGuesser) (.ref C_InvalidDepth) = some false
  ki_InvalidGuesser_InvalidWidth : PySem.W.kitOne K (.ref C_InvalidGuesser) (.ref C_InvalidWidth) = some false
  ki_InvalidGuesser_InvalidNumber : PySem.W.kitOne K (.ref C_InvalidGuesser) (.ref C_InvalidNumber) = some false
  ki_InvalidGuesser_InvalidRow : PySem.W.kitOne K (.ref C_InvalidGuesser) (.ref C_InvalidRow) = some false
  ki_InvalidWidth_SoundError : PySem.W.kitOne K (.ref C_InvalidWidth) (.ref C_SoundError) = some true
  ki_InvalidWidth_InvalidGuesser : PySem.W.kitOne K (.ref C_InvalidWidth) (.ref C_InvalidGuesser) = some false
  ki_InvalidWidth_InvalidDepth : PySem.W.kitOne K (.ref C_InvalidWidth) (.ref C_InvalidDepth) = some false
  ki_InvalidWidth_InvalidWidth : PySem.W.kitOne K (.ref C_InvalidWidth) (.ref C_InvalidWidth) = some true
  ki_InvalidWidth_InvalidNumber : PySem.W.kitOne K (.ref C_InvalidWidth) (.ref C_InvalidNumber) = some false
  ki_InvalidWidth_InvalidRow : PySem.W.kitOne K (.ref C_InvalidWidth) (.ref C_InvalidRow) = some false
  kn_InvalidGuesser : PySem.W.kitOne K (.type "NoneType") (.ref C_InvalidGuesser) = some false
  kn_InvalidDepth : PySem.W.kitOne K (.type "NoneType") (.ref C_InvalidDepth) = some false
  kn_InvalidWidth : PySem.W.kitOne K (.type "NoneType") (.ref C_InvalidWidth) = some false
  kn_InvalidNumber : PySem.W.kitOne K (.type "NoneType") (.ref C_InvalidNumber) = some false
  kn_InvalidRow : PySem.W.kitOne K (.type "NoneType") (.ref C_InvalidRow) = some false
  ei_InvalidNumber : ExcI K C_InvalidNumber
  ei_InvalidDepth : ExcI K C_InvalidDepth
  ei_InvalidRow : ExcI K C_InvalidRow
  ei_InvalidGuesser : ExcI K C_InvalidGuesser
  ei_InvalidWidth : ExcI K C_InvalidWidth
  n_len : mg "len" = none
  n_sum : mg "sum" = none
  n_max : mg "max" = none
  n_min : mg "min" = none
  n_int : mg "int" = none
  n_bool : mg "bool" = none
  n_list : mg "list" = none
  n_range : mg "range" = none
  n_isinstance : mg "isinstance" = none
  n_abs : mg "abs" = none
  n_enumerate : mg "enumerate" = none
  n_repr : mg "repr" = none
  n_super : mg "super" = none
  t_MOST_DEPTH_kinds : Tok
  m_MOST_DEPTH_kinds : mg "MOST_DEPTH_kinds" = some (.int 24 t_MOST_DEPTH_kinds)
  t_MOST_ORDER : Tok
  m_MOST_ORDER : mg "MOST_ORDER" = some (.int 8 t_MOST_ORDER)
  t_MOST_WEIGHT : Tok
  m_MOST_WEIGHT : mg "MOST_WEIGHT" = some (.int 32768 t_MOST_WEIGHT)
  t_MOST_SHIFT : Tok
  m_MOST_SHIFT : mg "MOST_SHIFT" = some (.int 15 t_MOST_SHIFT)
  t_MOST_DEPTH_guessers : Tok
  m_MOST_DEPTH_guessers : mg "MOST_DEPTH_guessers" = some (.int 32 t_MOST_DEPTH_guessers)
  t_MOST_MANY : Tok
  m_MOST_MANY : mg "MOST_MANY" = some (.int 200 t_MOST_MANY)
  t_MOST_FAIR : Tok
  m_MOST_FAIR : mg "MOST_FAIR" = some (.int 10 t_MOST_FAIR)
def d_is_whole : He.DefD := ⟨("is_whole", none), "is_whole", "is_whole", defArgs s_is_whole, defBody s_is_whole, defScope s_is_whole, [], []⟩
def d_is_between : He.DefD := ⟨("is_between", none), "is_between", "is_between", defArgs s_is_between, defBody s_is_between, defScope s_is_between, [], []⟩
def d_common_divisor : He.DefD := ⟨("common_divisor", none), "common_divisor", "common_divisor", defArgs s_common_divisor, defBody s_common_divisor, defScope s_common_divisor, [], []⟩
def d_fraction : He.DefD := ⟨("fraction", none), "fraction", "fraction", defArgs s_fraction, defBody s_fraction, defScope s_fraction, [], []⟩
def d_check_depth : He.DefD := ⟨("check_depth", none), "check_depth", "check_depth", defArgs s_check_depth, defBody s_check_depth, defScope s_check_depth, [.int 24], []⟩
def d_check_number : He.DefD := ⟨("check_number", none), "check_number", "check_number", defArgs s_check_number, defBody s_check_number, defScope s_check_number, [], []⟩
def d_is_sample : He.DefD := ⟨("is_sample", none), "is_sample", "is_sample", defArgs s_is_sample, defBody s_is_sample, defScope s_is_sample, [], []⟩
def d_are_samples : He.DefD := ⟨("are_samples", none), "are_samples", "are_samples", defArgs s_are_samples, defBody s_are_samples, defScope s_are_samples, [], []⟩
def d_wrapped : He.DefD := ⟨("wrapped", none), "wrapped", "wrapped", defArgs s_wrapped, defBody s_wrapped, defScope s_wrapped, [], []⟩
def d_folded : He.DefD := ⟨("folded", none), "folded", "folded", defArgs s_folded, defBody s_folded, defScope s_folded, [], []⟩
def d_unfolded : He.DefD := ⟨("unfolded", none), "unfolded", "unfolded", defArgs s_unfolded, defBody s_unfolded, defScope s_unfolded, [], []⟩
def d_check_guesser : He.DefD := ⟨("check_guesser", none), "check_guesser", "check_guesser", defArgs s_check_guesser, defBody s_check_guesser, defScope s_check_guesser, [], []⟩
def d_check_row : He.DefD := ⟨("check_row", none), "check_row", "check_row", defArgs s_check_row, defBody s_check_row, defScope s_check_row, [], []⟩
def d_sum_before : He.DefD := ⟨("sum_before", none), "sum_before", "sum_before", defArgs s_sum_before, defBody s_sum_before, defScope s_sum_before, [], []⟩
def d_guess_behind : He.DefD := ⟨("guess_behind", none), "guess_behind", "guess_behind", defArgs s_guess_behind, defBody s_guess_behind, defScope s_guess_behind, [], []⟩
def d_told_rests : He.DefD := ⟨("told_rests", none), "told_rests", "told_rests", defArgs s_told_rests, defBody s_told_rests, defScope s_told_rests, [], []⟩
def d_rests : He.DefD := ⟨("rests", none), "rests", "rests", defArgs s_rests, defBody s_rests, defScope s_rests, [], []⟩
def d_row_of : He.DefD := ⟨("row_of", none), "row_of", "row_of", defArgs s_row_of, defBody s_row_of, defScope s_row_of, [], []⟩
def d_check_width : He.DefD := ⟨("check_width", none), "check_width", "check_width", defArgs s_check_width, defBody s_check_width, defScope s_check_width, [], []⟩
def d_chosen : He.DefD := ⟨("chosen", none), "chosen", "chosen", defArgs s_chosen, defBody s_chosen, defScope s_chosen, [], []⟩
def d_sums_below : He.DefD := ⟨("sums_below", none), "sums_below", "sums_below", defArgs s_sums_below, defBody s_sums_below, defScope s_sums_below, [], []⟩
def d_how_many : He.DefD := ⟨("how_many", none), "how_many", "how_many", defArgs s_how_many, defBody s_how_many, defScope s_how_many, [], []⟩
def d_size_bounds : He.DefD := ⟨("size_bounds", none), "size_bounds", "size_bounds", defArgs s_size_bounds, defBody s_size_bounds, defScope s_size_bounds, [], []⟩
def d_tables : He.DefD := ⟨("tables", none), "tables", "tables", defArgs s_tables, defBody s_tables, defScope s_tables, [], []⟩
def d_row_at : He.DefD := ⟨("row_at", none), "row_at", "row_at", defArgs s_row_at, defBody s_row_at, defScope s_row_at, [], []⟩
def d_how_many_checked : He.DefD := ⟨("how_many_checked", none), "how_many_checked", "how_many_checked", defArgs s_how_many_checked, defBody s_how_many_checked, defScope s_how_many_checked, [], []⟩
def d_number_of : He.DefD := ⟨("number_of", none), "number_of", "number_of", defArgs s_number_of, defBody s_number_of, defScope s_number_of, [], []⟩
def d_fair : He.DefD := ⟨("fair", none), "fair", "fair", defArgs s_fair, defBody s_fair, defScope s_fair, [], []⟩
def d_twice_mean : He.DefD := ⟨("twice_mean", none), "twice_mean", "twice_mean", defArgs s_twice_mean, defBody s_twice_mean, defScope s_twice_mean, [], []⟩
def d_mean : He.DefD := ⟨("mean", none), "mean", "mean", defArgs s_mean, defBody s_mean, defScope s_mean, [], []⟩
def d_least_means : He.DefD := ⟨("least_means", none), "least_means", "least_means", defArgs s_least_means, defBody s_least_means, defScope s_least_means, [], []⟩
def d_gap : He.DefD := ⟨("gap", none), "gap", "gap", defArgs s_gap, defBody s_gap, defScope s_gap, [], []⟩
def d_law_cell : He.DefD := ⟨("_law_cell", none), "_law_cell", "_law_cell", defArgs s_law_cell, defBody s_law_cell, defScope s_law_cell, [], []⟩
def d_law_hash : He.DefD := ⟨("_law_hash", none), "_law_hash", "_law_hash", defArgs s_law_hash, defBody s_law_hash, defScope s_law_hash, [], []⟩
def d_law_generator : He.DefD := ⟨("_law_generator", none), "_law_generator", "_law_generator", defArgs s_law_generator, defBody s_law_generator, defScope s_law_generator, [], []⟩
def d_law_random : He.DefD := ⟨("_law_random", none), "_law_random", "_law_random", defArgs s_law_random, defBody s_law_random, defScope s_law_random, [], []⟩
def d_law_weights : He.DefD := ⟨("_law_weights", none), "_law_weights", "_law_weights", defArgs s_law_weights, defBody s_law_weights, defScope s_law_weights, [], []⟩
def d_law_asked : He.DefD := ⟨("_law_asked", none), "_law_asked", "_law_asked", defArgs s_law_asked, defBody s_law_asked, defScope s_law_asked, [], []⟩
def d_law_caught : He.DefD := ⟨("_law_caught", none), "_law_caught", "_law_caught", defArgs s_law_caught, defBody s_law_caught, defScope s_law_caught, [], []⟩
def d_law_all_refused : He.DefD := ⟨("_law_all_refused", none), "_law_all_refused", "_law_all_refused", defArgs s_law_all_refused, defBody s_law_all_refused, defScope s_law_all_refused, [], []⟩
def d_law_depths_right : He.DefD := ⟨("_law_depths_right", none), "_law_depths_right", "_law_depths_right", defArgs s_law_depths_right, defBody s_law_depths_right, defScope s_law_depths_right, [], []⟩
def d_law_widths_right : He.DefD := ⟨("_law_widths_right", none), "_law_widths_right", "_law_widths_right", defArgs s_law_widths_right, defBody s_law_widths_right, defScope s_law_widths_right, [], []⟩
def d_law : He.DefD := ⟨("law", none), "law", "law", defArgs s_law, defBody s_law, defScope s_law, [], []⟩
def d_Guesser___init__ : He.DefD := ⟨("Guesser", some "__init__"), "__init__", "Guesser.__init__", defArgs s_Guesser___init__, defBody s_Guesser___init__, defScope s_Guesser___init__, [], []⟩
def fn : List He.DefD := [d_is_whole, d_is_between, d_common_divisor, d_fraction, d_check_depth, d_check_number, d_is_sample, d_are_samples, d_wrapped, d_folded, d_unfolded, d_check_guesser, d_check_row, d_sum_before, d_guess_behind, d_told_rests, d_rests, d_row_of, d_check_width, d_chosen, d_sums_below, d_how_many, d_size_bounds, d_tables, d_row_at, d_how_many_checked, d_number_of, d_fair, d_twice_mean, d_mean, d_least_means, d_gap, d_law_cell, d_law_hash, d_law_generator, d_law_random, d_law_weights, d_law_asked, d_law_caught, d_law_all_refused, d_law_depths_right, d_law_widths_right, d_law, d_Guesser___init__]
def fa0 : List He.Fa := [.glo "is_whole", .glo "is_between", .glo "common_divisor", .glo "fraction", .glo "check_depth", .glo "check_number", .glo "is_sample", .glo "are_samples", .glo "wrapped", .glo "folded", .glo "unfolded", .glo "check_guesser", .glo "check_row", .glo "sum_before", .glo "guess_behind", .glo "told_rests", .glo "rests", .glo "row_of", .glo "check_width", .glo "chosen", .glo "sums_below", .glo "how_many", .glo "size_bounds", .glo "tables", .glo "row_at", .glo "how_many_checked", .glo "number_of", .glo "fair", .glo "twice_mean", .glo "mean"]
def fa1 : List He.Fa := [.glo "least_means", .glo "gap", .glo "_law_cell", .glo "_law_hash", .glo "_law_generator", .glo "_law_random", .glo "_law_weights", .glo "_law_asked", .glo "_law_caught", .glo "_law_all_refused", .glo "_law_depths_right", .glo "_law_widths_right", .glo "law", .free "len", .free "sum", .free "max", .free "min", .free "int", .free "bool", .free "list", .free "range", .free "isinstance", .free "abs", .free "enumerate", .free "repr", .free "super", .int "MOST_DEPTH_kinds" 24, .int "MOST_ORDER" 8, .int "MOST_WEIGHT" 32768, .int "MOST_SHIFT" 15]
def fa2 : List He.Fa := [.int "MOST_DEPTH_guessers" 32, .int "MOST_MANY" 200, .int "MOST_FAIR" 10, .glo "Guesser", .cls "Guesser", .noat "Guesser" "parts", .noat "Guesser" "down", .mkr "Guesser", .meth "Guesser" "__init__", .glo "InvalidNumber", .glo "InvalidDepth", .glo "InvalidRow", .glo "InvalidGuesser", .glo "InvalidWidth", .glo "SoundError"]
def fa : List He.Fa := fa0 ++ fa1 ++ fa2
/-- isinstance of an own class -/
def insB (K : PySem.W.Frag) (x : Str) : Bool := decide (PySem.W.findIn K (.ref (He.ga K x)) "__class__" = some (some (.builtin "object.__class__"))) && (decide (PySem.W.specialIn K (.builtin "object.__class__") "__get__" = some (some (.builtin "getset_descriptor.__get__"))) && (decide (PySem.W.takesIn K (.builtin "object.__class__") = some true) && (decide (PySem.W.mroIn K (He.ga K x) (.type "object") = some true) && (decide (PySem.W.kitOne K (.ref (He.ga K x)) (.ref (He.ga K x)) = some true) && notTys.all fun T => decide (PySem.W.kitOne K (.type T) (.ref (He.ga K x)) = some false)))))
theorem insB_ok {K : PySem.W.Frag} {x : Str} (cl : Cls K (He.ga K x)) (h : insB K x = true) : C8.InsC K (He.ga K x) := by
  unfold insB at h
  simp only [Bool.and_eq_true, decide_eq_true_eq] at h
  exact ⟨cl, h.1, h.2.1, h.2.2.1, h.2.2.2.1, h.2.2.2.2.1⟩
theorem insN_ok {K : PySem.W.Frag} {x : Str} (h : insB K x = true) : ∀ T ∈ notTys, PySem.W.kitOne K (.type T) (.ref (He.ga K x)) = some false := by
  intro T hT
  unfold insB at h
  simp only [Bool.and_eq_true] at h
  exact of_decide_eq_true (List.all_eq_true.mp h.2.2.2.2.2 T hT)
def eqB (K : PySem.W.Frag) (x : Str) : Bool := decide (PySem.W.findIn K (.ref (He.ga K x)) "__ne__" = some (some (.builtin "object.__ne__"))) && (decide (PySem.W.subIn K (.ref (He.ga K x)) (.type "object") = some true) && (decide (PySem.W.subIn K (.type "list") (.ref (He.ga K x)) = some false) && (decide (PySem.W.kitOne K (.type "list") (.ref (He.ga K x)) = some false) && (decide (PySem.W.subIn K (.type "tuple") (.ref (He.ga K x)) = some false) && decide (PySem.W.kitOne K (.type "tuple") (.ref (He.ga K x)) = some false)))))
def eqs : List Str := []
def own : List Str := ["Guesser"]
def ex (K : PySem.W.Frag) : Bool := (own.all fun x => insB K x) && eqs.all fun x => eqB K x
abbrev R : PySem.W.OpenRow := PySem.W.OpenLaw.row PySem.Challenge.rw_wholesound_k53_counts_refused
def errs : List Str := ["InvalidNumber", "InvalidDepth", "InvalidRow", "InvalidGuesser", "InvalidWidth"]
def ems : List (Str × Str × Bool) := [("InvalidNumber", "SoundError", true), ("InvalidNumber", "InvalidGuesser", false), ("InvalidNumber", "InvalidDepth", false), ("InvalidNumber", "InvalidWidth", false), ("InvalidNumber", "InvalidNumber", true), ("InvalidNumber", "InvalidRow", false), ("InvalidDepth", "SoundError", true), ("InvalidDepth", "InvalidGuesser", false), ("InvalidDepth", "InvalidDepth", true), ("InvalidDepth", "InvalidWidth", false), ("InvalidDepth", "InvalidNumber", false), ("InvalidDepth", "InvalidRow", false), ("InvalidRow", "SoundError", true), ("InvalidRow", "InvalidGuesser", false), ("InvalidRow", "InvalidDepth", false), ("InvalidRow", "InvalidWidth", false), ("InvalidRow", "InvalidNumber", false), ("InvalidRow", "InvalidRow", true), ("InvalidGuesser", "SoundError", true), ("InvalidGuesser", "InvalidGuesser", true), ("InvalidGuesser", "InvalidDepth", false), ("InvalidGuesser", "InvalidWidth", false), ("InvalidGuesser", "InvalidNumber", false), ("InvalidGuesser", "InvalidRow", false), ("InvalidWidth", "SoundError", true), ("InvalidWidth", "InvalidGuesser", false), ("InvalidWidth", "InvalidDepth", false), ("InvalidWidth", "InvalidWidth", true), ("InvalidWidth", "InvalidNumber", false), ("InvalidWidth", "InvalidRow", false)]
def emB (K : PySem.W.Frag) (z : Str × Str × Bool) : Bool := decide (PySem.W.exmOne K (.ref (He.ga K z.1)) (.ref (He.ga K z.2.1)) = some z.2.2) && (decide (PySem.W.kitOne K (.ref (He.ga K z.1)) (.ref (He.ga K z.2.1)) = some z.2.2) && (decide (PySem.W.kitOne K (.type "NoneType") (.ref (He.ga K z.2.1)) = some false) && (decide (PySem.W.findIn K (.ref (He.ga K z.1)) "__class__" = some (some (.builtin "object.__class__"))) && (decide (PySem.W.specialIn K (.builtin "object.__class__") "__get__" = some (some (.builtin "getset_descriptor.__get__"))) && (decide (PySem.W.takesIn K (.builtin "object.__class__") = some true) && (decide (PySem.W.mroIn K (He.ga K z.1) (.type "object") = some true)))))))
theorem emB_ok {K : PySem.W.Frag} {z : Str × Str × Bool} (h : emB K z = true) : PySem.W.exmOne K (.ref (He.ga K z.1)) (.ref (He.ga K z.2.1)) = some z.2.2 ∧ PySem.W.kitOne K (.ref (He.ga K z.1)) (.ref (He.ga K z.2.1)) = some z.2.2 ∧ PySem.W.kitOne K (.type "NoneType") (.ref (He.ga K z.2.1)) = some false ∧ PySem.W.findIn K (.ref (He.ga K z.1)) "__class__" = some (some (.builtin "object.__class__")) ∧ PySem.W.specialIn K (.builtin "object.__class__") "__get__" = some (some (.builtin "getset_descriptor.__get__")) ∧ PySem.W.takesIn K (.builtin "object.__class__") = some true ∧ PySem.W.mroIn K (He.ga K z.1) (.type "object") = some true := by
  unfold emB at h
  simp only [Bool.and_eq_true, decide_eq_true_eq] at h
  exact h
def erV : List ErW := [some (("__init__" : Str), ("InvalidNumber" : Str) ++ (".__init__" : Str), defArgs s_InvalidNumber___init__, FuncBody.stmts (defBody s_InvalidNumber___init__), defScope s_InvalidNumber___init__, mainGlobals, builtinsNs), some (("__init__" : Str), ("InvalidDepth" : Str) ++ (".__init__" : Str), defArgs s_InvalidDepth___init__, FuncBody.stmts (defBody s_InvalidDepth___init__), defScope s_InvalidDepth___init__, mainGlobals, builtinsNs), some (("__init__" : Str), ("InvalidRow" : Str) ++ (".__init__" : Str), defArgs s_InvalidRow___init__, FuncBody.stmts (defBody s_InvalidRow___init__), defScope s_InvalidRow___init__, mainGlobals, builtinsNs), some (("__init__" : Str), ("InvalidGuesser" : Str) ++ (".__init__" : Str), defArgs s_InvalidGuesser___init__, FuncBody.stmts (defBody s_InvalidGuesser___init__), defScope s_InvalidGuesser___init__, mainGlobals, builtinsNs), some (("__init__" : Str), ("InvalidWidth" : Str) ++ (".__init__" : Str), defArgs s_InvalidWidth___init__, FuncBody.stmts (defBody s_InvalidWidth___init__), defScope s_InvalidWidth___init__, mainGlobals, builtinsNs)]
def exP (K : PySem.W.Frag) : Bool := ex K && ((errs.all fun z => errB K fileS z) && ems.all fun z => emB K z)
def exW (K : PySem.W.Frag) : List ErW := errs.map fun z => erW K z
abbrev Al : Type := He.AlD × Bool × List ErW
def frK (g : Addr → Option Obj) : PySem.W.Frag := He.frG g (cStatics :: He.asD g 5)
def obsG (g : Addr → Option Obj) : Al := (He.obsD fa fn (frK g), exP (frK g), exW (frK g))
def Says (K : PySem.W.Frag) : Prop := He.SaysD fa fn K ∧ ex K = true ∧ (∀ z ∈ errs, errB K fileS z = true) ∧ (∀ z ∈ ems, emB K z = true) ∧ exW K = erV
theorem says_of {K : PySem.W.Frag} (e : (He.obsD fa fn K, exP K, exW K) = ((He.valD fn, true, erV) : Al)) : Says K := by
  have e1 := congrArg Prod.fst e
  have e2 := congrArg (fun z : Al => z.2.1) e
  have e3 := congrArg (fun z : Al => z.2.2) e
  have e4 : ex K = true ∧ ((errs.all fun z => errB K fileS z) && ems.all fun z => emB K z) = true := Bool.and_eq_true_iff.mp (show (ex K && ((errs.all fun z => errB K fileS z) && ems.all fun z => emB K z)) = true from e2)
  have e5 : (errs.all fun z => errB K fileS z) = true ∧ (ems.all fun z => emB K z) = true := Bool.and_eq_true_iff.mp e4.2
  exact ⟨e1, e4.1, List.all_eq_true.mp e5.1, List.all_eq_true.mp e5.2, e3⟩
theorem erV_at {K : PySem.W.Frag} {ps : List Str} {vs : List ErW} (e : (ps.map fun z => erW K z) = vs) (i : Nat) {z : Str} {v : ErW} (hz : ps[i]? = some z) (hv : vs[i]? = some v) : erW K z = v := by
  rw [← e, List.getElem?_map, hz] at hv
  exact Option.some.inj hv
def hk : PySem.W.Hook where
  α := Al
  obs := fun s => obsG s.heap.get?
  val := fun _ => (He.valD fn, true, erV)
  says := fun _ h => ∃ K : PySem.W.Frag, K.In h ∧ Says K
  of := fun _ _ e => ⟨_, He.frG_in, says_of e⟩
  keeps := fun _ _ _ ⟨K, hK, c⟩ k => ⟨K, PySem.W.Frag.In.keeps hK k, c⟩
def ob (s : PySem.W.SharedT) : Al := obsG (HandSHeadRun.getT s)
theorem ob_eq (s : PySem.W.SharedT) : ob s = hk.obs s.abs := by
  have e : HandSHeadRun.getT s = s.abs.heap.get? := funext (HandSHeadRun.getT_eq s)
  show obsG (HandSHeadRun.getT s) = obsG s.abs.heap.get?
  rw [e]
def loose0 : List PySem.Str := ["_wall", "SoundError", "InvalidNumber", "InvalidDepth", "InvalidList", "InvalidItem", "InvalidRow", "InvalidGuesser", "InvalidWidth", "MOST_DEPTH_kinds", "is_whole", "is_between", "common_divisor", "fraction", "check_depth", "check_number", "is_sample", "are_samples", "wrapped", "folded", "unfolded", "MOST_ORDER", "MOST_WEIGHT", "MOST_SHIFT", "MOST_DEPTH_guessers", "Guesser", "check_guesser", "check_row", "sum_before", "guess_behind"]
def loose1 : List PySem.Str := ["told_rests", "rests", "row_of", "MOST_MANY", "MOST_FAIR", "check_width", "chosen", "sums_below", "how_many", "size_bounds", "tables", "row_at", "how_many_checked", "number_of", "fair", "twice_mean", "mean", "least_means", "gap", "_law_cell", "_law_hash", "_law_generator", "_law_random", "_law_weights", "_law_asked", "_law_caught", "_law_all_refused", "_law_depths_right", "_law_widths_right"]
abbrev loose : List PySem.Str := loose0 ++ loose1
theorem run (w : World) : HandSHeadRun.RunEq R (PySem.W.view R.prog [65]) hk ob 8000 loose w := by
  intro os
  kernel_rfl
noncomputable def top_mk {K : PySem.W.Frag} {h : Heap} {mg : Str → Option Value} (X : K.In h) (G : h.Ns mainGlobals mg) (c : Says K) : Top K mg :=
  let p0 := c.1.def_ 0 (d := d_is_whole) rfl
  let p1 := c.1.def_ 1 (d := d_is_between) rfl
  let p2 := c.1.def_ 2 (d := d_common_divisor) rfl
  let p3 := c.1.def_ 3 (d := d_fraction) rfl
  let p4 := c.1.def_ 4 (d := d_check_depth) rfl
  let p5 := c.1.def_ 5 (d := d_check_number) rfl
  let p6 := c.1.def_ 6 (d := d_is_sample) rfl
  let p7 := c.1.def_ 7 (d := d_are_samples) rfl
  let p8 := c.1.def_ 8 (d := d_wrapped) rfl
  let p9 := c.1.def_ 9 (d := d_folded) rfl
  let p10 := c.1.def_ 10 (d := d_unfolded) rfl
  let p11 := c.1.def_ 11 (d := d_check_guesser) rfl
  let p12 := c.1.def_ 12 (d := d_check_row) rfl
  let p13 := c.1.def_ 13 (d := d_sum_before) rfl
  let p14 := c.1.def_ 14 (d := d_guess_behind) rfl
  let p15 := c.1.def_ 15 (d := d_told_rests) rfl
  let p16 := c.1.def_ 16 (d := d_rests) rfl
  let p17 := c.1.def_ 17 (d := d_row_of) rfl
  let p18 := c.1.def_ 18 (d := d_check_width) rfl
  let p19 := c.1.def_ 19 (d := d_chosen) rfl
  let p20 := c.1.def_ 20 (d := d_sums_below) rfl
  let p21 := c.1.def_ 21 (d := d_how_many) rfl
  let p22 := c.1.def_ 22 (d := d_size_bounds) rfl
  let p23 := c.1.def_ 23 (d := d_tables) rfl
  let p24 := c.1.def_ 24 (d := d_row_at) rfl
  let p25 := c.1.def_ 25 (d := d_how_many_checked) rfl
  let p26 := c.1.def_ 26 (d := d_number_of) rfl
  let p27 := c.1.def_ 27 (d := d_fair) rfl
  let p28 := c.1.def_ 28 (d := d_twice_mean) rfl
  let p29 := c.1.def_ 29 (d := d_mean) rfl
  let p30 := c.1.def_ 30 (d := d_least_means) rfl
  let p31 := c.1.def_ 31 (d := d_gap) rfl
  let p32 := c.1.def_ 32 (d := d_law_cell) rfl
  let p33 := c.1.def_ 33 (d := d_law_hash) rfl
  let p34 := c.1.def_ 34 (d := d_law_generator) rfl
  let p35 := c.1.def_ 35 (d := d_law_random) rfl
  let p36 := c.1.def_ 36 (d := d_law_weights) rfl
  let p37 := c.1.def_ 37 (d := d_law_asked) rfl
  let p38 := c.1.def_ 38 (d := d_law_caught) rfl
  let p39 := c.1.def_ 39 (d := d_law_all_refused) rfl
  let p40 := c.1.def_ 40 (d := d_law_depths_right) rfl
  let p41 := c.1.def_ 41 (d := d_law_widths_right) rfl
  let p42 := c.1.def_ 42 (d := d_law) rfl
  let p43 := c.1.def_ 43 (d := d_Guesser___init__) rfl
  let q0 := He.int_ok X G (c.1.fact 56 (f := .int "MOST_DEPTH_kinds" 24) rfl)
  let q1 := He.int_ok X G (c.1.fact 57 (f := .int "MOST_ORDER" 8) rfl)
  let q2 := He.int_ok X G (c.1.fact 58 (f := .int "MOST_WEIGHT" 32768) rfl)
  let q3 := He.int_ok X G (c.1.fact 59 (f := .int "MOST_SHIFT" 15) rfl)
  let q4 := He.int_ok X G (c.1.fact 60 (f := .int "MOST_DEPTH_guessers" 32) rfl)
  let q5 := He.int_ok X G (c.1.fact 61 (f := .int "MOST_MANY" 200) rfl)
  let q6 := He.int_ok X G (c.1.fact 62 (f := .int "MOST_FAIR" 10) rfl)
  let er0 := err_ok (K := K) (file := fileS) (x := "InvalidNumber") (st := s_InvalidNumber___init__) (c.2.2.1 "InvalidNumber" (by decide +kernel)) (erV_at c.2.2.2.2 0 (z := "InvalidNumber") rfl rfl) (fun _ _ _ _ _ _ _ _ us its h1 h2 => match us, its, h1, h2 with | [_, _], [_], _, _ => ⟨_, rfl, rfl⟩)
  let er1 := err_ok (K := K) (file := fileS) (x := "InvalidDepth") (st := s_InvalidDepth___init__) (c.2.2.1 "InvalidDepth" (by decide +kernel)) (erV_at c.2.2.2.2 1 (z := "InvalidDepth") rfl rfl) (fun _ _ _ _ _ _ _ _ us its h1 h2 => match us, its, h1, h2 with | [_, _], [_], _, _ => ⟨_, rfl, rfl⟩)
  let er2 := err_ok (K := K) (file := fileS) (x := "InvalidRow") (st := s_InvalidRow___init__) (c.2.2.1 "InvalidRow" (by decide +kernel)) (erV_at c.2.2.2.2 2 (z := "InvalidRow") rfl rfl) (fun _ _ _ _ _ _ _ _ us its h1 h2 => match us, its, h1, h2 with | [_, _], [_], _, _ => ⟨_, rfl, rfl⟩)
  let er3 := err_ok (K := K) (file := fileS) (x := "InvalidGuesser") (st := s_InvalidGuesser___init__) (c.2.2.1 "InvalidGuesser" (by decide +kernel)) (erV_at c.2.2.2.2 3 (z := "InvalidGuesser") rfl rfl) (fun _ _ _ _ _ _ _ _ us its h1 h2 => match us, its, h1, h2 with | [_, _], [_], _, _ => ⟨_, rfl, rfl⟩)
  let er4 := err_ok (K := K) (file := fileS) (x := "InvalidWidth") (st := s_InvalidWidth___init__) (c.2.2.1 "InvalidWidth" (by decide +kernel)) (erV_at c.2.2.2.2 4 (z := "InvalidWidth") rfl rfl) (fun _ _ _ _ _ _ _ _ us its h1 h2 => match us, its, h1, h2 with | [_, _], [_], _, _ => ⟨_, rfl, rfl⟩)
  { C_InvalidNumber := _, gc_InvalidNumber := He.glo_ok X G (c.1.fact 69 (f := .glo "InvalidNumber") rfl), fi_InvalidNumber := _, fd_InvalidNumber := er0.choose, er_InvalidNumber := er0.choose_spec,
    C_InvalidDepth := _, gc_InvalidDepth := He.glo_ok X G (c.1.fact 70 (f := .glo "InvalidDepth") rfl), fi_InvalidDepth := _, fd_InvalidDepth := er1.choose, er_InvalidDepth := er1.choose_spec,
    C_InvalidRow := _, gc_InvalidRow := He.glo_ok X G (c.1.fact 71 (f := .glo "InvalidRow") rfl), fi_InvalidRow := _, fd_InvalidRow := er2.choose, er_InvalidRow := er2.choose_spec,
    C_InvalidGuesser := _, gc_InvalidGuesser := He.glo_ok X G (c.1.fact 72 (f := .glo "InvalidGuesser") rfl), fi_InvalidGuesser := _, fd_InvalidGuesser := er3.choose, er_InvalidGuesser := er3.choose_spec,
    C_InvalidWidth := _, gc_InvalidWidth := He.glo_ok X G (c.1.fact 73 (f := .glo "InvalidWidth") rfl), fi_InvalidWidth := _, fd_InvalidWidth := er4.choose, er_InvalidWidth := er4.choose_spec,
    C_SoundError := _, gc_SoundError := He.glo_ok X G (c.1.fact 74 (f := .glo "SoundError") rfl),
    em_InvalidNumber_SoundError := (emB_ok (c.2.2.2.1 ("InvalidNumber", "SoundError", true) (by decide +kernel))).1, ki_InvalidNumber_SoundError := (emB_ok (c.2.2.2.1 ("InvalidNumber", "SoundError", true) (by decide +kernel))).2.1,
    em_InvalidNumber_InvalidGuesser := (emB_ok (c.2.2.2.1 ("InvalidNumber", "InvalidGuesser", false) (by decide +kernel))).1, ki_InvalidNumber_InvalidGuesser := (emB_ok (c.2.2.2.1 ("InvalidNumber", "InvalidGuesser", false) (by decide +kernel))).2.1,
    em_InvalidNumber_InvalidDepth := (emB_ok (c.2.2.2.1 ("InvalidNumber", "InvalidDepth", false) (by decide +kernel))).1, ki_InvalidNumber_InvalidDepth := (emB_ok (c.2.2.2.1 ("InvalidNumber", "InvalidDepth", false) (by decide +kernel))).2.1,
    em_InvalidNumber_InvalidWidth := (emB_ok (c.2.2.2.1 ("InvalidNumber", "InvalidWidth", false) (by decide +kernel))).1, ki_InvalidNumber_InvalidWidth := (emB_ok (c.2.2.2.1 ("InvalidNumber", "InvalidWidth", false) (by decide +kernel))).2.1,
    em_InvalidNumber_InvalidNumber := (emB_ok (c.2.2.2.1 ("InvalidNumber", "InvalidNumber", true) (by decide +kernel))).1, ki_InvalidNumber_InvalidNumber := (emB_ok (c.2.2.2.1 ("InvalidNumber", "InvalidNumber", true) (by decide +kernel))).2.1,
    em_InvalidNumber_InvalidRow := (emB_ok (c.2.2.2.1 ("InvalidNumber", "InvalidRow", false) (by decide +kernel))).1, ki_InvalidNumber_InvalidRow := (emB_ok (c.2.2.2.1 ("InvalidNumber", "InvalidRow", false) (by decide +kernel))).2.1,
    em_InvalidDepth_SoundError := (emB_ok (c.2.2.2.1 ("InvalidDepth", "SoundError", true) (by decide +kernel))).1, ki_InvalidDepth_SoundError := (emB_ok (c.2.2.2.1 ("InvalidDepth", "SoundError", true) (by decide +kernel))).2.1,
    em_InvalidDepth_InvalidGuesser := (emB_ok (c.2.2.2.1 ("InvalidDepth", "InvalidGuesser", false) (by decide +kernel))).1, ki_InvalidDepth_InvalidGuesser := (emB_ok (c.2.2.2.1 ("InvalidDepth", "InvalidGuesser", false) (by decide +kernel))).2.1,
    em_InvalidDepth_InvalidDepth := (emB_ok (c.2.2.2.1 ("InvalidDepth", "InvalidDepth", true) (by decide +kernel))).1, ki_InvalidDepth_InvalidDepth := (emB_ok (c.2.2.2.1 ("InvalidDepth", "InvalidDepth", true) (by decide +kernel))).2.1,
    em_InvalidDepth_InvalidWidth := (emB_ok (c.2.2.2.1 ("InvalidDepth", "InvalidWidth", false) (by decide +kernel))).1, ki_InvalidDepth_InvalidWidth := (emB_ok (c.2.2.2.1 ("InvalidDepth", "InvalidWidth", false) (by decide +kernel))).2.1,
    em_InvalidDepth_InvalidNumber := (emB_ok (c.2.2.2.1 ("InvalidDepth", "InvalidNumber", false) (by decide +kernel))).1, ki_InvalidDepth_InvalidNumber := (emB_ok (c.2.2.2.1 ("InvalidDepth", "InvalidNumber", false) (by decide +kernel))).2.1,
    em_InvalidDepth_InvalidRow := (emB_ok (c.2.2.2.1 ("InvalidDepth", "InvalidRow", false) (by decide +kernel))).1, ki_InvalidDepth_InvalidRow := (emB_ok (c.2.2.2.1 ("InvalidDepth", "InvalidRow", false) (by decide +kernel))).2.1,
    em_InvalidRow_SoundError := (emB_ok (c.2.2.2.1 ("InvalidRow", "SoundError", true) (by decide +kernel))).1, ki_InvalidRow_SoundError := (emB_ok (c.2.2.2.1 ("InvalidRow", "SoundError", true) (by decide +kernel))).2.1,
    em_InvalidRow_InvalidGuesser := (emB_ok (c.2.2.2.1 ("InvalidRow", "InvalidGuesser", false) (by decide +kernel))).1, ki_InvalidRow_InvalidGuesser := (emB_ok (c.2.2.2.1 ("InvalidRow", "InvalidGuesser", false) (by decide +kernel))).2.1,
    em_InvalidRow_InvalidDepth := (emB_ok (c.2.2.2.1 ("InvalidRow", "InvalidDepth", false) (by decide +kernel))).1, ki_InvalidRow_InvalidDepth := (emB_ok (c.2.2.2.1 ("InvalidRow", "InvalidDepth", false) (by decide +kernel))).2.1,
    em_InvalidRow_InvalidWidth := (emB_ok (c.2.2.2.1 ("InvalidRow", "InvalidWidth", false) (by decide +kernel))).1, ki_InvalidRow_InvalidWidth := (emB_ok (c.2.2.2.1 ("InvalidRow", "InvalidWidth", false) (by decide +kernel))).2.1,
    em_InvalidRow_InvalidNumber := (emB_ok (c.2.2.2.1 ("InvalidRow", "InvalidNumber", false) (by decide +kernel))).1, ki_InvalidRow_InvalidNumber := (emB_ok (c.2.2.2.1 ("InvalidRow", "InvalidNumber", false) (by decide +kernel))).2.1,
    em_InvalidRow_InvalidRow := (emB_ok (c.2.2.2.1 ("InvalidRow", "InvalidRow", true) (by decide +kernel))).1, ki_InvalidRow_InvalidRow := (emB_ok (c.2.2.2.1 ("InvalidRow", "InvalidRow", true) (by decide +kernel))).2.1,
    em_InvalidGuesser_SoundError := (emB_ok (c.2.2.2.1 ("InvalidGuesser", "SoundError", true) (by decide +kernel))).1, ki_InvalidGuesser_SoundError := (emB_ok (c.2.2.2.1 ("InvalidGuesser", "SoundError", true) (by decide +kernel))).2.1,
    em_InvalidGuesser_InvalidGuesser := (emB_ok (c.2.2.2.1 ("InvalidGuesser", "InvalidGuesser", true) (by decide +kernel))).1, ki_InvalidGuesser_InvalidGuesser := (emB_ok (c.2.2.2.1 ("InvalidGuesser", "InvalidGuesser", true) (by decide +kernel))).2.1,
    em_InvalidGuesser_InvalidDepth := (emB_ok (c.2.2.2.1 ("InvalidGuesser", "InvalidDepth", false) (by decide +kernel))).1, ki_InvalidGuesser_InvalidDepth := (emB_ok (c.2.2.2.1 ("InvalidGuesser", "InvalidDepth", false) (by decide +kernel))).2.1,
    em_InvalidGuesser_InvalidWidth := (emB_ok (c.2.2.2.1 ("InvalidGuesser", "InvalidWidth", false) (by decide +kernel))).1, ki_InvalidGuesser_InvalidWidth := (emB_ok (c.2.2.2.1 ("InvalidGuesser", "InvalidWidth", false) (by decide +kernel))).2.1,
    em_InvalidGuesser_InvalidNumber := (emB_ok (c.2.2.2.1 ("InvalidGuesser", "InvalidNumber", false) (by decide +kernel))).1, ki_InvalidGuesser_InvalidNumber := (emB_ok (c.2.2.2.1 ("InvalidGuesser", "InvalidNumber", false) (by decide +kernel))).2.1,
    em_InvalidGuesser_InvalidRow := (emB_ok (c.2.2.2.1 ("InvalidGuesser", "InvalidRow", false) (by decide +kernel))).1, ki_InvalidGuesser_InvalidRow := (emB_ok (c.2.2.2.1 ("InvalidGuesser", "InvalidRow", false) (by decide +kernel))).2.1,
    em_InvalidWidth_SoundError := (emB_ok (c.2.2.2.1 ("InvalidWidth", "SoundError", true) (by decide +kernel))).1, ki_InvalidWidth_SoundError := (emB_ok (c.2.2.2.1 ("InvalidWidth", "SoundError", true) (by decide +kernel))).2.1,
    em_InvalidWidth_InvalidGuesser := (emB_ok (c.2.2.2.1 ("InvalidWidth", "InvalidGuesser", false) (by decide +kernel))).1, ki_InvalidWidth_InvalidGuesser := (emB_ok (c.2.2.2.1 ("InvalidWidth", "InvalidGuesser", false) (by decide +kernel))).2.1,
    em_InvalidWidth_InvalidDepth := (emB_ok (c.2.2.2.1 ("InvalidWidth", "InvalidDepth", false) (by decide +kernel))).1, ki_InvalidWidth_InvalidDepth := (emB_ok (c.2.2.2.1 ("InvalidWidth", "InvalidDepth", false) (by decide +kernel))).2.1,
    em_InvalidWidth_InvalidWidth := (emB_ok (c.2.2.2.1 ("InvalidWidth", "InvalidWidth", true) (by decide +kernel))).1, ki_InvalidWidth_InvalidWidth := (emB_ok (c.2.2.2.1 ("InvalidWidth", "InvalidWidth", true) (by decide +kernel))).2.1,
    em_InvalidWidth_InvalidNumber := (emB_ok (c.2.2.2.1 ("InvalidWidth", "InvalidNumber", false) (by decide +kernel))).1, ki_InvalidWidth_InvalidNumber := (emB_ok (c.2.2.2.1 ("InvalidWidth", "InvalidNumber", false) (by decide +kernel))).2.1,
    em_InvalidWidth_InvalidRow := (emB_ok (c.2.2.2.1 ("InvalidWidth", "InvalidRow", false) (by decide +kernel))).1, ki_InvalidWidth_InvalidRow := (emB_ok (c.2.2.2.1 ("InvalidWidth", "InvalidRow", false) (by decide +kernel))).2.1,
    kn_InvalidGuesser := (emB_ok (c.2.2.2.1 ("InvalidNumber", "InvalidGuesser", false) (by decide +kernel))).2.2.1,
    kn_InvalidDepth := (emB_ok (c.2.2.2.1 ("InvalidNumber", "InvalidDepth", false) (by decide +kernel))).2.2.1,
    kn_InvalidWidth := (emB_ok (c.2.2.2.1 ("InvalidNumber", "InvalidWidth", false) (by decide +kernel))).2.2.1,
    kn_InvalidNumber := (emB_ok (c.2.2.2.1 ("InvalidNumber", "InvalidNumber", true) (by decide +kernel))).2.2.1,
    kn_InvalidRow := (emB_ok (c.2.2.2.1 ("InvalidNumber", "InvalidRow", false) (by decide +kernel))).2.2.1,
    ei_InvalidNumber := ⟨(er0.choose_spec).xf, (emB_ok (c.2.2.2.1 ("InvalidNumber", "SoundError", true) (by decide +kernel))).2.2.2.1, (emB_ok (c.2.2.2.1 ("InvalidNumber", "SoundError", true) (by decide +kernel))).2.2.2.2.1, (emB_ok (c.2.2.2.1 ("InvalidNumber", "SoundError", true) (by decide +kernel))).2.2.2.2.2.1, (emB_ok (c.2.2.2.1 ("InvalidNumber", "SoundError", true) (by decide +kernel))).2.2.2.2.2.2⟩,
    ei_InvalidDepth := ⟨(er1.choose_spec).xf, (emB_ok (c.2.2.2.1 ("InvalidDepth", "SoundError", true) (by decide +kernel))).2.2.2.1, (emB_ok (c.2.2.2.1 ("InvalidDepth", "SoundError", true) (by decide +kernel))).2.2.2.2.1, (emB_ok (c.2.2.2.1 ("InvalidDepth", "SoundError", true) (by decide +kernel))).2.2.2.2.2.1, (emB_ok (c.2.2.2.1 ("InvalidDepth", "SoundError", true) (by decide +kernel))).2.2.2.2.2.2⟩,
    ei_InvalidRow := ⟨(er2.choose_spec).xf, (emB_ok (c.2.2.2.1 ("InvalidRow", "SoundError", true) (by decide +kernel))).2.2.2.1, (emB_ok (c.2.2.2.1 ("InvalidRow", "SoundError", true) (by decide +kernel))).2.2.2.2.1, (emB_ok (c.2.2.2.1 ("InvalidRow", "SoundError", true) (by decide +kernel))).2.2.2.2.2.1, (emB_ok (c.2.2.2.1 ("InvalidRow", "SoundError", true) (by decide +kernel))).2.2.2.2.2.2⟩,
    ei_InvalidGuesser := ⟨(er3.choose_spec).xf, (emB_ok (c.2.2.2.1 ("InvalidGuesser", "SoundError", true) (by decide +kernel))).2.2.2.1, (emB_ok (c.2.2.2.1 ("InvalidGuesser", "SoundError", true) (by decide +kernel))).2.2.2.2.1, (emB_ok (c.2.2.2.1 ("InvalidGuesser", "SoundError", true) (by decide +kernel))).2.2.2.2.2.1, (emB_ok (c.2.2.2.1 ("InvalidGuesser", "SoundError", true) (by decide +kernel))).2.2.2.2.2.2⟩,
    ei_InvalidWidth := ⟨(er4.choose_spec).xf, (emB_ok (c.2.2.2.1 ("InvalidWidth", "SoundError", true) (by decide +kernel))).2.2.2.1, (emB_ok (c.2.2.2.1 ("InvalidWidth", "SoundError", true) (by decide +kernel))).2.2.2.2.1, (emB_ok (c.2.2.2.1 ("InvalidWidth", "SoundError", true) (by decide +kernel))).2.2.2.2.2.1, (emB_ok (c.2.2.2.1 ("InvalidWidth", "SoundError", true) (by decide +kernel))).2.2.2.2.2.2⟩,
    C_Guesser := _, gc_Guesser := He.glo_ok X G (c.1.fact 63 (f := .glo "Guesser") rfl), cl_Guesser := He.cls_ok (c.1.fact 64 (f := .cls "Guesser") rfl), ic_Guesser := insB_ok (x := "Guesser") (He.cls_ok (c.1.fact 64 (f := .cls "Guesser") rfl)) (List.all_eq_true.mp (Bool.and_eq_true_iff.mp c.2.1).1 "Guesser" (by decide +kernel)),
    kx_Guesser := insN_ok (x := "Guesser") (List.all_eq_true.mp (Bool.and_eq_true_iff.mp c.2.1).1 "Guesser" (by decide +kernel)),
    na_Guesser_parts := He.noat_ok (c.1.fact 65 (f := .noat "Guesser" "parts") rfl),
    na_Guesser_down := He.noat_ok (c.1.fact 66 (f := .noat "Guesser" "down") rfl),
    f_is_whole := _, fd_is_whole := p0.choose, F_is_whole := p0.choose_spec, b_is_whole := p0.choose_spec.bindsN fun _ _ _ _ _ _ us hl => match us, hl with | [_], _ => rfl, g_is_whole := He.glo_ok X G (c.1.fact 0 (f := .glo "is_whole") rfl),
    f_is_between := _, fd_is_between := p1.choose, F_is_between := p1.choose_spec, b_is_between := p1.choose_spec.bindsN fun _ _ _ _ _ _ us hl => match us, hl with | [_, _, _], _ => rfl, g_is_between := He.glo_ok X G (c.1.fact 1 (f := .glo "is_between") rfl),
    f_common_divisor := _, fd_common_divisor := p2.choose, F_common_divisor := p2.choose_spec, b_common_divisor := p2.choose_spec.bindsN fun _ _ _ _ _ _ us hl => match us, hl with | [_, _], _ => rfl, g_common_divisor := He.glo_ok X G (c.1.fact 2 (f := .glo "common_divisor") rfl),
    f_fraction := _, fd_fraction := p3.choose, F_fraction := p3.choose_spec, b_fraction := p3.choose_spec.bindsN fun _ _ _ _ _ _ us hl => match us, hl with | [_, _], _ => rfl, g_fraction := He.glo_ok X G (c.1.fact 3 (f := .glo "fraction") rfl),
    f_check_depth := _, fd_check_depth := p4.choose, F_check_depth := p4.choose_spec, b_check_depth := nil_binds (p4.choose_spec.binds1 (ps := ["depth", "most"]) 2 1 (by simp [He.DefD.dvs, d_check_depth]) rfl fun _ _ _ _ _ _ _ us its h1 h2 => match us, its, h1, h2 with | [_, _], [_], _, _ => ⟨_, rfl, rfl⟩), e0_check_depth := (p4.choose_spec.binds1 (ps := ["depth", "most"]) 1 0 (by simp [He.DefD.dvs, d_check_depth]) rfl fun _ _ _ _ _ _ _ us its h1 h2 => match us, its, h1, h2 with | [_], [_], _, _ => ⟨_, rfl, rfl⟩).choose, v0_check_depth := (p4.choose_spec.binds1 (ps := ["depth", "most"]) 1 0 (by simp [He.DefD.dvs, d_check_depth]) rfl fun _ _ _ _ _ _ _ us its h1 h2 => match us, its, h1, h2 with | [_], [_], _, _ => ⟨_, rfl, rfl⟩).choose_spec.1, b0_check_depth := (p4.choose_spec.binds1 (ps := ["depth", "most"]) 1 0 (by simp [He.DefD.dvs, d_check_depth]) rfl fun _ _ _ _ _ _ _ us its h1 h2 => match us, its, h1, h2 with | [_], [_], _, _ => ⟨_, rfl, rfl⟩).choose_spec.2, g_check_depth := He.glo_ok X G (c.1.fact 4 (f := .glo "check_depth") rfl),
    f_check_number := _, fd_check_number := p5.choose, F_check_number := p5.choose_spec, b_check_number := p5.choose_spec.bindsN fun _ _ _ _ _ _ us hl => match us, hl with | [_, _, _], _ => rfl, g_check_number := He.glo_ok X G (c.1.fact 5 (f := .glo "check_number") rfl),
    f_is_sample := _, fd_is_sample := p6.choose, F_is_sample := p6.choose_spec, b_is_sample := p6.choose_spec.bindsN fun _ _ _ _ _ _ us hl => match us, hl with | [_, _], _ => rfl, g_is_sample := He.glo_ok X G (c.1.fact 6 (f := .glo "is_sample") rfl),
    f_are_samples := _, fd_are_samples := p7.choose, F_are_samples := p7.choose_spec, b_are_samples := p7.choose_spec.bindsN fun _ _ _ _ _ _ us hl => match us, hl with | [_, _], _ => rfl, g_are_samples := He.glo_ok X G (c.1.fact 7 (f := .glo "are_samples") rfl),
    f_wrapped := _, fd_wrapped := p8.choose, F_wrapped := p8.choose_spec, b_wrapped := p8.choose_spec.bindsN fun _ _ _ _ _ _ us hl => match us, hl with | [_, _], _ => rfl, g_wrapped := He.glo_ok X G (c.1.fact 8 (f := .glo "wrapped") rfl),
    f_folded := _, fd_folded := p9.choose, F_folded := p9.choose_spec, b_folded := p9.choose_spec.bindsN fun _ _ _ _ _ _ us hl => match us, hl with | [_], _ => rfl, g_folded := He.glo_ok X G (c.1.fact 9 (f := .glo "folded") rfl),
    f_unfolded := _, fd_unfolded := p10.choose, F_unfolded := p10.choose_spec, b_unfolded := p10.choose_spec.bindsN fun _ _ _ _ _ _ us hl => match us, hl with | [_], _ => rfl, g_unfolded := He.glo_ok X G (c.1.fact 10 (f := .glo "unfolded") rfl),
    f_check_guesser := _, fd_check_guesser := p11.choose, F_check_guesser := p11.choose_spec, b_check_guesser := p11.choose_spec.bindsN fun _ _ _ _ _ _ us hl => match us, hl with | [_], _ => rfl, g_check_guesser := He.glo_ok X G (c.1.fact 11 (f := .glo "check_guesser") rfl),
    f_check_row := _, fd_check_row := p12.choose, F_check_row := p12.choose_spec, b_check_row := p12.choose_spec.bindsN fun _ _ _ _ _ _ us hl => match us, hl with | [_, _], _ => rfl, g_check_row := He.glo_ok X G (c.1.fact 12 (f := .glo "check_row") rfl),
    f_sum_before := _, fd_sum_before := p13.choose, F_sum_before := p13.choose_spec, b_sum_before := p13.choose_spec.bindsN fun _ _ _ _ _ _ us hl => match us, hl with | [_, _], _ => rfl, g_sum_before := He.glo_ok X G (c.1.fact 13 (f := .glo "sum_before") rfl),
    f_guess_behind := _, fd_guess_behind := p14.choose, F_guess_behind := p14.choose_spec, b_guess_behind := p14.choose_spec.bindsN fun _ _ _ _ _ _ us hl => match us, hl with | [_, _], _ => rfl, g_guess_behind := He.glo_ok X G (c.1.fact 14 (f := .glo "guess_behind") rfl),
    f_told_rests := _, fd_told_rests := p15.choose, F_told_rests := p15.choose_spec, b_told_rests := p15.choose_spec.bindsN fun _ _ _ _ _ _ us hl => match us, hl with | [_, _], _ => rfl, g_told_rests := He.glo_ok X G (c.1.fact 15 (f := .glo "told_rests") rfl),
    f_rests := _, fd_rests := p16.choose, F_rests := p16.choose_spec, b_rests := p16.choose_spec.bindsN fun _ _ _ _ _ _ us hl => match us, hl with | [_, _, _], _ => rfl, g_rests := He.glo_ok X G (c.1.fact 16 (f := .glo "rests") rfl),
    f_row_of := _, fd_row_of := p17.choose, F_row_of := p17.choose_spec, b_row_of := p17.choose_spec.bindsN fun _ _ _ _ _ _ us hl => match us, hl with | [_, _, _], _ => rfl, g_row_of := He.glo_ok X G (c.1.fact 17 (f := .glo "row_of") rfl),
    f_check_width := _, fd_check_width := p18.choose, F_check_width := p18.choose_spec, b_check_width := p18.choose_spec.bindsN fun _ _ _ _ _ _ us hl => match us, hl with | [_, _], _ => rfl, g_check_width := He.glo_ok X G (c.1.fact 18 (f := .glo "check_width") rfl),
    f_chosen := _, fd_chosen := p19.choose, F_chosen := p19.choose_spec, b_chosen := p19.choose_spec.bindsN fun _ _ _ _ _ _ us hl => match us, hl with | [_, _], _ => rfl, g_chosen := He.glo_ok X G (c.1.fact 19 (f := .glo "chosen") rfl),
    f_sums_below := _, fd_sums_below := p20.choose, F_sums_below := p20.choose_spec, b_sums_below := p20.choose_spec.bindsN fun _ _ _ _ _ _ us hl => match us, hl with | [_, _, _], _ => rfl, g_sums_below := He.glo_ok X G (c.1.fact 20 (f := .glo "sums_below") rfl),
    f_how_many := _, fd_how_many := p21.choose, F_how_many := p21.choose_spec, b_how_many := p21.choose_spec.bindsN fun _ _ _ _ _ _ us hl => match us, hl with | [_, _, _, _], _ => rfl, g_how_many := He.glo_ok X G (c.1.fact 21 (f := .glo "how_many") rfl),
    f_size_bounds := _, fd_size_bounds := p22.choose, F_size_bounds := p22.choose_spec, b_size_bounds := p22.choose_spec.bindsN fun _ _ _ _ _ _ us hl => match us, hl with | [_, _, _], _ => rfl, g_size_bounds := He.glo_ok X G (c.1.fact 22 (f := .glo "size_bounds") rfl),
    f_tables := _, fd_tables := p23.choose, F_tables := p23.choose_spec, b_tables := p23.choose_spec.bindsN fun _ _ _ _ _ _ us hl => match us, hl with | [_, _, _], _ => rfl, g_tables := He.glo_ok X G (c.1.fact 23 (f := .glo "tables") rfl),
    f_row_at := _, fd_row_at := p24.choose, F_row_at := p24.choose_spec, b_row_at := p24.choose_spec.bindsN fun _ _ _ _ _ _ us hl => match us, hl with | [_, _, _, _, _, _], _ => rfl, g_row_at := He.glo_ok X G (c.1.fact 24 (f := .glo "row_at") rfl),
    f_how_many_checked := _, fd_how_many_checked := p25.choose, F_how_many_checked := p25.choose_spec, b_how_many_checked := p25.choose_spec.bindsN fun _ _ _ _ _ _ us hl => match us, hl with | [_, _, _, _, _], _ => rfl, g_how_many_checked := He.glo_ok X G (c.1.fact 25 (f := .glo "how_many_checked") rfl),
    f_number_of := _, fd_number_of := p26.choose, F_number_of := p26.choose_spec, b_number_of := p26.choose_spec.bindsN fun _ _ _ _ _ _ us hl => match us, hl with | [_, _, _, _], _ => rfl, g_number_of := He.glo_ok X G (c.1.fact 26 (f := .glo "number_of") rfl),
    f_fair := _, fd_fair := p27.choose, F_fair := p27.choose_spec, b_fair := p27.choose_spec.bindsN fun _ _ _ _ _ _ us hl => match us, hl with | [_, _], _ => rfl, g_fair := He.glo_ok X G (c.1.fact 27 (f := .glo "fair") rfl),
    f_twice_mean := _, fd_twice_mean := p28.choose, F_twice_mean := p28.choose_spec, b_twice_mean := p28.choose_spec.bindsN fun _ _ _ _ _ _ us hl => match us, hl with | [_, _], _ => rfl, g_twice_mean := He.glo_ok X G (c.1.fact 28 (f := .glo "twice_mean") rfl),
    f_mean := _, fd_mean := p29.choose, F_mean := p29.choose_spec, b_mean := p29.choose_spec.bindsN fun _ _ _ _ _ _ us hl => match us, hl with | [_, _], _ => rfl, g_mean := He.glo_ok X G (c.1.fact 29 (f := .glo "mean") rfl),
    f_least_means := _, fd_least_means := p30.choose, F_least_means := p30.choose_spec, b_least_means := p30.choose_spec.bindsN fun _ _ _ _ _ _ us hl => match us, hl with | [_], _ => rfl, g_least_means := He.glo_ok X G (c.1.fact 30 (f := .glo "least_means") rfl),
    f_gap := _, fd_gap := p31.choose, F_gap := p31.choose_spec, b_gap := p31.choose_spec.bindsN fun _ _ _ _ _ _ us hl => match us, hl with | [_, _, _], _ => rfl, g_gap := He.glo_ok X G (c.1.fact 31 (f := .glo "gap") rfl),
    f_law_cell := _, fd_law_cell := p32.choose, F_law_cell := p32.choose_spec, b_law_cell := p32.choose_spec.bindsN fun _ _ _ _ _ _ us hl => match us, hl with | [_, _], _ => rfl, g_law_cell := He.glo_ok X G (c.1.fact 32 (f := .glo "_law_cell") rfl),
    f_law_hash := _, fd_law_hash := p33.choose, F_law_hash := p33.choose_spec, b_law_hash := p33.choose_spec.bindsN fun _ _ _ _ _ _ us hl => match us, hl with | [_, _], _ => rfl, g_law_hash := He.glo_ok X G (c.1.fact 33 (f := .glo "_law_hash") rfl),
    f_law_generator := _, fd_law_generator := p34.choose, F_law_generator := p34.choose_spec, b_law_generator := p34.choose_spec.bindsN fun _ _ _ _ _ _ us hl => match us, hl with | [_, _], _ => rfl, g_law_generator := He.glo_ok X G (c.1.fact 34 (f := .glo "_law_generator") rfl),
    f_law_random := _, fd_law_random := p35.choose, F_law_random := p35.choose_spec, b_law_random := p35.choose_spec.bindsN fun _ _ _ _ _ _ us hl => match us, hl with | [_, _], _ => rfl, g_law_random := He.glo_ok X G (c.1.fact 35 (f := .glo "_law_random") rfl),
    f_law_weights := _, fd_law_weights := p36.choose, F_law_weights := p36.choose_spec, b_law_weights := p36.choose_spec.bindsN fun _ _ _ _ _ _ us hl => match us, hl with | [_, _], _ => rfl, g_law_weights := He.glo_ok X G (c.1.fact 36 (f := .glo "_law_weights") rfl),
    f_law_asked := _, fd_law_asked := p37.choose, F_law_asked := p37.choose_spec, b_law_asked := p37.choose_spec.bindsN fun _ _ _ _ _ _ us hl => match us, hl with | [_, _], _ => rfl, g_law_asked := He.glo_ok X G (c.1.fact 37 (f := .glo "_law_asked") rfl),
    f_law_caught := _, fd_law_caught := p38.choose, F_law_caught := p38.choose_spec, b_law_caught := p38.choose_spec.bindsN fun _ _ _ _ _ _ us hl => match us, hl with | [_, _], _ => rfl, g_law_caught := He.glo_ok X G (c.1.fact 38 (f := .glo "_law_caught") rfl),
    f_law_all_refused := _, fd_law_all_refused := p39.choose, F_law_all_refused := p39.choose_spec, b_law_all_refused := p39.choose_spec.bindsN fun _ _ _ _ _ _ us hl => match us, hl with | [_, _, _, _, _], _ => rfl, g_law_all_refused := He.glo_ok X G (c.1.fact 39 (f := .glo "_law_all_refused") rfl),
    f_law_depths_right := _, fd_law_depths_right := p40.choose, F_law_depths_right := p40.choose_spec, b_law_depths_right := p40.choose_spec.bindsN fun _ _ _ _ _ _ us hl => match us, hl with | [_], _ => rfl, g_law_depths_right := He.glo_ok X G (c.1.fact 40 (f := .glo "_law_depths_right") rfl),
    f_law_widths_right := _, fd_law_widths_right := p41.choose, F_law_widths_right := p41.choose_spec, b_law_widths_right := p41.choose_spec.bindsN fun _ _ _ _ _ _ us hl => match us, hl with | [_, _], _ => rfl, g_law_widths_right := He.glo_ok X G (c.1.fact 41 (f := .glo "_law_widths_right") rfl),
    f_law := _, fd_law := p42.choose, F_law := p42.choose_spec, b_law := p42.choose_spec.bindsN fun _ _ _ _ _ _ us hl => match us, hl with | [_], _ => rfl, g_law := He.glo_ok X G (c.1.fact 42 (f := .glo "law") rfl),
    f_Guesser___init__ := _, fd_Guesser___init__ := p43.choose, F_Guesser___init__ := p43.choose_spec, b_Guesser___init__ := p43.choose_spec.bindsN fun _ _ _ _ _ _ us hl => match us, hl with | [_, _, _], _ => rfl, me_Guesser___init__ := He.meth_ok (c.1.fact 68 (f := .meth "Guesser" "__init__") rfl), mk_Guesser := He.mkr_ok (c.1.fact 67 (f := .mkr "Guesser") rfl),
    n_len := He.free_ok X G (c.1.fact 43 (f := .free "len") rfl),
    n_sum := He.free_ok X G (c.1.fact 44 (f := .free "sum") rfl),
    n_max := He.free_ok X G (c.1.fact 45 (f := .free "max") rfl),
    n_min := He.free_ok X G (c.1.fact 46 (f := .free "min") rfl),
    n_int := He.free_ok X G (c.1.fact 47 (f := .free "int") rfl),
    n_bool := He.free_ok X G (c.1.fact 48 (f := .free "bool") rfl),
    n_list := He.free_ok X G (c.1.fact 49 (f := .free "list") rfl),
    n_range := He.free_ok X G (c.1.fact 50 (f := .free "range") rfl),
    n_isinstance := He.free_ok X G (c.1.fact 51 (f := .free "isinstance") rfl),
    n_abs := He.free_ok X G (c.1.fact 52 (f := .free "abs") rfl),
    n_enumerate := He.free_ok X G (c.1.fact 53 (f := .free "enumerate") rfl),
    n_repr := He.free_ok X G (c.1.fact 54 (f := .free "repr") rfl),
    n_super := He.free_ok X G (c.1.fact 55 (f := .free "super") rfl),
    t_MOST_DEPTH_kinds := q0.choose, m_MOST_DEPTH_kinds := q0.choose_spec,
    t_MOST_ORDER := q1.choose, m_MOST_ORDER := q1.choose_spec,
    t_MOST_WEIGHT := q2.choose, m_MOST_WEIGHT := q2.choose_spec,
    t_MOST_SHIFT := q3.choose, m_MOST_SHIFT := q3.choose_spec,
    t_MOST_DEPTH_guessers := q4.choose, m_MOST_DEPTH_guessers := q4.choose_spec,
    t_MOST_MANY := q5.choose, m_MOST_MANY := q5.choose_spec,
    t_MOST_FAIR := q6.choose, m_MOST_FAIR := q6.choose_spec }
theorem G_InvalidNumber___init__ {P : Program} {w : World} {K : PySem.W.Frag} {mg : Str → Option Value} {base : Heap} {CX : CXT} [Sup.PF P fileS] (T : Top K mg) : FnOk P w K mg base CX 1 T.fi_InvalidNumber T.fd_InvalidNumber ["self", "value"] (Sup.sp_exc_init T.C_InvalidNumber) := Sup.fn_sup nsc_InvalidNumber (by decide +kernel) sb_InvalidNumber T.er_InvalidNumber.sup T.n_super
theorem G_InvalidDepth___init__ {P : Program} {w : World} {K : PySem.W.Frag} {mg : Str → Option Value} {base : Heap} {CX : CXT} [Sup.PF P fileS] (T : Top K mg) : FnOk P w K mg base CX 1 T.fi_InvalidDepth T.fd_InvalidDepth ["self", "value"] (Sup.sp_exc_init T.C_InvalidDepth) := Sup.fn_sup nsc_InvalidDepth (by decide +kernel) sb_InvalidDepth T.er_InvalidDepth.sup T.n_super
theorem G_InvalidRow___init__ {P : Program} {w : World} {K : PySem.W.Frag} {mg : Str → Option Value} {base : Heap} {CX : CXT} [Sup.PF P fileS] (T : Top K mg) : FnOk P w K mg base CX 1 T.fi_InvalidRow T.fd_InvalidRow ["self", "value"] (Sup.sp_exc_init T.C_InvalidRow) := Sup.fn_sup nsc_InvalidRow (by decide +kernel) sb_InvalidRow T.er_InvalidRow.sup T.n_super
theorem G_InvalidGuesser___init__ {P : Program} {w : World} {K : PySem.W.Frag} {mg : Str → Option Value} {base : Heap} {CX : CXT} [Sup.PF P fileS] (T : Top K mg) : FnOk P w K mg base CX 1 T.fi_InvalidGuesser T.fd_InvalidGuesser ["self", "value"] (Sup.sp_exc_init T.C_InvalidGuesser) := Sup.fn_sup nsc_InvalidGuesser (by decide +kernel) sb_InvalidGuesser T.er_InvalidGuesser.sup T.n_super
theorem G_InvalidWidth___init__ {P : Program} {w : World} {K : PySem.W.Frag} {mg : Str → Option Value} {base : Heap} {CX : CXT} [Sup.PF P fileS] (T : Top K mg) : FnOk P w K mg base CX 1 T.fi_InvalidWidth T.fd_InvalidWidth ["self", "value"] (Sup.sp_exc_init T.C_InvalidWidth) := Sup.fn_sup nsc_InvalidWidth (by decide +kernel) sb_InvalidWidth T.er_InvalidWidth.sup T.n_super
end My

set_option exponentiation.threshold 100000
namespace My
open PySem PySem.Spec PyProof.Rows L2 Pre
section
variable {P : Program} {w : World} {K : PySem.W.Frag} {mg : Str → Option Value} {base : Heap}
/-! ### the law's draws -/
/-- a generator: its count is at most n -/
def GenAt (H : Hp) (g : Addr) (n : Nat) : Prop := ∃ x y z : Int, H g = some (.lst [.int x, .int y, .int z]) ∧ 0 ≤ z ∧ z ≤ (n : Int)
/-- all but one thing stand as they stood -/
def But (g : Addr) (H H' : Hp) : Prop := ∀ b o, b ≠ g → H b = some o → H' b = some o
theorem But.refl {g : Addr} {H : Hp} : But g H H := fun _ _ _ h => h
theorem But.trans {g : Addr} {H H1 H2 : Hp} (a : But g H H1) (b : But g H1 H2) : But g H H2 := fun c o n h => b c o n (a c o n h)
theorem But.same {g : Addr} {H H1 H2 : Hp} (a : But g H H1) (b : Same H1 H2) : But g H H2 := fun c o n h => b c o (a c o n h)
theorem But.of {g : Addr} {H H1 : Hp} (b : Same H H1) : But g H H1 := fun c o _ h => b c o h
theorem But.upd {g : Addr} {H H1 : Hp} {o : HO} (a : But g H H1) : But g H (upd H1 g o) := fun c u n h => by
  rw [upd_ne n]
  exact a c u n h
theorem But.free {g : Addr} {H H1 : Hp} (a : But g H H1) {p : Addr} (n : p ≠ g) (h : H1 p = none) : H p = none := by
  cases e : H p with
  | none => rfl
  | some o => rw [a p o n e] at h; cases h
/-- what is changed was not there at first -/
theorem But.fresh {g : Addr} {H H1 H2 : Hp} (s : Same H H1) (n : H g = none) (b : But g H1 H2) : Same H H2 := fun c o h => b c o (ne_of_none h n) (s c o h)
theorem GenAt.mono {H : Hp} {g : Addr} {n m : Nat} (h : GenAt H g n) (l : n ≤ m) : GenAt H g m := by
  obtain ⟨x, y, z, a, b, c⟩ := h
  exact ⟨x, y, z, a, b, by omega⟩
theorem GenAt.same {H H' : Hp} {g : Addr} {n : Nat} (h : GenAt H g n) (s : Same H H') : GenAt H' g n := by
  obtain ⟨x, y, z, a, b⟩ := h
  exact ⟨x, y, z, s _ _ a, b⟩
theorem GenAt.ne {H : Hp} {g : Addr} {n : Nat} {p : Addr} (h : GenAt H g n) (np : H p = none) : p ≠ g := by
  obtain ⟨x, y, z, a, _⟩ := h
  exact (ne_of_none a np).symm
theorem small_2900 {b : Int} (h : b ≤ 2 ^ 60) : b < 2 ^ 2900 := by omega
theorem pow_pos' (w : Nat) : (0 : Int) < 2 ^ w := Int.pow_pos (by decide)
theorem pow2_le {k m : Nat} (h : k ≤ m) : (2 : Int) ^ k ≤ 2 ^ m := by
  have e := Nat.pow_le_pow_right (show 0 < 2 by decide) h
  have e2 : ((2 ^ k : Nat) : Int) ≤ ((2 ^ m : Nat) : Int) := Int.ofNat_le.mpr e
  rw [Int.natCast_pow, Int.natCast_pow] at e2
  exact e2
def sp_law_cell (K : PySem.W.Frag) : Sp := fun vs H Q _ => ∃ (a : Addr) (ns : List Int) (i : Nat), vs = [.ref a, .int i] ∧ SqL K H a (ns.map V.int) ∧ ∀ (n : Int) H', Same H H' → Q (.int n) H'
theorem G_law_cell (T : Top K mg) : FnOk P w K mg base CX0 1 T.f_law_cell T.fd_law_cell ["_law_script", "_law_index"] (sp_law_cell K) := by
  refine T.F_law_cell.ok sc_law_cell (fun vs H Q E h => by obtain ⟨a, ns, i, rfl, _⟩ := h; rfl) (fun cdv A outer s H vs Q E hr h => ?_)
  obtain ⟨a, ns, i, rfl, hS, q⟩ := h
  refine ⟨_, PSs.nox (pss_cons (ps_if (pt_cmpR op_lt (pv 1) (pe_callB (k_len K rfl) (by rfl) T.n_len (by decide +kernel) (pa_cons (pv 0) pa_nil)) (nomark _))
    (pss_one (ps_ret (pe_ix (k_ixL K rfl) (pv 0) (pv 1) (fun _ _ => rfl))))
    pss_nil)
  (pss_one (ps_ret (pe_op op_mod (pe_callB (k_sum K rfl rfl) (by rfl) T.n_sum (by decide +kernel) (pa_cons (pe_slice (k_slL K rfl) (pv 0) po_none (po_some pe_int)) pa_nil)) pe_int)))), ?_⟩
  refine ⟨_, rfl, _, rfl, a, _, rfl, .inl hS, _, _, rfl, rfl, _, rfl, ite2 (fun e => ?_) (fun e => ?_)⟩
  · have e1 : (i : Int) < (((ns.map V.int).length : Nat) : Int) := of_decide_eq_true e
    rw [List.length_map] at e1
    have hi : i < ns.length := by omega
    refine ⟨_, rfl, _, rfl, a, _, _, .int ns[i], rfl, rfl, hS, atI_nat (by rw [List.getElem?_map, List.getElem?_eq_getElem hi]; rfl), ?_⟩
    exact q _ _ (Same.refl _)
  · refine ⟨_, rfl, _, rfl, a, _, rfl, hS, fun p np => ?_⟩
    have ec : ∃ ms : List Int, cutV (ns.map V.int) none (some 1) = ms.map V.int := by
      unfold cutV
      exact ⟨(ns.drop (HT.sIx (ns.map V.int).length 0 none)).take (HT.sIx (ns.map V.int).length (ns.map V.int).length (some 1) - HT.sIx (ns.map V.int).length 0 none), by rw [List.map_take, List.map_drop]⟩
    obtain ⟨ms, em⟩ := ec
    refine ⟨p, ms, rfl, .inl (.inl (by rw [upd_same, em])), _, _, rfl, rfl, (by show (0 : Int) < 1000003; decide), ?_⟩
    exact q _ _ (same_upd np)
theorem cmul_mod (x m j : Int) (h0 : 0 < m) (h1 : m ≤ 2 ^ 60) : CMul (x % m) j := by
  have a := Int.emod_nonneg x (show m ≠ 0 by omega)
  have b := Int.emod_lt_of_pos x h0
  exact .inl ⟨by omega, by omega⟩
def sp_law_hash : Sp := fun vs H Q _ => ∃ i j : Int, vs = [.int i, .int j] ∧ 0 ≤ j ∧ j < 2 ^ 60 ∧ ∀ n : Int, Q (.int n) H
theorem G_law_hash (T : Top K mg) : FnOk P w K mg base CX0 1 T.f_law_hash T.fd_law_hash ["_law_seed", "_law_index"] sp_law_hash := by
  refine T.F_law_hash.ok sc_law_hash (fun vs H Q E h => by obtain ⟨i, j, rfl, _⟩ := h; rfl) (fun cdv A outer s H vs Q E hr h => ?_)
  obtain ⟨i, j, rfl, h0, h1, q⟩ := h
  refine ⟨_, PSs.nox (pss_cons (ps_set (i := 2) sc_law_hash.nd rfl (by first | exact Or.inl rfl | exact Or.inr rfl) (pe_op op_mod (pe_callTy call_int1 (by rfl) T.n_int (by decide +kernel) (pa_cons (pe_op op_add (pe_op op_add (pe_op op_add (pe_op op_mul (pv 0) pe_int) (pe_op op_mul (pe_op op_mul pe_int (pv 1)) (pv 1))) (pv 1)) pe_int) pa_nil)) pe_int))
  (pss_cons (ps_set (i := 2) sc_law_hash.nd rfl (by first | exact Or.inl rfl | exact Or.inr rfl) (pe_op op_mod (pe_callTy call_int1 (by rfl) T.n_int (by decide +kernel) (pa_cons (pe_op op_add (pe_op op_mul (pv 2) (pv 2)) pe_int) pa_nil)) pe_int))
  (pss_one (ps_ret (pe_op op_mod (pe_callTy call_int1 (by rfl) T.n_int (by decide +kernel) (pa_cons (pe_op op_mul (pv 2) pe_int) pa_nil)) pe_int))))), ?_⟩
  refine ⟨_, rfl, _, _, rfl, rfl, .inr ⟨by decide, by decide⟩, _, rfl, _, _, rfl, rfl, .inl ⟨by decide, by decide⟩, _, rfl, _, _, rfl, rfl, .inr ⟨by omega, by omega⟩, _, _, rfl, rfl, _, rfl, _, _, rfl, rfl, _, _, rfl, rfl,
    .inl ⟨_, rfl, _, _, rfl, rfl, (by show (0 : Int) < _; decide), ?_⟩⟩
  refine ⟨_, rfl, _, rfl, _, _, rfl, rfl, cmul_mod _ _ _ (by decide) (by decide), _, _, rfl, rfl, .inl ⟨_, rfl, _, _, rfl, rfl, (by show (0 : Int) < _; decide), ?_⟩⟩
  refine ⟨_, rfl, _, _, rfl, rfl, .inr ⟨by decide, by decide⟩, .inl ⟨_, rfl, _, _, rfl, rfl, (by show (0 : Int) < _; decide), ?_⟩⟩
  exact q _

def sp_law_generator (K : PySem.W.Frag) : Sp := fun vs H Q _ => ∃ (a : Addr) (ns : List Int) (i : Nat), vs = [.ref a, .int i] ∧ SqL K H a (ns.map V.int) ∧ ∀ H' g, Same H H' → H g = none → GenAt H' g (1000 * i) → Q (.ref g) H'
theorem G_law_generator (T : Top K mg) : FnOk P w K mg base CX0 2 T.f_law_generator T.fd_law_generator ["_law_script", "_law_index"] (sp_law_generator K) := by
  refine T.F_law_generator.ok sc_law_generator (fun vs H Q E h => by obtain ⟨a, ns, i, rfl, _⟩ := h; rfl) (fun cdv A outer s H vs Q E hr h => ?_)
  obtain ⟨a, ns, i, rfl, hS, q⟩ := h
  refine ⟨_, PSs.nox (pss_cons (ps_set (i := 2) sc_law_generator.nd rfl (by first | exact Or.inl rfl | exact Or.inr rfl) (pe_call (G_law_cell (P := P) T) (hr.mono (by decide)) (by rfl) T.g_law_cell T.F_law_cell.kp T.b_law_cell .nil pass0 (pa_cons (pv 0) (pa_cons (pv 1) pa_nil))))
  (pss_one (ps_ret (pe_lst (pa_cons (pe_op op_mod (pe_callTy call_int1 (by rfl) T.n_int (by decide +kernel) (pa_cons (pe_callB (call_max2 rfl) (by rfl) T.n_max (by decide +kernel) (pa_cons (pe_op op_sub (pv 2) (pe_op op_powW pe_int pe_int)) (pa_cons pe_int pa_nil))) pa_nil)) (pe_op op_powW (pe_op op_powW pe_int pe_int) pe_int)) (pa_cons (pe_op op_mod (pe_callTy call_int1 (by rfl) T.n_int (by decide +kernel) (pa_cons (pv 2) pa_nil)) pe_int) (pa_cons (pe_op op_mul pe_int (pv 1)) pa_nil))))))), ?_⟩
  refine ⟨_, rfl, _, rfl, a, ns, i, rfl, hS, fun n H1 s1 => ?_⟩
  refine ⟨_, rfl, _, _, rfl, rfl, ⟨by decide, by decide +kernel⟩, _, _, rfl, rfl, _, _, rfl, .inl ⟨_, rfl, _, _, rfl, rfl, ⟨by decide, by decide +kernel⟩, _, _, rfl, rfl, ⟨by decide, by decide +kernel⟩, _, _, rfl, rfl, (by show (0 : Int) < _; decide +kernel), ?_⟩⟩
  refine ⟨_, rfl, .inl ⟨_, rfl, _, _, rfl, rfl, (by show (0 : Int) < _; decide), ?_⟩⟩
  refine ⟨_, rfl, _, _, rfl, rfl, .inl ⟨by decide, by decide⟩, (show 3 ≤ sizeLine by decide), fun g ng => ?_⟩
  exact q _ g (s1.trans (same_upd ng)) (s1.free ng) ⟨_, _, _, upd_same, by omega, by omega⟩
def sp_law_random : Sp := fun vs H Q _ => ∃ (g : Addr) (b : Int) (n : Nat), vs = [.ref g, .int b] ∧ GenAt H g n ∧ n ≤ 10 ^ 12 ∧ 0 < b ∧ b < 2 ^ 2900 ∧ ∀ (d : Int) H', 0 ≤ d → d < b → GenAt H' g (n + 100) → But g H H' → Q (.int d) H'
theorem G_law_random (T : Top K mg) : FnOk P w K mg base CX0 2 T.f_law_random T.fd_law_random ["_law_generator_here", "_law_bound"] sp_law_random := by
  refine T.F_law_random.ok sc_law_random (fun vs H Q E h => by obtain ⟨g, b, n, rfl, _⟩ := h; rfl) (fun cdv A outer s H vs Q E hr h => ?_)
  obtain ⟨g, b, n, rfl, ⟨x, y, z, hg, z0, z1⟩, hn, b0, b1, q⟩ := h
  refine ⟨_, PSs.nox (pss_cons (ps_if (pt_cmpR op_gt (pe_ix (k_ixL K rfl) (pv 0) pe_int (fun _ _ => rfl)) pe_int (nomark _))
    (pss_cons (ps_set (i := 2) sc_law_random.nd rfl (by first | exact Or.inl rfl | exact Or.inr rfl) (pe_op op_mod (pe_callTy call_int1 (by rfl) T.n_int (by decide +kernel) (pa_cons (pe_ix (k_ixL K rfl) (pv 0) pe_int (fun _ _ => rfl)) pa_nil)) (pv 1)))
  (pss_cons (ps_asg (pe_op op_fdivW (pe_ix (k_ixL K rfl) (pv 0) pe_int (fun _ _ => rfl)) (pv 1)) (pg_sub (pv 0) pe_int set_list))
  (pss_one (ps_ret (pv 2)))))
    pss_nil)
  (pss_cons (ps_set (i := 2) sc_law_random.nd rfl (by first | exact Or.inl rfl | exact Or.inr rfl) pe_int)
  (pss_cons (ps_for PassesOwn.never rfl (pi_range1 (by rfl) T.n_range (pa_cons (pe_op op_add pe_int (pe_op op_fdivW (pe_bits (pv 1)) pe_int)) pa_nil)) (pg_name (i := 3) sc_law_random.nd rfl (by first | exact Or.inl rfl | exact Or.inr rfl))
    (pss_cons (ps_asg (pe_op op_add (pe_ix (k_ixL K rfl) (pv 0) pe_int (fun _ _ => rfl)) pe_int) (pg_sub (pv 0) pe_int set_list))
  (pss_one (ps_set (i := 2) sc_law_random.nd rfl (by first | exact Or.inl rfl | exact Or.inr rfl) (pe_op op_add (pe_op op_mul (pv 2) pe_int) (pe_call (G_law_hash (P := P) T) (hr.mono (by decide)) (by rfl) T.g_law_hash T.F_law_hash.kp T.b_law_hash .nil pass0 (pa_cons (pe_ix (k_ixL K rfl) (pv 0) pe_int (fun _ _ => rfl)) (pa_cons (pe_ix (k_ixL K rfl) (pv 0) pe_int (fun _ _ => rfl)) pa_nil))))))))
  (pss_one (ps_ret (pe_op op_mod (pe_callTy call_int1 (by rfl) T.n_int (by decide +kernel) (pa_cons (pv 2) pa_nil)) (pv 1))))))), ?_⟩
  have a0 : ∀ x y z : Int, atI [V.int x, .int y, .int z] 0 = some (.int x) := fun _ _ _ => rfl
  have a1 : ∀ x y z : Int, atI [V.int x, .int y, .int z] 1 = some (.int y) := fun _ _ _ => rfl
  have a2 : ∀ x y z : Int, atI [V.int x, .int y, .int z] 2 = some (.int z) := fun _ _ _ => rfl
  have hS : SqL K H g [.int x, .int y, .int z] := .inl (.inl hg)
  have nb : b.natAbs < 2 ^ 2900 := by
    have e : ((b.natAbs : Nat) : Int) < ((2 ^ 2900 : Nat) : Int) := by
      rw [Int.natCast_pow]
      omega
    exact Int.ofNat_lt.mp e
  refine ⟨_, rfl, g, _, 0, _, rfl, rfl, hS, a0 x y z, _, _, rfl, rfl, _, rfl, ite2 (fun e => ?_) (fun e => ?_)⟩
  · refine ⟨_, rfl, g, _, 0, _, rfl, rfl, hS, a0 x y z, .inl ⟨_, rfl, _, rfl, _, _, rfl, rfl, b0, ?_⟩⟩
    refine ⟨_, rfl, g, _, 0, _, rfl, rfl, hS, a0 x y z, _, rfl, _, _, rfl, rfl, wide_div b0 nb (by decide) (by decide), _, rfl, g, _, 0, 0, rfl, rfl, hg, rfl, _, rfl, ?_⟩
    exact q _ _ (Int.emod_nonneg _ (by omega)) (Int.emod_lt_of_pos _ b0) ⟨_, _, _, upd_same, z0, by omega⟩ (But.upd But.refl)
  · have hb : Builtin.Int.intBits b ≤ 2900 := PyProof.Rows.intBits_le nb
    have hq0 : (0 : Int) ≤ ((Builtin.Int.intBits b : Nat) : Int) / 30 := Int.ediv_nonneg (Int.natCast_nonneg _) (by decide)
    have hq1 : ((Builtin.Int.intBits b : Nat) : Int) / 30 ≤ 97 := by omega
    refine ⟨_, rfl, _, rfl, _, _, rfl, rfl, ⟨by decide, by decide +kernel⟩, _, _, rfl, rfl, _, rfl, by omega, by omega, ?_⟩
    refine for_range (lo := 0) (n := (1 + ((Builtin.Int.intBits b : Nat) : Int) / 30).toNat) (fun i σ H1 => ∃ (d z' : Int) (v : Option V), σ = [some (.ref g), some (.int b), some (.int d), v] ∧ H1 g = some (.lst [.int x, .int y, .int z']) ∧ 0 ≤ z' ∧ z' ≤ (n : Int) + (i : Int) ∧ But g H H1)
      ⟨0, z, none, rfl, hg, z0, by omega, But.refl⟩ ?_ ?_
    · rintro i σ H1 hi ⟨d, z', v, rfl, hg1, y0, y1, b1⟩
      have hS1 : SqL K H1 g [.int x, .int y, .int z'] := .inl (.inl hg1)
      refine ⟨_, rfl, g, _, 2, _, rfl, rfl, hS1, a2 x y z', _, _, rfl, rfl, _, rfl, g, _, 2, 2, rfl, rfl, hg1, rfl, ?_⟩
      have hS2 : SqL K (upd H1 g (.lst [.int x, .int y, .int (z' + 1)])) g [.int x, .int y, .int (z' + 1)] := .inl (.inl upd_same)
      refine ⟨_, rfl, _, _, rfl, rfl, .inr ⟨by decide, by decide⟩, _, rfl, g, _, 1, _, rfl, rfl, hS2, a1 _ _ _, _, rfl, g, _, 2, _, rfl, rfl, hS2, a2 _ _ _, _, _, rfl, by omega, by omega, fun r => ?_⟩
      exact ⟨_, _, rfl, rfl, _, z' + 1, _, rfl, upd_same, by omega, by omega, But.upd b1⟩
    · rintro σ H1 ⟨d, z', v, rfl, hg1, y0, y1, b1⟩
      refine ⟨_, rfl, .inl ⟨_, rfl, _, rfl, _, _, rfl, rfl, b0, ?_⟩⟩
      exact q _ _ (Int.emod_nonneg _ (by omega)) (Int.emod_lt_of_pos _ b0) ⟨_, _, _, hg1, y0, by omega⟩ b1
/-- a comprehension over a range that draws whole numbers -/
theorem lc_drawR {lo : Int} {n : Nat} {j : Nat} {te : TE} {vs : List Nat} {σ : L2.St} {H1 : Hp} {D : Addr} {Qd : Hp → Prop} (g : Addr) (m step : Nat) (P : Int → Prop) (nD : H1 D = none) (hG : GenAt H1 g m) (hz : n < sizeLine)
    (hw : ∀ x, wipe ((wipe σ vs).set j (some x)) vs = wipe σ vs)
    (hs : ∀ (i : Nat) (H' : Hp), i < n → But g H1 H' → GenAt H' g (m + step * i) → ∀ Qt : V → Hp → Prop, (∀ (y : Int) H'', P y → But g H' H'' → GenAt H'' g (m + step * (i + 1)) → Qt (.int y) H'') → te ((wipe σ vs).set j (some (.int (lo + (i : Int))))) H' Qt)
    (hd : ∀ H' (ys : List Int), But g H1 H' → GenAt H' g (m + step * n) → H' D = some (.lst (ys.map V.int)) → ys.length = n → (∀ y ∈ ys, P y) → Qd H') :
    ∃ W : Nat → Nat → Hp → Prop, (∃ m, W 0 m (upd H1 D (.lst []))) ∧ ∀ i m H, W i m H →
      ((Itr lo n).stop i H ∧ Qd H) ∨ ((Itr lo n).go i H ∧ ∃ Nx : Hp → Prop, (∀ H', Nx H' → ∃ m', m' < m ∧ W (i + 1) m' H') ∧ ∀ x H', (Itr lo n).yld i H x H' → gName j x (wipe σ vs) H' fun σ2 H2 => wipe σ2 vs = wipe σ vs ∧ tYes σ2 H2 fun b H3 =>
        if b = true then te σ2 H3 fun y H4 => ∃ acc, H4 D = some (.lst acc) ∧ acc.length < sizeLine ∧ Nx (upd H4 D (.lst (acc ++ [y]))) else Nx H3) := by
  have nDg : D ≠ g := hG.ne nD
  refine lc_range (lo := lo) (n := n) (fun i H => ∃ ys : List Int, But g H1 H ∧ GenAt H g (m + step * i) ∧ H D = some (.lst (ys.map V.int)) ∧ ys.length = i ∧ ∀ y ∈ ys, P y)
    ⟨[], But.of (same_upd nD), hG.same (same_upd nD), upd_same, rfl, (fun _ h => nomatch h)⟩ ?_ ?_
  · rintro i H hi ⟨ys, b, hg, hD, hl, hP⟩
    refine ⟨hw _, ?_⟩
    unfold tYes
    dsimp only
    rw [if_pos (show true = true from rfl)]
    refine hs i H hi b hg _ fun y H2 py b2 hg2 => ?_
    refine ⟨_, b2 _ _ nDg hD, by rw [List.length_map]; omega, ys ++ [y], ?_, ?_, ?_, ?_, ?_⟩
    · intro c o nc hc
      rw [upd_ne (ne_of_none hc nD)]
      exact b2 _ _ nc (b _ _ nc hc)
    · obtain ⟨x1, x2, x3, e1, e2⟩ := hg2
      exact ⟨x1, x2, x3, by rw [upd_ne nDg.symm]; exact e1, e2⟩
    · rw [upd_same, List.map_append]
      rfl
    · rw [List.length_append, hl]
      rfl
    · intro z hz
      rcases List.mem_append.mp hz with hz | hz
      · exact hP z hz
      · rw [List.mem_singleton.mp hz]
        exact py
  · rintro H ⟨ys, b, hg, hD, hl, hP⟩
    exact hd H ys b hg hD hl hP
end
end My

namespace My
open PySem PySem.Spec PyProof.Rows L2 Pre
/-- a comprehension over a list of whole numbers that draws whole numbers -/
theorem lc_drawL {K : PySem.W.Frag} {a : Addr} {xs : List Int} {j : Nat} {te : TE} {vs : List Nat} {σ : L2.St} {H1 : Hp} {D : Addr} {Qd : Hp → Prop} (g : Addr) (m step : Nat) (P : Int → Prop) (nD : H1 D = none) (hG : GenAt H1 g m) (hA : H1 a = some (.lst (xs.map V.int))) (ag : a ≠ g) (hz : xs.length < sizeLine)
    (hw : ∀ x, wipe ((wipe σ vs).set j (some x)) vs = wipe σ vs)
    (hs : ∀ (i : Nat) (x : Int) (H' : Hp), xs[i]? = some x → But g H1 H' → GenAt H' g (m + step * i) → ∀ Qt : V → Hp → Prop, (∀ (y : Int) H'', P y → But g H' H'' → GenAt H'' g (m + step * (i + 1)) → Qt (.int y) H'') → te ((wipe σ vs).set j (some (.int x))) H' Qt)
    (hd : ∀ H' (ys : List Int), But g H1 H' → GenAt H' g (m + step * xs.length) → H' D = some (.lst (ys.map V.int)) → ys.length = xs.length → (∀ y ∈ ys, P y) → Qd H') :
    ∃ W : Nat → Nat → Hp → Prop, (∃ m, W 0 m (upd H1 D (.lst []))) ∧ ∀ i m H, W i m H →
      ((Itl K a).stop i H ∧ Qd H) ∨ ((Itl K a).go i H ∧ ∃ Nx : Hp → Prop, (∀ H', Nx H' → ∃ m', m' < m ∧ W (i + 1) m' H') ∧ ∀ x H', (Itl K a).yld i H x H' → gName j x (wipe σ vs) H' fun σ2 H2 => wipe σ2 vs = wipe σ vs ∧ tYes σ2 H2 fun b H3 =>
        if b = true then te σ2 H3 fun y H4 => ∃ acc, H4 D = some (.lst acc) ∧ acc.length < sizeLine ∧ Nx (upd H4 D (.lst (acc ++ [y]))) else Nx H3) := by
  have nDg : D ≠ g := hG.ne nD
  have aD : a ≠ D := ne_of_none hA nD
  refine lc_list (K := K) (a := a) (xs := xs.map V.int) (fun i H => ∃ ys : List Int, But g H1 H ∧ GenAt H g (m + step * i) ∧ H D = some (.lst (ys.map V.int)) ∧ ys.length = i ∧ ∀ y ∈ ys, P y)
    ⟨[], But.of (same_upd nD), hG.same (same_upd nD), upd_same, rfl, (fun _ h => nomatch h)⟩ (fun i H _ ⟨_, b, _⟩ => .inl (.inl (b _ _ ag hA))) ?_ ?_
  · rintro i v H hi ⟨ys, b, hg, hD, hl, hP⟩
    obtain ⟨x, hx, rfl⟩ := int_at hi
    have hil := (List.getElem?_eq_some_iff.mp hx).1
    refine ⟨hw _, ?_⟩
    unfold tYes
    dsimp only
    rw [if_pos (show true = true from rfl)]
    refine hs i x H hx b hg _ fun y H2 py b2 hg2 => ?_
    refine ⟨_, b2 _ _ nDg hD, by rw [List.length_map]; omega, ys ++ [y], ?_, ?_, ?_, ?_, ?_⟩
    · intro c o nc hc
      rw [upd_ne (ne_of_none hc nD)]
      exact b2 _ _ nc (b _ _ nc hc)
    · obtain ⟨x1, x2, x3, e1, e2⟩ := hg2
      exact ⟨x1, x2, x3, by rw [upd_ne nDg.symm]; exact e1, e2⟩
    · rw [upd_same, List.map_append]
      rfl
    · rw [List.length_append, hl]
      rfl
    · intro z hz
      rcases List.mem_append.mp hz with hz | hz
      · exact hP z hz
      · rw [List.mem_singleton.mp hz]
        exact py
  · rintro H ⟨ys, b, hg, hD, hl, hP⟩
    rw [List.length_map] at hg hl
    exact hd H ys b hg hD hl hP
end My

namespace My
open PySem PySem.Spec PyProof.Rows L2 Pre
/-- a comprehension over a list that makes new things: R tells what is known of the i-th -/
theorem lc_relL {K : PySem.W.Frag} {a : Addr} {xs : List V} {j : Nat} {te : TE} {vs : List Nat} {σ : L2.St} {H1 : Hp} {D : Addr} {Qd : Hp → Prop} (R : Nat → V → Hp → Prop) (nD : H1 D = none) (hS : SqL K H1 a xs) (hz : xs.length < sizeLine)
    (mono : ∀ (i : Nat) (y : V) (H H' : Hp), Pre.Off D H H' → R i y H → R i y H') (hw : ∀ x, wipe ((wipe σ vs).set j (some x)) vs = wipe σ vs)
    (hs : ∀ (i : Nat) (x : V) (H' : Hp) (zs : List V), xs[i]? = some x → Same H1 H' → H' D = some (.lst zs) → ∀ Qt : V → Hp → Prop, (∀ y H'', Same H' H'' → R i y H'' → Qt y H'') → te ((wipe σ vs).set j (some x)) H' Qt)
    (hd : ∀ H' ys, Same H1 H' → H' D = some (.lst ys) → ys.length = xs.length → (∀ (i : Nat) (y : V), ys[i]? = some y → R i y H') → Qd H') :
    ∃ W : Nat → Nat → Hp → Prop, (∃ m, W 0 m (upd H1 D (.lst []))) ∧ ∀ i m H, W i m H →
      ((Itl K a).stop i H ∧ Qd H) ∨ ((Itl K a).go i H ∧ ∃ Nx : Hp → Prop, (∀ H', Nx H' → ∃ m', m' < m ∧ W (i + 1) m' H') ∧ ∀ x H', (Itl K a).yld i H x H' → gName j x (wipe σ vs) H' fun σ2 H2 => wipe σ2 vs = wipe σ vs ∧ tYes σ2 H2 fun b H3 =>
        if b = true then te σ2 H3 fun y H4 => ∃ acc, H4 D = some (.lst acc) ∧ acc.length < sizeLine ∧ Nx (upd H4 D (.lst (acc ++ [y]))) else Nx H3) := by
  refine lc_list (K := K) (a := a) (xs := xs) (RelPv R H1 D) ⟨[], same_upd nD, upd_same, rfl, fun k y h => by simp at h⟩ (fun i H _ ⟨_, s, _⟩ => s.seq hS) ?_ ?_
  · rintro i x H hx ⟨ys, s, hD, hl, hR⟩
    have hi : i < xs.length := (List.getElem?_eq_some_iff.mp hx).1
    refine ⟨hw _, ?_⟩
    unfold tYes
    dsimp only
    rw [if_pos (show true = true from rfl)]
    refine hs i x H ys hx s hD _ fun y H4 s4 r4 => ?_
    refine ⟨ys, s4 _ _ hD, by omega, ys ++ [y], same_over nD (s.trans s4), upd_same, by rw [List.length_append, hl]; rfl, fun k z hz => ?_⟩
    have off : Pre.Off D H4 (upd H4 D (.lst (ys ++ [y]))) := fun b o nb h => by rw [upd_ne nb]; exact h
    by_cases hk : k < ys.length
    · rw [List.getElem?_append_left hk] at hz
      exact mono k z H _ (fun b o nb h => off b o nb (s4 b o h)) (hR k z hz)
    · rw [List.getElem?_append_right (by omega)] at hz
      have hk2 : k - ys.length = 0 := by
        have h2 := (List.getElem?_eq_some_iff.mp hz).1
        rw [List.length_singleton] at h2
        omega
      rw [hk2] at hz
      cases hz
      have ek : k = i := by omega
      rw [ek]
      exact mono i y H4 _ off r4
  · rintro H ⟨ys, s, hD, hl, hR⟩
    exact hd H ys s hD hl hR
/-- a list of lists of whole numbers -/
def RowsIn (H : Hp) (p : Addr) (rows : List (List Int)) : Prop := ∃ as : List Addr, H p = some (.lst (as.map V.ref)) ∧ as.length = rows.length ∧ ∀ (i : Nat) (a : Addr) (r : List Int), as[i]? = some a → rows[i]? = some r → H a = some (.lst (r.map V.int))
theorem RowsIn.same {H H' : Hp} {p : Addr} {rows : List (List Int)} (h : RowsIn H p rows) (s : Same H H') : RowsIn H' p rows := by
  obtain ⟨as, h1, h2, h3⟩ := h
  exact ⟨as, s _ _ h1, h2, fun i a r ha hr => s _ _ (h3 i a r ha hr)⟩
section
variable {X : Cx}
theorem huD {k : Nat} {A : Around} (r : Room k A) : A.units + 65 < cLine := by have := r.un; omega
theorem k_inD (K : PySem.W.Frag) (h : X.K = K) (hu : X.A.units + 65 < cLine) : OpR X (compareOp .In) (rInD K) := by subst h; exact op_inD hu
theorem k_notInD (K : PySem.W.Frag) (h : X.K = K) (hu : X.A.units + 65 < cLine) : OpR X (compareOp .NotIn) (rNotInD K) := by subst h; exact op_notInD hu
theorem k_indexD (K : PySem.W.Frag) (h : X.K = K) (hu : X.A.units + 65 < cLine) : MtR X "list.index" (rIndexD K) := by subst h; exact mt_indexD hu
end
/-- rows as data -/
def rowD (r : List Int) : PyData := .list (r.map PyData.int)
theorem rows_dp {K : PySem.W.Frag} {H : Hp} : ∀ {as : List Addr} {rows : List (List Int)}, as.length = rows.length → (∀ (i : Nat) (a : Addr) (r : List Int), as[i]? = some a → rows[i]? = some r → H a = some (.lst (r.map V.int))) → DpAll K H (as.map V.ref) (rows.map rowD)
  | [], [], _, _ => .nil
  | [], _ :: _, h, _ => by simp at h
  | _ :: _, [], h, _ => by simp at h
  | a :: as, r :: rows, h, k => .cons (.lst (.inl (.inl (k 0 a r rfl rfl))) (Pre.dp_ints r)) (rows_dp (by simpa using h) fun i t q ht hq => k (i + 1) t q (by simpa using ht) (by simpa using hq))
theorem rowD_eqv (r q : List Int) : PyData.eqv (rowD r) (rowD q) = decide (r = q) := by
  unfold rowD
  rw [PyData.eqv, eqv_ints]
theorem rows_shaped (rows : List (List Int)) : SeqAt.shaped (.list (rows.map rowD)) = true := by
  have h1 : ∀ l : List (List Int), PyData.canLayAll0 (l.map rowD) = true := fun l => by
    induction l with
    | nil => rfl
    | cons r l ih =>
      show (PyData.canLay0 (rowD r) && PyData.canLayAll0 (l.map rowD)) = true
      rw [ih]
      unfold rowD
      rw [PyData.canLay0, lay_ints]
      rfl
  have h2 : ∀ l : List (List Int), PyData.depthAll (l.map rowD) ≤ 1 := fun l => by
    induction l with
    | nil => simp [PyData.depthAll]
    | cons r l ih =>
      show PyData.depthAll (rowD r :: l.map rowD) ≤ 1
      rw [PyData.depthAll]
      unfold rowD at *
      rw [PyData.depth, depth_ints]
      omega
  show (PyData.canLay0 (.list (rows.map rowD)) && decide (PyData.depth (.list (rows.map rowD)) ≤ 64)) = true
  rw [Bool.and_eq_true]
  have := h2 rows
  exact ⟨by rw [PyData.canLay0]; exact h1 rows, decide_eq_true (by rw [PyData.depth]; omega)⟩
end My

namespace My
open PySem PySem.Spec PyProof.Rows L2 Pre
/-! ### min and max of a list of pairs of whole numbers -/
def pairD (p : Int × Int) : PyData := .tuple [.int p.1, .int p.2]
def ltP2 (p q : Int × Int) : Prop := p.1 < q.1 ∨ (p.1 = q.1 ∧ p.2 < q.2)
instance (p q : Int × Int) : Decidable (ltP2 p q) := by unfold ltP2; infer_instance
theorem pair_lt (p q : Int × Int) : PySem.W.dataLt (pairD p) (pairD q) = decide (ltP2 p q) := PySem.W.dataLt_ii p.1 p.2 q.1 q.2
theorem ltP2_trans {p q r : Int × Int} (h : ¬ ltP2 q p) (k : ¬ ltP2 r q) : ¬ ltP2 r p := by
  unfold ltP2 at *
  omega
def minP (p : Int × Int) (ps : List (Int × Int)) : Int × Int := ps.foldl (fun a y => if ltP2 y a then y else a) p
def maxP (p : Int × Int) (ps : List (Int × Int)) : Int × Int := ps.foldl (fun a y => if ltP2 a y then y else a) p
theorem minP_data : ∀ (ps : List (Int × Int)) (p : Int × Int), PySem.W.minD (pairD p) (ps.map pairD) = pairD (minP p ps)
  | [], _ => rfl
  | q :: ps, p => by
    show PySem.W.minD (if PySem.W.dataLt (pairD q) (pairD p) = true then pairD q else pairD p) (ps.map pairD) = pairD (minP (if ltP2 q p then q else p) ps)
    rw [pair_lt]
    by_cases h : ltP2 q p
    · rw [decide_eq_true h, if_pos rfl, if_pos h, minP_data ps q]
    · rw [decide_eq_false h, if_neg (by decide), if_neg h, minP_data ps p]
theorem maxP_data : ∀ (ps : List (Int × Int)) (p : Int × Int), PySem.W.maxD (pairD p) (ps.map pairD) = pairD (maxP p ps)
  | [], _ => rfl
  | q :: ps, p => by
    show PySem.W.maxD (if PySem.W.dataLt (pairD p) (pairD q) = true then pairD q else pairD p) (ps.map pairD) = pairD (maxP (if ltP2 p q then q else p) ps)
    rw [pair_lt]
    by_cases h : ltP2 p q
    · rw [decide_eq_true h, if_pos rfl, if_pos h, maxP_data ps q]
    · rw [decide_eq_false h, if_neg (by decide), if_neg h, maxP_data ps p]
theorem minP_spec : ∀ (ps : List (Int × Int)) (p : Int × Int), minP p ps ∈ p :: ps ∧ ∀ q ∈ p :: ps, ¬ ltP2 q (minP p ps)
  | [], p => ⟨List.mem_cons_self, fun q hq => by
      rw [List.mem_singleton.mp hq]
      show ¬ ltP2 p p
      unfold ltP2
      omega⟩
  | r :: ps, p => by
    show minP (if ltP2 r p then r else p) ps ∈ _ ∧ ∀ q ∈ p :: r :: ps, ¬ ltP2 q (minP (if ltP2 r p then r else p) ps)
    by_cases h : ltP2 r p
    · rw [if_pos h]
      obtain ⟨h1, h2⟩ := minP_spec ps r
      refine ⟨List.mem_cons_of_mem _ h1, fun q hq => ?_⟩
      rcases List.mem_cons.mp hq with rfl | hq
      · have := h2 r List.mem_cons_self
        exact fun z => this (by unfold ltP2 at *; omega)
      · exact h2 q hq
    · rw [if_neg h]
      obtain ⟨h1, h2⟩ := minP_spec ps p
      refine ⟨?_, fun q hq => ?_⟩
      · rcases List.mem_cons.mp h1 with e | e
        · rw [e]; exact List.mem_cons_self
        · exact List.mem_cons_of_mem _ (List.mem_cons_of_mem _ e)
      · rcases List.mem_cons.mp hq with rfl | hq
        · exact h2 q List.mem_cons_self
        · rcases List.mem_cons.mp hq with rfl | hq
          · have := h2 p List.mem_cons_self
            exact fun z => this (by unfold ltP2 at *; omega)
          · exact h2 q (List.mem_cons_of_mem _ hq)
theorem maxP_spec : ∀ (ps : List (Int × Int)) (p : Int × Int), maxP p ps ∈ p :: ps ∧ ∀ q ∈ p :: ps, ¬ ltP2 (maxP p ps) q
  | [], p => ⟨List.mem_cons_self, fun q hq => by
      rw [List.mem_singleton.mp hq]
      show ¬ ltP2 p p
      unfold ltP2
      omega⟩
  | r :: ps, p => by
    show maxP (if ltP2 p r then r else p) ps ∈ _ ∧ ∀ q ∈ p :: r :: ps, ¬ ltP2 (maxP (if ltP2 p r then r else p) ps) q
    by_cases h : ltP2 p r
    · rw [if_pos h]
      obtain ⟨h1, h2⟩ := maxP_spec ps r
      refine ⟨List.mem_cons_of_mem _ h1, fun q hq => ?_⟩
      rcases List.mem_cons.mp hq with rfl | hq
      · have := h2 r List.mem_cons_self
        exact fun z => this (by unfold ltP2 at *; omega)
      · exact h2 q hq
    · rw [if_neg h]
      obtain ⟨h1, h2⟩ := maxP_spec ps p
      refine ⟨?_, fun q hq => ?_⟩
      · rcases List.mem_cons.mp h1 with e | e
        · rw [e]; exact List.mem_cons_self
        · exact List.mem_cons_of_mem _ (List.mem_cons_of_mem _ e)
      · rcases List.mem_cons.mp hq with rfl | hq
        · exact h2 q List.mem_cons_self
        · rcases List.mem_cons.mp hq with rfl | hq
          · have := h2 p List.mem_cons_self
            exact fun z => this (by unfold ltP2 at *; omega)
          · exact h2 q (List.mem_cons_of_mem _ hq)
theorem pairs_alike (ps : List (Int × Int)) : PySem.W.AlikeAll (ps.map pairD) := by
  refine ⟨fun x hx y hy => ?_, fun x hx => ?_⟩
  · obtain ⟨p, _, rfl⟩ := List.mem_map.mp hx
    obtain ⟨q, _, rfl⟩ := List.mem_map.mp hy
    rfl
  · obtain ⟨p, _, rfl⟩ := List.mem_map.mp hx
    exact fun z => nomatch z
theorem pairs_lay : ∀ ps : List (Int × Int), PyData.canLayAll0 (ps.map pairD) = true
  | [] => rfl
  | p :: ps => by simp [PyData.canLayAll0, PyData.canLay0, pairD, pairs_lay ps]
theorem pairs_depth : ∀ ps : List (Int × Int), PyData.depthAll (ps.map pairD) ≤ 2
  | [] => by simp [PyData.depthAll]
  | p :: ps => by
    have := pairs_depth ps
    simp only [List.map_cons, PyData.depthAll, pairD, PyData.depth]
    omega
/-- a list of pairs, at a -/
def PairsAt (K : PySem.W.Frag) (H : Hp) (a : Addr) (ps : List (Int × Int)) : Prop := ∃ as : List Addr, SqL K H a (as.map V.ref) ∧ as.length = ps.length ∧ ∀ (i : Nat) (t : Addr) (p : Int × Int), as[i]? = some t → ps[i]? = some p → SqT K H t [.int p.1, .int p.2]
theorem pairs_dp {K : PySem.W.Frag} {H : Hp} : ∀ {as : List Addr} {ps : List (Int × Int)}, as.length = ps.length → (∀ (i : Nat) (t : Addr) (p : Int × Int), as[i]? = some t → ps[i]? = some p → SqT K H t [.int p.1, .int p.2]) → DpAll K H (as.map V.ref) (ps.map pairD)
  | [], [], _, _ => .nil
  | [], _ :: _, h, _ => by simp at h
  | _ :: _, [], h, _ => by simp at h
  | a :: as, p :: ps, h, k => .cons (.tup (k 0 a p rfl rfl) (.cons (.int _) (.cons (.int _) .nil))) (pairs_dp (by simpa using h) fun i t q ht hq => k (i + 1) t q (by simpa using ht) (by simpa using hq))
def rMnP (K : PySem.W.Frag) (best : Int × Int → List (Int × Int) → Int × Int) : List V → Hp → VK → Prop := fun xs H Q => ∃ (a : Addr) (p : Int × Int) (ps : List (Int × Int)), xs = [.ref a] ∧ PairsAt K H a (p :: ps) ∧ ∀ t, SqT K H t [.int (best p ps).1, .int (best p ps).2] → Q (.ref t) H
section
variable {X : Cx} {K : PySem.W.Frag}
theorem pick {H : Hp} {s : Shared} {as : List Addr} {ps : List (Int × Int)} {its : List Value} {i : Nat} {v : Value} {h' : Heap} {bs cs : List Addr} {b : Int × Int} (hl : as.length = ps.length)
    (hT : ∀ (i : Nat) (t : Addr) (p : Int × Int), as[i]? = some t → ps[i]? = some p → SqT K H t [.int p.1, .int p.2]) (rv : Vals (as.map V.ref) its) (hr : ReadsAll s.heap its (ps.map pairD) cs) (hv : its.toArray[i]? = some v) (rd : Reads h' v (pairD b) bs)
    (hk : ∀ b o, s.heap.get? b = some o → h'.get? b = some o) : ∃ t, v = .ref t ∧ SqT K H t [.int b.1, .int b.2] := by
  have hv' : its[i]? = some v := by simpa using hv
  have hil : i < its.length := (List.getElem?_eq_some_iff.mp hv').1
  have hvl := rv.length
  rw [List.length_map] at hvl
  obtain ⟨u, hu, ru⟩ := rv.get (show (as.map V.ref)[i]? = some (.ref (as[i]'(by omega))) by rw [List.getElem?_map, List.getElem?_eq_getElem (by omega)]; rfl)
  rw [hv'] at hu
  cases hu
  have hp : ps[i]? = some (ps[i]'(by omega)) := List.getElem?_eq_getElem (by omega)
  obtain ⟨ds, r1, _, _, _⟩ := PySem.W.readsAll_at hr i v hv'
  have e1 : (ps.map pairD).getD i .none = pairD (ps[i]'(by omega)) := by
    rw [List.getD_eq_getElem?_getD, List.getElem?_map, hp]
    rfl
  rw [e1] at r1
  have e2 := PySem.SeqAt.Reads.unique (pairD b) _ v _ _ (by simp [pairD, PyData.canLay0, PyData.canLayAll0]) rd (Reads.keeps hk r1)
  have e3 : b = ps[i]'(by omega) := by
    unfold pairD at e2
    injection e2 with e2
    injection e2 with e4 e5
    injection e5 with e5 _
    injection e4 with e4
    injection e5 with e5
    exact Prod.ext e4 e5
  refine ⟨as[i]'(by omega), ru, ?_⟩
  rw [e3]
  exact hT i _ _ (List.getElem?_eq_getElem (by omega)) hp
theorem k_minP (K : PySem.W.Frag) (h : X.K = K) (hc : X.calm = true) (hu : X.A.units + 65 < cLine) : CallR X (.builtin "min") (rMnP K minP) := by
  subst h
  intro pins s σ H xs us Q I r h
  obtain ⟨a, p, ps, rfl, ⟨as, hS, hl, hT⟩, q⟩ := h
  obtain ⟨its, rv, hL, _⟩ := I.list hS
  rw [Vals.ref1 r]
  obtain ⟨cs, hr⟩ := Dp.readsAll I _ _ its (pairs_dp hl hT) rv
  have hd := pairs_depth (p :: ps)
  refine PySem.W.min_list_data (I.ok.hd hc) hL.isList (show ReadsAll s.heap its.toArray.toList (pairD p :: ps.map pairD) cs by simpa using hr) (pairs_alike (p :: ps)) (by rw [List.map_cons] at hd; omega) fun i v h' tk bs hv rd hk => ?_
  rw [minP_data] at rd
  obtain ⟨t, rfl, ht⟩ := pick hl hT rv hr hv rd hk
  exact ⟨.ref t, H, I.kept hk, rfl, q t ht⟩
theorem k_maxP (K : PySem.W.Frag) (h : X.K = K) (hc : X.calm = true) (hu : X.A.units + 65 < cLine) : CallR X (.builtin "max") (rMnP K maxP) := by
  subst h
  intro pins s σ H xs us Q I r h
  obtain ⟨a, p, ps, rfl, ⟨as, hS, hl, hT⟩, q⟩ := h
  obtain ⟨its, rv, hL, _⟩ := I.list hS
  rw [Vals.ref1 r]
  obtain ⟨cs, hr⟩ := Dp.readsAll I _ _ its (pairs_dp hl hT) rv
  have hd := pairs_depth (p :: ps)
  refine PySem.W.max_list_data (I.ok.hd hc) hL.isList (show ReadsAll s.heap its.toArray.toList (pairD p :: ps.map pairD) cs by simpa using hr) (pairs_alike (p :: ps)) (by rw [List.map_cons] at hd; omega) fun i v h' tk bs hv rd hk => ?_
  rw [maxP_data] at rd
  obtain ⟨t, rfl, ht⟩ := pick hl hT rv hr hv rd hk
  exact ⟨.ref t, H, I.kept hk, rfl, q t ht⟩
theorem huM {k : Nat} {A : Around} (r : Room k A) : A.units + 65 < cLine := by have := r.un; omega
end
end My

namespace My
open PySem PySem.Spec PyProof.Rows L2 Pre
/-! ### data in a heap: what is told of a value by lists and tuples that stand there (none of them frozen) -/
mutual
inductive Dt (H : Hp) : V → PyData → Prop
  | non : Dt H .non .none
  | bl (b : Bool) : Dt H (.bl b) (.bool b)
  | int (n : Int) : Dt H (.int n) (.int n)
  | str (x : Str) : Dt H (.str x) (.str x)
  | lst {a : Addr} {xs : List V} {ds : List PyData} : H a = some (.lst xs) → DtA H xs ds → Dt H (.ref a) (.list ds)
  | tup {a : Addr} {xs : List V} {ds : List PyData} : H a = some (.tup xs) → DtA H xs ds → Dt H (.ref a) (.tuple ds)
inductive DtA (H : Hp) : List V → List PyData → Prop
  | nil : DtA H [] []
  | cons {v : V} {vs : List V} {d : PyData} {ds : List PyData} : Dt H v d → DtA H vs ds → DtA H (v :: vs) (d :: ds)
end
mutual
theorem Dt.same {H H' : Hp} (s : Same H H') : ∀ {d : PyData} {v : V}, Dt H v d → Dt H' v d
  | .none, _, h => by cases h; exact .non
  | .bool _, _, h => by cases h; exact .bl _
  | .int _, _, h => by cases h; exact .int _
  | .str _, _, h => by cases h; exact .str _
  | .list _, _, h => by cases h with | lst a b => exact .lst (s _ _ a) (DtA.same s b)
  | .tuple _, _, h => by cases h with | tup a b => exact .tup (s _ _ a) (DtA.same s b)
  | .dict _, _, h => nomatch h
theorem DtA.same {H H' : Hp} (s : Same H H') : ∀ {ds : List PyData} {vs : List V}, DtA H vs ds → DtA H' vs ds
  | [], _, h => by cases h; exact .nil
  | _ :: _, _, h => by cases h with | cons a b => exact .cons (Dt.same s a) (DtA.same s b)
end
mutual
theorem Dt.dp {K : PySem.W.Frag} {H : Hp} : ∀ {d : PyData} {v : V}, Dt H v d → Dp K H v d
  | .none, _, h => by cases h; exact .non
  | .bool _, _, h => by cases h; exact .bl _
  | .int _, _, h => by cases h; exact .int _
  | .str _, _, h => by cases h; exact .str _
  | .list _, _, h => by cases h with | lst a b => exact .lst (.inl (.inl a)) (DtA.dp b)
  | .tuple _, _, h => by cases h with | tup a b => exact .tup (.inl (.inl a)) (DtA.dp b)
  | .dict _, _, h => nomatch h
theorem DtA.dp {K : PySem.W.Frag} {H : Hp} : ∀ {ds : List PyData} {vs : List V}, DtA H vs ds → DpAll K H vs ds
  | [], _, h => by cases h; exact .nil
  | _ :: _, _, h => by cases h with | cons a b => exact .cons (Dt.dp a) (DtA.dp b)
end
theorem DtA.len {H : Hp} : ∀ {ds : List PyData} {vs : List V}, DtA H vs ds → vs.length = ds.length
  | [], _, h => by cases h; rfl
  | _ :: _, _, h => by cases h with | cons a b => rw [List.length_cons, List.length_cons, DtA.len b]
theorem DtA.app {H : Hp} : ∀ {ds : List PyData} {vs : List V} {es : List PyData} {us : List V}, DtA H vs ds → DtA H us es → DtA H (vs ++ us) (ds ++ es)
  | [], _, _, _, h, k => by cases h; exact k
  | _ :: _, _, _, _, h, k => by cases h with | cons a b => exact .cons a (DtA.app b k)
theorem DtA.get {H : Hp} : ∀ {ds : List PyData} {vs : List V} {i : Nat} {d : PyData}, DtA H vs ds → ds[i]? = some d → ∃ v, vs[i]? = some v ∧ Dt H v d
  | [], _, _, _, _, k => by simp at k
  | _ :: _, _, 0, _, h, k => by
    cases h with
    | cons a b => rw [List.getElem?_cons_zero] at k; cases k; exact ⟨_, rfl, a⟩
  | _ :: _, _, i + 1, _, h, k => by
    cases h with
    | cons a b => rw [List.getElem?_cons_succ] at k; rw [List.getElem?_cons_succ]; exact DtA.get b k
theorem DtA.got {H : Hp} {ds : List PyData} {vs : List V} {i : Nat} {v : V} (h : DtA H vs ds) (k : vs[i]? = some v) : ∃ d, ds[i]? = some d ∧ Dt H v d := by
  have hi := (List.getElem?_eq_some_iff.mp k).1
  have hl := h.len
  obtain ⟨u, hu, d⟩ := h.get (List.getElem?_eq_getElem (show i < ds.length by omega))
  rw [k] at hu
  cases hu
  exact ⟨_, List.getElem?_eq_getElem (by omega), d⟩
theorem DtA.take {H : Hp} : ∀ {ds : List PyData} {vs : List V} (n : Nat), DtA H vs ds → DtA H (vs.take n) (ds.take n)
  | _, _, 0, _ => .nil
  | [], _, _ + 1, h => by cases h; exact .nil
  | _ :: _, _, n + 1, h => by cases h with | cons a b => exact .cons a (DtA.take n b)
theorem DtA.drop {H : Hp} : ∀ {ds : List PyData} {vs : List V} (n : Nat), DtA H vs ds → DtA H (vs.drop n) (ds.drop n)
  | _, _, 0, h => h
  | [], _, _ + 1, h => by cases h; exact .nil
  | _ :: _, _, n + 1, h => by cases h with | cons a b => exact DtA.drop n b
theorem DtA.rev {H : Hp} : ∀ {ds : List PyData} {vs : List V}, DtA H vs ds → DtA H vs.reverse ds.reverse
  | [], _, h => by cases h; exact .nil
  | _ :: _, _, h => by
    cases h with
    | cons a b => rw [List.reverse_cons, List.reverse_cons]; exact DtA.app (DtA.rev b) (.cons a .nil)
theorem DtA.ints {H : Hp} : ∀ ns : List Int, DtA H (ns.map V.int) (ns.map PyData.int)
  | [] => .nil
  | n :: r => .cons (.int n) (DtA.ints r)
theorem DtA.intsE {H : Hp} : ∀ {ns : List Int} {vs : List V}, DtA H vs (ns.map PyData.int) → vs = ns.map V.int
  | [], _, h => by cases h; rfl
  | n :: r, _, h => by
    cases h with
    | cons a b => cases a; rw [DtA.intsE b]; rfl
/-- a list of whole numbers -/
theorem Dt.ints {H : Hp} {a : Addr} {ns : List Int} (h : H a = some (.lst (ns.map V.int))) : Dt H (.ref a) (rowD ns) := .lst h (DtA.ints ns)
theorem Dt.intsE {H : Hp} {v : V} {ns : List Int} (h : Dt H v (rowD ns)) : ∃ a, v = .ref a ∧ H a = some (.lst (ns.map V.int)) := by
  unfold rowD at h
  cases h with
  | lst a b => rw [DtA.intsE b] at a; exact ⟨_, rfl, a⟩
theorem Dt.listE {H : Hp} {v : V} {ds : List PyData} (h : Dt H v (.list ds)) : ∃ a xs, v = .ref a ∧ H a = some (.lst xs) ∧ DtA H xs ds := by
  cases h with
  | lst a b => exact ⟨_, _, rfl, a, b⟩
theorem Dt.tupE {H : Hp} {v : V} {ds : List PyData} (h : Dt H v (.tuple ds)) : ∃ a xs, v = .ref a ∧ H a = some (.tup xs) ∧ DtA H xs ds := by
  cases h with
  | tup a b => exact ⟨_, _, rfl, a, b⟩
/-! ### what is owned (and changes) is left out -/
def rs (S : List Addr) (H : Hp) : Hp := fun a => if a ∈ S then none else H a
theorem rs_nil (H : Hp) : rs [] H = H := by funext a; simp [rs]
theorem rs_in {S : List Addr} {H : Hp} {a : Addr} (h : a ∈ S) : rs S H a = none := if_pos h
theorem rs_out {S : List Addr} {H : Hp} {a : Addr} (h : a ∉ S) : rs S H a = H a := if_neg h
theorem rs_some {S : List Addr} {H : Hp} {a : Addr} {o : HO} (h : rs S H a = some o) : a ∉ S ∧ H a = some o := by
  by_cases m : a ∈ S
  · rw [rs_in m] at h; cases h
  · rw [rs_out m] at h; exact ⟨m, h⟩
theorem rs_le {S : List Addr} {H : Hp} : Same (rs S H) H := fun _ _ h => (rs_some h).2
theorem rs_same {S : List Addr} {H H' : Hp} (s : Same H H') : Same (rs S H) (rs S H') := fun b o h => by
  obtain ⟨m, e⟩ := rs_some h
  rw [rs_out m]
  exact s b o e
theorem rs_upd {S : List Addr} {H : Hp} {p : Addr} {o : HO} (h : p ∈ S) : rs S (L2.upd H p o) = rs S H := by
  funext a
  by_cases m : a ∈ S
  · rw [rs_in m, rs_in m]
  · rw [rs_out m, rs_out m, upd_ne (fun e => m (by rw [e]; exact h))]
/-- all of them stand -/
def Has (S : List Addr) (H : Hp) : Prop := ∀ a ∈ S, ∃ o, H a = some o
theorem Has.nil {H : Hp} : Has [] H := fun _ h => nomatch h
theorem Has.same {S : List Addr} {H H' : Hp} (h : Has S H) (s : Same H H') : Has S H' := fun a m => by
  obtain ⟨o, e⟩ := h a m
  exact ⟨o, s a o e⟩
theorem Has.cons {S : List Addr} {H : Hp} {p : Addr} {o : HO} (h : Has S H) (e : H p = some o) : Has (p :: S) H := fun a m => by
  rcases List.mem_cons.mp m with rfl | m
  · exact ⟨o, e⟩
  · exact h a m
theorem Has.upd {S : List Addr} {H : Hp} {p : Addr} {o : HO} (h : Has S H) : Has S (L2.upd H p o) := fun a m => by
  by_cases e : a = p
  · subst e; exact ⟨o, upd_same⟩
  · rw [upd_ne e]; exact h a m
theorem Has.out {S : List Addr} {H : Hp} {p : Addr} (h : Has S H) (n : H p = none) : p ∉ S := fun m => by
  obtain ⟨o, e⟩ := h p m
  rw [n] at e
  cases e
theorem GenAt.has {H : Hp} {g : Addr} {n : Nat} (h : GenAt H g n) : Has [g] H := by
  obtain ⟨x, y, z, e, _⟩ := h
  exact Has.nil.cons e
/-- all but what is owned stays -/
def Sta (S : List Addr) (H H' : Hp) : Prop := Same (rs S H) (rs S H')
theorem Sta.of {S : List Addr} {H H' : Hp} (s : Same H H') : Sta S H H' := rs_same s
theorem Sta.trans {S : List Addr} {H H1 H2 : Hp} (a : Sta S H H1) (b : Sta S H1 H2) : Sta S H H2 := fun c o h => b c o (a c o h)
theorem Sta.at_ {S : List Addr} {H H' : Hp} (s : Sta S H H') {a : Addr} {o : HO} (m : a ∉ S) (h : H a = some o) : H' a = some o := (rs_some (s a o (by rw [rs_out m]; exact h))).2
theorem Sta.upd {S : List Addr} {H : Hp} {p : Addr} {o : HO} (h : p ∈ S) : Sta S H (L2.upd H p o) := fun c u e => by rw [rs_upd h]; exact e
theorem Sta.more {S : List Addr} {H H' : Hp} {p : Addr} (s : Sta S H H') : Sta (p :: S) H H' := fun c o h => by
  obtain ⟨m, e⟩ := rs_some h
  have m2 : c ∉ S := fun z => m (List.mem_cons_of_mem _ z)
  rw [rs_out m]
  exact s.at_ m2 e
theorem But.sta {g : Addr} {H H' : Hp} (b : But g H H') : Sta [g] H H' := fun c o h => by
  obtain ⟨m, e⟩ := rs_some h
  rw [rs_out m]
  exact b c o (fun z => m (by rw [z]; exact List.mem_cons_self)) e
/-- what was there ahead of a new thing does not speak of it -/
theorem under {S : List Addr} {H H' : Hp} {p : Addr} (n : H p = none) (s : Same H H') : Same (rs S H) (rs (p :: S) H') := fun c o h => by
  obtain ⟨m, e⟩ := rs_some h
  rw [rs_out (fun z => by
    rcases List.mem_cons.mp z with rfl | z
    · rw [n] at e; cases e
    · exact m z)]
  exact s c o e
theorem over {S : List Addr} {H : Hp} {p : Addr} : Same (rs (p :: S) H) (rs S H) := fun c o h => by
  obtain ⟨m, e⟩ := rs_some h
  rw [rs_out (fun z => m (List.mem_cons_of_mem _ z))]
  exact e
/-! ### a new list, a new tuple, a sum of lists -/
theorem dt_new {S : List Addr} {H : Hp} {p : Addr} {xs : List V} {ds : List PyData} (hS : Has S H) (n : H p = none) (h : DtA (rs S H) xs ds) : Dt (rs S (upd H p (.lst xs))) (.ref p) (.list ds) :=
  .lst (by rw [rs_out (hS.out n)]; exact upd_same) (h.same (rs_same (same_upd n)))
theorem dt_newT {S : List Addr} {H : Hp} {p : Addr} {xs : List V} {ds : List PyData} (hS : Has S H) (n : H p = none) (h : DtA (rs S H) xs ds) : Dt (rs S (upd H p (.tup xs))) (.ref p) (.tuple ds) :=
  .tup (by rw [rs_out (hS.out n)]; exact upd_same) (h.same (rs_same (same_upd n)))
theorem d_lst {S : List Addr} {H : Hp} {xs : List V} {ds : List PyData} {Q : VK} (hS : Has S H) (h : DtA (rs S H) xs ds) (hz : xs.length ≤ sizeLine) (k : ∀ p H', Same H H' → H p = none → H' p = some (.lst xs) → Dt (rs S H') (.ref p) (.list ds) → Q (.ref p) H') : xs.length ≤ sizeLine ∧ ∀ p, H p = none → Q (.ref p) (upd H p (.lst xs)) :=
  ⟨hz, fun p n => k p _ (same_upd n) n upd_same (dt_new hS n h)⟩
theorem d_tup {S : List Addr} {H : Hp} {xs : List V} {ds : List PyData} {Q : VK} (hS : Has S H) (h : DtA (rs S H) xs ds) (hz : xs.length ≤ sizeLine) (k : ∀ p H', Same H H' → H p = none → H' p = some (.tup xs) → Dt (rs S H') (.ref p) (.tuple ds) → Q (.ref p) H') : xs.length ≤ sizeLine ∧ ∀ p, H p = none → Q (.ref p) (upd H p (.tup xs)) :=
  ⟨hz, fun p n => k p _ (same_upd n) n upd_same (dt_newT hS n h)⟩
theorem d_cat {S : List Addr} {H : Hp} {v w : V} {ds es : List PyData} {Q : VK} (hS : Has S H) (hv : Dt (rs S H) v (.list ds)) (hw : Dt (rs S H) w (.list es)) (hz : ds.length + es.length ≤ sizeLine) (k : ∀ p H', Same H H' → H p = none → Dt (rs S H') (.ref p) (.list (ds ++ es)) → Q (.ref p) H') : rCat v w H Q := by
  obtain ⟨a, xs, rfl, ha, hx⟩ := hv.listE
  obtain ⟨b, ys, rfl, hb, hy⟩ := hw.listE
  exact ⟨a, b, xs, ys, rfl, rfl, (rs_some ha).2, (rs_some hb).2, by rw [hx.len, hy.len]; exact hz, fun p n => k p _ (same_upd n) n (dt_new hS n (hx.app hy))⟩
theorem d_eq {K : PySem.W.Frag} {H : Hp} {v w : V} {d e : PyData} {Q : VK} (hv : Dt H v d) (hw : Dt H w e) (sd : SeqAt.shaped d = true) (se : SeqAt.shaped e = true) (q : Q (.bl (PyData.eqv d e)) H) : rEqD K v w H Q := ⟨d, e, hv.dp, hw.dp, sd, se, q⟩
theorem d_ne {K : PySem.W.Frag} {H : Hp} {v w : V} {d e : PyData} {Q : VK} (hv : Dt H v d) (hw : Dt H w e) (sd : SeqAt.shaped d = true) (se : SeqAt.shaped e = true) (q : Q (.bl (!PyData.eqv d e)) H) : rNeD K v w H Q := ⟨d, e, hv.dp, hw.dp, sd, se, q⟩
/-! ### comprehensions -/
/-- what comes of an item: nothing, or data -/
def Out (S : List Addr) (H : Hp) : Option PyData → Option V → Prop
  | some d, some v => Dt (rs S H) v d
  | none, none => True
  | _, _ => False
def accP (S : List Addr) (H1 : Hp) (D : Addr) (ds : List PyData) (H : Hp) : Prop := Same H1 H ∧ ∃ ys, H D = some (.lst ys) ∧ DtA (rs (D :: S) H) ys ds
theorem acc_step {S : List Addr} {H1 : Hp} {D : Addr} {sel : List (Option PyData)} {i : Nat} {o : Option PyData} {H H4 : Hp} (nD : H1 D = none) (ho : sel[i]? = some o) (hz : sel.length < sizeLine) (h : accP S H1 D ((sel.take i).filterMap id) H) (s4 : Same H H4) :
    ∀ y : Option V, Out (D :: S) H4 o y → match y with
      | some v => ∃ acc, H4 D = some (.lst acc) ∧ acc.length < sizeLine ∧ accP S H1 D ((sel.take (i + 1)).filterMap id) (upd H4 D (.lst (acc ++ [v])))
      | none => accP S H1 D ((sel.take (i + 1)).filterMap id) H4 := by
  obtain ⟨s, ys, hD, hy⟩ := h
  intro y hO
  rw [take_fm ho]
  cases o with
  | none =>
    cases y with
    | none => exact ⟨s.trans s4, ys, s4 _ _ hD, by simpa using hy.same (rs_same s4)⟩
    | some v => exact absurd hO (fun z => z)
  | some d =>
    cases y with
    | none => exact absurd hO (fun z => z)
    | some v =>
      refine ⟨ys, s4 _ _ hD, ?_, same_over nD (s.trans s4), ys ++ [v], upd_same, ?_⟩
      · rw [hy.len]
        exact Nat.lt_of_le_of_lt (fm_len sel i) hz
      · rw [rs_upd List.mem_cons_self]
        exact (hy.same (rs_same s4)).app (.cons hO .nil)
theorem acc_end {S : List Addr} {H1 : Hp} {D : Addr} {ds : List PyData} {H : Hp} (hS : Has S H1) (nD : H1 D = none) (h : accP S H1 D ds H) : Dt (rs S H) (.ref D) (.list ds) := by
  obtain ⟨s, ys, hD, hy⟩ := h
  exact .lst (by rw [rs_out (hS.out nD)]; exact hD) (hy.same over)
theorem lc_dR {lo : Int} {n : Nat} {j : Nat} {tt : TT} {te : TE} {vs : List Nat} {σ : L2.St} {H1 : Hp} {D : Addr} {Qd : Hp → Prop} {S : List Addr} (hS : Has S H1) (sel : List (Option PyData)) (nD : H1 D = none) (hlen : sel.length = n) (hz : n < sizeLine)
    (hw : ∀ x, wipe ((wipe σ vs).set j (some x)) vs = wipe σ vs)
    (hs : ∀ (i : Nat) (o : Option PyData) (H' : Hp), i < n → sel[i]? = some o → Same H1 H' → Has (D :: S) H' → ∀ Qt : Option V → Hp → Prop, (∀ y H'', Same H' H'' → Out (D :: S) H'' o y → Qt y H'') →
      tt ((wipe σ vs).set j (some (.int (lo + (i : Int))))) H' fun b H3 => if b = true then te ((wipe σ vs).set j (some (.int (lo + (i : Int))))) H3 fun y H4 => Qt (some y) H4 else Qt none H3)
    (hd : ∀ H', Same H1 H' → H' D ≠ none → Dt (rs S H') (.ref D) (.list (sel.filterMap id)) → Qd H') :
    ∃ W : Nat → Nat → Hp → Prop, (∃ m, W 0 m (upd H1 D (.lst []))) ∧ ∀ i m H, W i m H →
      ((Itr lo n).stop i H ∧ Qd H) ∨ ((Itr lo n).go i H ∧ ∃ Nx : Hp → Prop, (∀ H', Nx H' → ∃ m', m' < m ∧ W (i + 1) m' H') ∧ ∀ x H', (Itr lo n).yld i H x H' → gName j x (wipe σ vs) H' fun σ2 H2 => wipe σ2 vs = wipe σ vs ∧ tt σ2 H2 fun b H3 =>
        if b = true then te σ2 H3 fun y H4 => ∃ acc, H4 D = some (.lst acc) ∧ acc.length < sizeLine ∧ Nx (upd H4 D (.lst (acc ++ [y]))) else Nx H3) := by
  refine lc_range (lo := lo) (n := n) (fun i H => accP S H1 D ((sel.take i).filterMap id) H) ⟨same_upd nD, [], upd_same, .nil⟩ ?_ ?_
  · rintro i H hi h
    refine ⟨hw _, ?_⟩
    have ho : sel[i]? = some (sel[i]'(by omega)) := List.getElem?_eq_getElem (by omega)
    obtain ⟨s, ys, hD, hy⟩ := id h
    exact hs i _ H hi ho s ((hS.same s).cons hD) (fun o H4 => match o with
      | some y => ∃ acc, H4 D = some (.lst acc) ∧ acc.length < sizeLine ∧ accP S H1 D ((sel.take (i + 1)).filterMap id) (upd H4 D (.lst (acc ++ [y])))
      | none => accP S H1 D ((sel.take (i + 1)).filterMap id) H4) fun y H4 s4 hO => acc_step nD ho (by omega) h s4 y hO
  · rintro H h
    rw [← hlen, List.take_length] at h
    refine hd H h.1 ?_ (acc_end hS nD h)
    obtain ⟨_, ys, hD, _⟩ := h
    rw [hD]
    exact fun z => nomatch z
theorem lc_dL {K : PySem.W.Frag} {a : Addr} {xs : List V} {j : Nat} {tt : TT} {te : TE} {vs : List Nat} {σ : L2.St} {H1 : Hp} {D : Addr} {Qd : Hp → Prop} {S : List Addr} (hS : Has S H1) (sel : List (Option PyData)) (nD : H1 D = none) (hA : SqL K H1 a xs) (hlen : sel.length = xs.length) (hz : xs.length < sizeLine)
    (hw : ∀ x, wipe ((wipe σ vs).set j (some x)) vs = wipe σ vs)
    (hs : ∀ (i : Nat) (x : V) (o : Option PyData) (H' : Hp), xs[i]? = some x → sel[i]? = some o → Same H1 H' → Has (D :: S) H' → ∀ Qt : Option V → Hp → Prop, (∀ y H'', Same H' H'' → Out (D :: S) H'' o y → Qt y H'') →
      tt ((wipe σ vs).set j (some x)) H' fun b H3 => if b = true then te ((wipe σ vs).set j (some x)) H3 fun y H4 => Qt (some y) H4 else Qt none H3)
    (hd : ∀ H', Same H1 H' → H' D ≠ none → Dt (rs S H') (.ref D) (.list (sel.filterMap id)) → Qd H') :
    ∃ W : Nat → Nat → Hp → Prop, (∃ m, W 0 m (upd H1 D (.lst []))) ∧ ∀ i m H, W i m H →
      ((Itl K a).stop i H ∧ Qd H) ∨ ((Itl K a).go i H ∧ ∃ Nx : Hp → Prop, (∀ H', Nx H' → ∃ m', m' < m ∧ W (i + 1) m' H') ∧ ∀ x H', (Itl K a).yld i H x H' → gName j x (wipe σ vs) H' fun σ2 H2 => wipe σ2 vs = wipe σ vs ∧ tt σ2 H2 fun b H3 =>
        if b = true then te σ2 H3 fun y H4 => ∃ acc, H4 D = some (.lst acc) ∧ acc.length < sizeLine ∧ Nx (upd H4 D (.lst (acc ++ [y]))) else Nx H3) := by
  refine lc_list (K := K) (a := a) (xs := xs) (fun i H => accP S H1 D ((sel.take i).filterMap id) H) ⟨same_upd nD, [], upd_same, .nil⟩ (fun i H _ p => p.1.seq hA) ?_ ?_
  · rintro i x H hx h
    refine ⟨hw _, ?_⟩
    have hi := (List.getElem?_eq_some_iff.mp hx).1
    have ho : sel[i]? = some (sel[i]'(by omega)) := List.getElem?_eq_getElem (by omega)
    obtain ⟨s, ys, hD, hy⟩ := id h
    exact hs i x _ H hx ho s ((hS.same s).cons hD) (fun o H4 => match o with
      | some y => ∃ acc, H4 D = some (.lst acc) ∧ acc.length < sizeLine ∧ accP S H1 D ((sel.take (i + 1)).filterMap id) (upd H4 D (.lst (acc ++ [y])))
      | none => accP S H1 D ((sel.take (i + 1)).filterMap id) H4) fun y H4 s4 hO => acc_step nD ho (by omega) h s4 y hO
  · rintro H h
    rw [← hlen, List.take_length] at h
    refine hd H h.1 ?_ (acc_end hS nD h)
    obtain ⟨_, ys, hD, _⟩ := h
    rw [hD]
    exact fun z => nomatch z
/-- maps: each item's data -/
theorem sel_map {α : Type} (l : List α) (f : α → PyData) : (l.map fun x => some (f x)).filterMap id = l.map f := by
  induction l with
  | nil => rfl
  | cons x l ih =>
    show f x :: (l.map fun x => some (f x)).filterMap id = _
    rw [ih]
    rfl
/-- over any walk -/
theorem lc_dW {J : It} {n : Nat} {G : Hp → Prop} {Y : Nat → Hp → V → Hp → Prop} (w : Walk J n G Y) {g : TG} {tt : TT} {te : TE} {vs : List Nat} {σ : L2.St} {H1 : Hp} {D : Addr} {Qd : Hp → Prop} {S : List Addr} (hS : Has S H1) (sel : List (Option PyData)) (nD : H1 D = none) (hlen : sel.length = n) (hz : n < sizeLine)
    (hG : ∀ H', Same H1 H' → G H')
    (hs : ∀ (i : Nat) (o : Option PyData) (H0 : Hp) (x : V) (H' : Hp), i < n → sel[i]? = some o → Same H1 H0 → Has (D :: S) H0 → Y i H0 x H' → ∀ Qt : Option V → Hp → Prop, (∀ y H'', Same H0 H'' → Out (D :: S) H'' o y → Qt y H'') →
      g x (wipe σ vs) H' fun σ2 H2 => wipe σ2 vs = wipe σ vs ∧ tt σ2 H2 fun b H3 => if b = true then te σ2 H3 fun y H4 => Qt (some y) H4 else Qt none H3)
    (hd : ∀ H', Same H1 H' → H' D ≠ none → Dt (rs S H') (.ref D) (.list (sel.filterMap id)) → Qd H') :
    ∃ W : Nat → Nat → Hp → Prop, (∃ m, W 0 m (upd H1 D (.lst []))) ∧ ∀ i m H, W i m H →
      (J.stop i H ∧ Qd H) ∨ (J.go i H ∧ ∃ Nx : Hp → Prop, (∀ H', Nx H' → ∃ m', m' < m ∧ W (i + 1) m' H') ∧ ∀ x H', J.yld i H x H' → g x (wipe σ vs) H' fun σ2 H2 => wipe σ2 vs = wipe σ vs ∧ tt σ2 H2 fun b H3 =>
        if b = true then te σ2 H3 fun y H4 => ∃ acc, H4 D = some (.lst acc) ∧ acc.length < sizeLine ∧ Nx (upd H4 D (.lst (acc ++ [y]))) else Nx H3) := by
  refine lc_it w (fun i H => accP S H1 D ((sel.take i).filterMap id) H) ⟨same_upd nD, [], upd_same, .nil⟩ (fun i H _ p => hG H p.1) ?_ ?_
  · rintro i x H H' hi h y
    have ho : sel[i]? = some (sel[i]'(by omega)) := List.getElem?_eq_getElem (by omega)
    obtain ⟨s, ys, hD, hy⟩ := id h
    exact hs i _ H x H' hi ho s ((hS.same s).cons hD) y (fun o H4 => match o with
      | some y => ∃ acc, H4 D = some (.lst acc) ∧ acc.length < sizeLine ∧ accP S H1 D ((sel.take (i + 1)).filterMap id) (upd H4 D (.lst (acc ++ [y])))
      | none => accP S H1 D ((sel.take (i + 1)).filterMap id) H4) fun y H4 s4 hO => acc_step nD ho (by omega) h s4 y hO
  · rintro H h
    rw [← hlen, List.take_length] at h
    refine hd H h.1 ?_ (acc_end hS nD h)
    obtain ⟨_, ys, hD, _⟩ := h
    rw [hD]
    exact fun z => nomatch z
theorem dt_pairs {K : PySem.W.Frag} {H : Hp} {a : Addr} {ps : List (Int × Int)} (h : Dt H (.ref a) (.list (ps.map pairD))) : PairsAt K H a ps := by
  cases h with
  | lst ha hx =>
    rename_i xs
    have key : ∀ (ps : List (Int × Int)) (xs : List V), DtA H xs (ps.map pairD) → ∃ as : List Addr, xs = as.map V.ref ∧ as.length = ps.length ∧ ∀ (i : Nat) (t : Addr) (p : Int × Int), as[i]? = some t → ps[i]? = some p → SqT K H t [.int p.1, .int p.2] := fun ps => by
      induction ps with
      | nil => intro xs h; cases h; exact ⟨[], rfl, rfl, fun i t p ht => by simp at ht⟩
      | cons p ps ih =>
        intro xs h
        cases h with
        | cons b c =>
          obtain ⟨as, rfl, hl, k⟩ := ih _ c
          obtain ⟨t, ys, rfl, ht, hy⟩ := (show Dt H _ (.tuple [.int p.1, .int p.2]) from b).tupE
          rw [DtA.intsE (ns := [p.1, p.2]) hy] at ht
          refine ⟨t :: as, rfl, by rw [List.length_cons, List.length_cons, hl], fun i u q hu hq => ?_⟩
          cases i with
          | zero =>
            rw [List.getElem?_cons_zero] at hu hq
            cases hu
            cases hq
            exact .inl (.inl ht)
          | succ i =>
            rw [List.getElem?_cons_succ] at hu hq
            exact k i u q hu hq
    obtain ⟨as, rfl, hl, k⟩ := key ps xs hx
    exact ⟨as, .inl (.inl ha), hl, k⟩
end My

namespace My
open PySem PySem.Spec PyProof.Rows L2 Pre
/-! ### promises for callers that stand in no repr: within them repr of lists shows its items -/
structure FnG (P : Program) (w : World) (K : PySem.W.Frag) (mg : Str → Option Value) (base : Heap) (CX : CXT) (k : Nat) (f : Addr) (fd : FuncData) (ps : List Str) (sp : Sp) : Prop where
  many : ∀ xs H Q E, sp xs H Q E → xs.length = ps.length
  does : ∀ (A : Around), A.guards = some [] → Room k A → ∀ (fr : List Env) (t : Shared) (H : Hp), Env0 P w K mg base A fr t H → ∀ (ar : Args) (us : List Value) (xs : List V), BindsTo t fd ar (ps.zip us) → Vals xs us →
    ∀ (Q : VK) (E : XK), sp xs H Q E → codeAny (model P w) A (.call (.ref f) ar) (CR CX fr P w H t Q E) t
section
variable {P : Program} {w : World} {K : PySem.W.Frag} {mg : Str → Option Value} {base : Heap} {CX : CXT} {k : Nat} {f : Addr} {fd : FuncData} {ps : List Str} {sp : Sp}
theorem FnG.of (F : FnOk P w K mg base CX k f fd ps sp) : FnG P w K mg base CX k f fd ps sp :=
  ⟨F.len, fun A _ hr fr t H e ar us xs b v Q E h => F.run A fr t H ar us xs Q E hr e b v h⟩
/-- a body makes a promise -/
theorem FnG.body {x qual : Str} {pr : Arguments} {bd : List Stmt} {sc : Scope} {dvs : List V} {kws : List (Str × V)} {N : List Str} (F : FunD K x qual pr bd sc dvs kws f fd) (S : FnScope N ps sc) (hm : ∀ xs H Q E, sp xs H Q E → xs.length = ps.length)
    (go : ∀ (cv : Value) (A : Around) (fr : List Env) (t : Shared) (H : Hp) (xs : List V) (Q : VK) (E : XK), A.guards = some [] → Room k (A.deeper (envOfC qual sc t.heap.objs.size f cv)) → sp xs H Q E →
      ∃ τ, PSs (cxOf CX P w K mg base N qual sc f cv A fr t H E) bd τ ∧ τ { nx := fun _ H1 => Q .non H1, rt := Q } (start N xs) H) : FnG P w K mg base CX (k + 1) f fd ps sp := by
  obtain ⟨c0, d0, dv, kv, dc, pm, an, cv, ct, sl, rfl, lk, hcode, _, _⟩ := F.ex
  refine ⟨hm, fun A gd hr fr t H e0 ar us xs hb rv Q E hs => ?_⟩
  have hin : K.In t.heap := e0.mod.kin.keeps fun b o z => (e0.bs b o z).1
  have hno : t.heap.NoLimit := e0.mod.nolimit.keeps fun b o z => (e0.bs b o z).1
  refine codeAny_call_function hr.depth (hin _ _ lk) rfl S.co S.gen rfl (PySem.W.codeRec_of hin hcode) (hb _ _ _ _ ?_)
  refine wpAny_newFunctionEnv_cells S.kind (fun y hy => ?_) fun env he t1 hx => ?_
  · obtain ⟨n, u⟩ := y
    rcases S.par n (List.of_mem_zip hy).1 with z | z
    · exact Or.inl z
    · exact Or.inr ⟨z, PySem.W.cellsFrom_some _ _ _ (Or.inl z)⟩
  · subst he
    refine ⟨hno.keeps hx.toInCall.keep, codeAny_func ?_⟩
    obtain ⟨τ, hτ, hq⟩ := go cv A fr t H xs Q E gd (hr.deeper _) hs
    have J := inv_start (CX := CX) (E := E) S hr.hd e0 (hm _ _ _ _ hs) rv hx
    refine wpAny_mono (hτ.run [] t1 (start N xs) H _ J hq) (fun fl t2 h2 => ?_) fun _ _ z => z
    cases fl with
    | brk => exact False.elim h2.choose_spec.choose_spec.2
    | cont => exact False.elim h2.choose_spec.choose_spec.2
    | next =>
      obtain ⟨σ2, H2, J2, q2⟩ := h2
      exact ⟨V.non, H2, J2.os, J2.bare, J2.base, J2.hok, rfl, q2⟩
    | ret u =>
      obtain ⟨v2, σ2, H2, J2, r2, q2⟩ := h2
      exact ⟨v2, H2, J2.os, J2.bare, J2.base, J2.hok, r2, q2⟩
end
section
variable {X : Cx} {CX : CXT} {k : Nat} {f : Addr} {fd : FuncData} {ps : List Str} {sp : Sp} {dvs : List V} {ds : List Value} {E : XK} {x : Str} {p pos : Pos} {e : Expr} {es : List Expr} {t : TA}
theorem go_g {pins : List (Addr × Obj)} {σ : L2.St} {H : Hp} {s : Shared} {Q : VK} {us : List Value} {xs : List V} (F : FnG X.prog X.w X.K X.mg X.base CX k f fd ps sp) (gd : X.A.guards = some []) (hr : Room k X.A) (hb : Binds X.K fd ps ds) (hd : Vals dvs ds)
    (hx : Passes CX X E) (I : Inv X pins σ H s) (r : Vals xs us) (h : sp (xs ++ dvs) H Q E) : wpAny (model X.prog X.w) X.A (call (.ref f) us) (EP X pins σ Q) X.xe s := by
  have rr := Vals.append r hd
  refine wpAny_call (codeAny_mono (F.does X.A gd hr X.stack s H I.env0 ⟨us, []⟩ (us ++ ds) (xs ++ dvs) (hb s us I.kIn (by rw [← rr.length]; exact F.many _ _ _ _ h)) rr Q E h) fun z s2 hz => ?_)
  match z, hz with
  | .error e, hz => exact hx pins σ H s e s2 I hz
  | .ok (.ret u), hz => exact I.after hz
theorem pe_callG (F : FnG X.prog X.w X.K X.mg X.base CX k f fd ps sp) (gd : X.A.guards = some []) (hr : Room k X.A) (hg : Gl X x) (hm : X.mg x = some (.ref f)) (hk : PySem.W.keepIn X.K (.ref f) = true) (hb : Binds X.K fd ps ds) (hd : Vals dvs ds) (hx : Passes CX X E)
    (ha : PA X (e :: es) t) (hdb : (x == ("__debug__" : Str)) = false := by decide) (he : starEach (e :: es) X.env = (false, eval e X.env) :: starEach es X.env := by rfl) (hpl : (backTo pos (starEach es X.env)).any (·.1) = false := by rfl) :
    PE X (.Call (.Name x p) (e :: es) [] pos) (tCall sp dvs E t) :=
  ⟨fun pins s σ H Q I h => wpAny_Call_Name_kw (ld_glob I hg hm (PySem.W.callWith_K (h₀ := X.base) I.ok.mod.kin hk (thn (ha.run pos pins s σ H _ I h) fun us s1 ⟨vs, H1, J, r, q⟩ => ⟨J.kIn, go_g F gd hr hb hd hx J r q⟩) he hpl) hdb)⟩
theorem pe_callG0 (F : FnG X.prog X.w X.K X.mg X.base CX k f fd ps sp) (gd : X.A.guards = some []) (hr : Room k X.A) (hg : Gl X x) (hm : X.mg x = some (.ref f)) (hk : PySem.W.keepIn X.K (.ref f) = true) (hb : Binds X.K fd ps ds) (hd : Vals dvs ds) (hx : Passes CX X E)
    (hdb : (x == ("__debug__" : Str)) = false := by decide) : PE X (.Call (.Name x p) [] [] pos) (tCall sp dvs E tNil) :=
  ⟨fun pins s σ H Q I h => wpAny_Call_Name_kw (ld_glob I hg hm (PySem.W.callWith_K0 I.kIn hk (go_g (us := []) F gd hr hb hd hx I .nil h)) hdb)⟩
end
/-! ### repr -/
def rRepr (K : PySem.W.Frag) : List V → Hp → VK → Prop := fun xs H Q => ∃ (x : V) (d : PyData), xs = [x] ∧ Dp K H x d ∧ d.showable = true ∧ SeqAt.shaped d = true ∧ d.shown.length ≤ sizeLine ∧ Q (.str d.shown) H
theorem call_repr {X : Cx} (gd : X.A.guards = some []) (hu : X.A.units + 65 < cLine) : CallR X (.builtin "repr") (rRepr X.K) := by
  intro pins s σ H xs us Q I r h
  obtain ⟨x, d, rfl, hd, hs, hsh, hl, q⟩ := h
  cases r with
  | cons rx rr =>
    cases rr
    rename_i u
    have hlay : d.canLay0 = true := SeqAt.canLay_of_shaped hsh
    have hdep : d.depth ≤ 64 := by
      have z : (d.canLay0 && decide (d.depth ≤ 64)) = true := hsh
      exact of_decide_eq_true (Bool.and_eq_true_iff.mp z).2
    obtain ⟨as, rd⟩ := Dp.reads I d x u hd rx
    have fin : ∀ h' v tk, (∀ b o, s.heap.get? b = some o → h'.get? b = some o) → EP X pins σ Q (.str d.shown v) { s with heap := h', toks := tk } := fun h' v tk hk => ⟨.str d.shown, H, I.kept hk, ⟨v, rfl⟩, q⟩
    cases hd with
    | non => cases rx; exact PySem.P.repr_of_none (fin _ _ _ fun _ _ z => z)
    | bl b => cases rx; exact PySem.P.repr_of_bool (fin _ _ _ fun _ _ z => z)
    | int i => obtain ⟨t, rfl⟩ := rx; exact PySem.P.repr_of_int (of_decide_eq_true hs) (fin _ _ _ fun _ _ z => z)
    | str y => obtain ⟨t, rfl⟩ := rx; exact PySem.P.repr_of_str (fin _ _ _ fun _ _ z => z) hl
    | lst _ _ => cases rx; exact repr_of_reads' rd hs (PyData.noDict_hsm (PyData.hasDict_of_canLay _ hlay)) gd (by omega) (fun _ _ z => z) fin hl
    | tup _ _ => cases rx; exact repr_of_reads' rd hs (PyData.noDict_hsm (PyData.hasDict_of_canLay _ hlay)) gd (by omega) (fun _ _ z => z) fin hl
theorem k_repr {X : Cx} (K : PySem.W.Frag) (h : X.K = K) (gd : X.A.guards = some []) (hu : X.A.units + 65 < cLine) : CallR X (.builtin "repr") (rRepr K) := by subst h; exact call_repr gd hu
theorem hu65 {k : Nat} {A : Around} (r : Room k A) : A.units + 65 < cLine := by have := r.un; omega
/-- rows of whole numbers, shown -/
theorem dp_ints {K : PySem.W.Frag} {H : Hp} : ∀ ns : List Int, DpAll K H (ns.map V.int) (ns.map PyData.int)
  | [] => .nil
  | n :: ns => .cons (.int n) (dp_ints ns)
theorem dp_row {K : PySem.W.Frag} {H : Hp} {a : Addr} {ns : List Int} (h : SqL K H a (ns.map V.int)) : Dp K H (.ref a) (.list (ns.map PyData.int)) := .lst h (dp_ints ns)
def shownR (ns : List Int) : Str := PyData.shown (.list (ns.map PyData.int))
theorem ints_lay : ∀ ns : List Int, PyData.canLayAll0 (ns.map PyData.int) = true
  | [] => rfl
  | n :: ns => by simp [PyData.canLayAll0, PyData.canLay0, ints_lay ns]
theorem ints_depth : ∀ ns : List Int, PyData.depthAll (ns.map PyData.int) ≤ 1
  | [] => by simp [PyData.depthAll]
  | n :: ns => by
    have := ints_depth ns
    simp only [List.map_cons, PyData.depthAll, PyData.depth]
    omega
theorem row_shaped (ns : List Int) : SeqAt.shaped (.list (ns.map PyData.int)) = true := by
  have h := ints_depth ns
  show (PyData.canLay0 (.list (ns.map PyData.int)) && decide (PyData.depth (.list (ns.map PyData.int)) ≤ 64)) = true
  rw [Bool.and_eq_true]
  exact ⟨by simp only [PyData.canLay0]; exact ints_lay ns, decide_eq_true (by simp only [PyData.depth]; omega)⟩
theorem ints_show : ∀ ns : List Int, (∀ n ∈ ns, n.natAbs.log2 < 1920) → PyData.showableAll (ns.map PyData.int) = true
  | [], _ => rfl
  | n :: ns, h => by
    simp only [List.map_cons, PyData.showableAll, PyData.showable]
    rw [decide_eq_true (h n List.mem_cons_self), ints_show ns fun m hm => h m (List.mem_cons_of_mem _ hm)]
    rfl
/-! ### sorted, any number -/
theorem k_sortedI {X : Cx} (K : PySem.W.Frag) (h : X.K = K) : CallR X (.builtin "sorted") (rSortedI K) := by subst h; exact cr_sortedI
def rSortedA (K : PySem.W.Frag) : List V → Hp → VK → Prop := fun vs H Q => ∃ (a : Addr) (xs : List Str), vs = [V.ref a] ∧ SqL K H a (xs.map V.str) ∧ ∀ (ys : List Str) (p : Addr), ys.Perm xs → sortedS ys = true → H p = none → Q (.ref p) (upd H p (.lst (ys.map V.str)))
theorem k_sortedS {X : Cx} (K : PySem.W.Frag) (h : X.K = K) : CallR X (.builtin "sorted") (rSortedA K) := by
  subst h
  intro pins s σ H vs us Q I r h
  obtain ⟨a, xs, rfl, hs, q⟩ := h
  obtain ⟨its, rv, hl, hz⟩ := I.list hs
  rw [Vals.ref1 r]
  refine sorted_strsAny hl.isList rv.strs (by rw [← rv.length]; exact hz) fun out ys h1 h2 h3 => ?_
  obtain ⟨ep, at_⟩ := sortedAll_at s.heap its out
  refine ⟨.ref _, upd H (s.heap.objs.size + 1) (.lst (ys.map V.str)), I.laid (t' := s.toks) (fun _ _ => sortedAll_old) (Nat.le_succ _) ⟨?_, out.toList, ep, vals_of_strs h1, at_⟩, rfl, q ys _ h2 h3 (I.hok.fresh (Nat.le_succ _))⟩
  rw [List.length_map, h2.length_eq]
  rw [List.length_map] at hz
  exact hz
theorem sorted_le : ∀ (l : List Str) (p : Str), risingS p l = true → (p :: l).Pairwise fun x y => x.cps.toList ≤ y.cps.toList
  | [], p, _ => List.pairwise_singleton _ _
  | x :: r, p, h => by
    obtain ⟨h1, h2⟩ := Bool.and_eq_true_iff.mp (show (!ltCps x.cps.toList p.cps.toList && risingS x r) = true from h)
    have hpx : p.cps.toList ≤ x.cps.toList := by
      rw [ltCps_eq] at h1
      intro z
      rw [decide_eq_true z] at h1
      cases h1
    have ih := sorted_le r x h2
    refine List.pairwise_cons.mpr ⟨fun y hy => ?_, ih⟩
    rcases List.mem_cons.mp hy with rfl | hy
    · exact hpx
    · exact List.le_trans hpx ((List.pairwise_cons.mp ih).1 y hy)
theorem sorted_uniq {xs ys : List Str} (h : xs.Perm ys) (hx : sortedS xs = true) (hy : sortedS ys = true) : xs = ys := by
  have pw : ∀ l : List Str, sortedS l = true → l.Pairwise fun x y => x.cps.toList ≤ y.cps.toList := fun l hl => by
    cases l with
    | nil => exact .nil
    | cons x r => exact sorted_le r x hl
  refine List.Perm.eq_of_pairwise (fun x y _ _ h1 h2 => ?_) (pw _ hx) (pw _ hy) h
  have e := List.le_antisymm h1 h2
  cases x with | mk a => cases y with | mk b => exact congrArg Str.mk (Array.toList_inj.mp e)
end My

namespace My
open PySem PySem.Spec PyProof.Rows L2 Pre
/-! ### the end of a law whose promise stands in no repr -/
/-- the script, tracked or one of the module's own objects -/
theorem script_env {P : Program} {w : World} {K : PySem.W.Frag} {mg mb : Str → Option Value} {a : Addr} {t : Shared} {us : List Value} {ns : List Int} (hin : K.In t.heap) (hgl : t.heap.Ns mainGlobals mg) (hbl : t.heap.Ns builtinsNs mb)
    (hbo : ∀ x : Str, x ≠ "__name__" → mb x = bootBuiltins x) (hno : t.heap.NoLimit) (hgs : t.gens = #[]) (at_a : t.heap.get? a = some { cls := .type "list", data := .seq us.toArray }) (ints_ : IntsAre us ns) (few : ns.length ≤ sizeLine) :
    ∃ (H : Hp) (base : Heap), Only H ∧ SqL K H a (ns.map V.int) ∧ K.In base ∧ base.Ns mainGlobals mg ∧ Env0 P w K mg base callerA [] t H := by
  have rv := vals_ints ints_
  have ul := ints_.length
  -- the module and the rest of the heap, whatever is tracked at a alone
  have rest : ∀ H : Hp, Only H → (∀ b, b ≠ a → H b = none) → (H a = none ∨ K.lookup a = none) → HOk P w H t.heap → SqL K H a (ns.map V.int) → ∃ (H : Hp) (base : Heap), Only H ∧ SqL K H a (ns.map V.int) ∧ K.In base ∧ base.Ns mainGlobals mg ∧ Env0 P w K mg base callerA [] t H := by
    intro H h1 h2 h3 h4 h5
    have dictFree : ∀ b o, t.heap.get? b = some o → (∃ es n, o.data = Data.dict es n) → H b = none := fun b o z ⟨es, n, d⟩ => by
      by_cases hb : b = a
      · rw [hb, at_a] at z
        cases z
        cases d
      · exact h2 b hb
    have nsKept : ∀ (b : Addr) (m : Str → Option Value), t.heap.Ns b m → (hidT t.heap H).Ns b m := fun b m z => by
      obtain ⟨o, es, ep, z1, z2, z3⟩ := z
      exact ⟨o, es, ep, hidT_get z1 (dictFree b o z1 ⟨_, _, z2⟩), z2, z3⟩
    have inKept : K.In (hidT t.heap H) := fun b o z => hidT_get (hin b o z) (by
      by_cases hb : b = a
      · rcases h3 with z3 | z3
        · rw [hb]; exact z3
        · rw [hb, z3] at z; cases z
      · exact h2 b hb)
    obtain ⟨mc, l1, l2⟩ := hno
    refine ⟨H, hidT t.heap H, h1, h5, inKept, nsKept _ _ hgl, ⟨rfl, ⟨inKept, nsKept _ _ hgl, ⟨mb, nsKept _ _ hbl, hbo⟩, ⟨mc, nsKept _ _ l1, l2⟩⟩, fun b o z => of_hidT z, ?_, trivial, fun b z => (nomatch z), h4, .of_eq hgs⟩⟩
    rw [hidT_size]
    exact Nat.le_refl _
  cases hk : K.lookup a with
  | some o =>
    have z := hin a o hk
    rw [at_a] at z
    cases z
    exact rest (fun _ => none) (fun _ => .inl rfl) (fun _ _ => rfl) (.inl rfl) (fun _ _ z => nomatch z) (.inr ⟨_, us.toArray, _, hk, rfl, rfl, rfl, by rw [List.size_toArray, ul]; exact few, by simpa using rv⟩)
  | none =>
    refine rest (upd (fun _ => none) a (.frz { cls := .type "list", data := .seq us.toArray } (.lst (ns.map V.int)))) (fun b => ?_) (fun b hb => upd_ne hb) (.inr hk) (fun b u z => ?_) (.inl (.inr ⟨_, upd_same⟩))
    · by_cases hb : b = a
      · rw [hb]; exact .inr ⟨_, _, upd_same⟩
      · exact .inl (upd_ne hb)
    · by_cases hb : b = a
      · subst hb
        rw [upd_same] at z
        cases z
        exact ⟨at_a, by rw [List.length_map]; exact few, us, _, rv, at_a⟩
      · rw [upd_ne hb] at z
        cases z
theorem end_g {l : PySem.W.OpenLaw} {n k : Nat} {q : Program} {loose : List Str} {XP : (Str → Option Value) → Heap → Prop} {YP : World → Heap → Prop} {d : DefRec} {x : Str} (hn : l.most = some n) (hn2 : n ≤ sizeLine) (hdf : d.params.defaults = []) (hr : Room k callerA)
    (F : ∀ (w : World) (mg : Str → Option Value) (fa : Addr) (h : Heap), YP w h → h.Ns mainGlobals mg → mg d.name = some (.ref fa) →
      ∃ (K : PySem.W.Frag) (fd : FuncData) (sp : Sp), K.In h ∧ (∀ (s : Shared) (u : Value), BindsTo s fd ⟨[u], []⟩ [(x, u)]) ∧
        (∀ (H : Hp) (a : Addr) (ns : List Int), ns.length ≤ n → SqL K H a (ns.map V.int) → sp [.ref a] H (fun v _ => v = .bl true) fun _ _ _ => False) ∧
        ∀ base : Heap, K.In base → base.Ns mainGlobals mg → FnG l.prog w K mg base CX0 k fa fd [x] sp) :
    PySem.W.WalkO q loose XP YP l.row.toRowW d [] (fun f vs => PySem.call f vs) := by
  refine Att.attach_call hn hdf fun w s₀ t mg mb fa o pm cd doc a us ns G Y ho hd hcd hmg at_a hi hl hg => ?_
  obtain ⟨K, fd, sp, hin, hb, hsp, hF⟩ := F w mg fa _ Y G.T.g hmg
  obtain ⟨H, base, only, hS, hKb, hgb, e0⟩ := script_env (P := l.prog) (w := w) hin G.T.g G.T.b G.T.builtins G.T.nolimit hg at_a hi (Nat.le_trans hl hn2)
  refine codeAny_mono ((hF base hKb hgb).does callerA rfl hr [] t H e0 ⟨[.ref a], []⟩ [.ref a] [.ref a] (hb t (.ref a)) (.cons rfl .nil) _ _ (hsp H a ns hl hS)) fun r t2 h => ?_
  match r, h with
  | .error e, h => exact (show False from h).elim
  | .ok (.ret u), h =>
    obtain ⟨v, H2, os, bare, un, hok2, rv, qv⟩ := h
    have qv : v = .bl true := qv
    subst qv
    have rv : u = Value.bool true := rv
    subst rv
    refine ⟨rfl, OldK.of_keep fun b o z => ?_, os, bare⟩
    rcases only b with hb | ⟨ob, ys, hb⟩
    · exact un.keep b o z hb (fun y => nomatch y) (fun y => nomatch y)
    · have z1 : t.heap.get? b = some ob := (e0.hok b _ hb).1
      have z2 : t2.heap.get? b = some ob := (hok2 b _ (un.frzs b ob _ hb)).1
      rw [z] at z1
      cases z1
      exact z2
end My

namespace My
open PySem PySem.Spec PyProof.Rows L2 Pre
/-! ### repr of an empty dict, too -/
def rReprX (K : PySem.W.Frag) : List V → Hp → VK → Prop := fun xs H Q => rRepr K xs H Q ∨ ∃ a : Addr, xs = [.ref a] ∧ H a = some (.dK []) ∧ Q (.str (PyData.dict []).shown) H
theorem call_reprX {X : Cx} (gd : X.A.guards = some []) (hu : X.A.units + 65 < cLine) : CallR X (.builtin "repr") (rReprX X.K) := by
  intro pins s σ H xs us Q I r h
  rcases h with h | ⟨a, rfl, ha, q⟩
  · exact call_repr gd hu pins s σ H xs us Q I r h
  · cases r with
    | cons rx rr =>
      cases rr
      cases rx
      have hx := I.hok a _ ha
      obtain ⟨t1, t2, vs, rel, o, es, ep, ho, h2, h3, h4⟩ := hx
      obtain rfl : vs = [] := by cases rel; rfl
      have he : es.toList = [] := by
        have h5 := h4.2.1
        cases hl : es.toList with
        | nil => rfl
        | cons e r => rw [hl] at h5; cases h5
      have rd : Reads s.heap (.ref a) (.dict []) [a] := .dict (as := []) (bs := []) ho h2.1 h3 (by rw [he]; exact .nil) (by rw [he]; exact .nil)
      have hd : (PyData.dict []).depth ≤ 64 := by decide +kernel
      have fin : ∀ h' v tk, (∀ b o, s.heap.get? b = some o → h'.get? b = some o) → EP X pins σ Q (.str (PyData.dict []).shown v) { s with heap := h', toks := tk } := fun h' v tk hk => ⟨.str (PyData.dict []).shown, H, I.kept hk, ⟨v, rfl⟩, q⟩
      exact repr_of_reads' rd rfl (fun _ m => by
        rw [List.mem_singleton] at m
        rw [← m] at t2
        simp at t2) gd (by omega) (fun _ _ z => z) fin (by decide +kernel)
theorem k_reprX {X : Cx} (K : PySem.W.Frag) (h : X.K = K) (gd : X.A.guards = some []) (hu : X.A.units + 65 < cLine) : CallR X (.builtin "repr") (rReprX K) := by subst h; exact call_reprX gd hu
end My

namespace My
open PySem PySem.Spec PyProof.Rows PySem.W L2 Pre
/-- products of one small number, or of two that are not too great -/
def CMulA (i j : Int) : Prop := CMul i j ∨ CMulX i j
theorem op_mulA {X : Cx} : OpR X (binaryOp .Mult) (rI CMulA fun i j => .int (i * j)) := fun pins s σ H x y v u Q I r1 r2 h => by
  obtain ⟨i, j, ex, ey, hc, q⟩ := h
  rcases hc with hc | hc
  · exact op_mul pins s σ H x y v u Q I r1 r2 ⟨i, j, ex, ey, hc, q⟩
  · exact op_mulX pins s σ H x y v u Q I r1 r2 ⟨i, j, ex, ey, hc, q⟩
end My

namespace My
open PySem PySem.Spec PyProof.Rows L2 Pre
theorem _root_.L2.TyX.same {K : PySem.W.Frag} {H H' : Hp} {v : V} {t : Value} (s : Same H H') (h : TyX K H v t) : TyX K H' v t := by
  cases h with
  | base b => exact .base (by
    cases b with
    | non => exact .non
    | bl y => exact .bl y
    | int i => exact .int i
    | str y => exact .str y
    | flt y => exact .flt y
    | lst e => exact .lst (s _ _ e)
    | frz e => exact .frz (s _ _ e)
    | tup e => exact .tup (s _ _ e)
    | dK e => exact .dK (s _ _ e)
    | dT e => exact .dT (s _ _ e)
    | ins e cl ha hn htk hm => exact .ins (s _ _ e) cl ha hn htk hm)
  | byt b => exact .byt b
  | set e => exact .set (s _ _ e)
  | kList e c => exact .kList e c
  | kTuple e c => exact .kTuple e c
  | kDict e c => exact .kDict e c
  | fTuple e => exact .fTuple (s _ _ e)
  | fDict e => exact .fDict (s _ _ e)
end My

namespace My
open PySem PySem.Spec PyProof.Rows L2
theorem small4 {n : Nat} (h : n ≤ 100000) : n < sizeLine := by rw [sizeLine_eq]; omega
end My

namespace My
open PySem PySem.Spec PyProof.Rows L2 Pre
/-! ### whole numbers, and what is none -/
/-- what is no whole number -/
def BadN (K : PySem.W.Frag) (H : Hp) (v : V) : Prop := (∃ b : Bool, v = .bl b) ∨ ∃ T : String, TyX K H v (.type T) ∧ kitB T "int" = some false
def NumV (K : PySem.W.Frag) (H : Hp) (v : V) (lo : Int) (hi : Option Int) (b : Bool) : Prop := (∃ i : Int, v = .int i ∧ b = decide (lo ≤ i ∧ ∀ j, hi = some j → i ≤ j)) ∨ (BadN K H v ∧ b = false)
theorem BadN.same {K : PySem.W.Frag} {H H' : Hp} {v : V} (s : Same H H') (h : BadN K H v) : BadN K H' v := by
  rcases h with h | ⟨T, ty, e⟩
  · exact .inl h
  · exact .inr ⟨T, ty.same s, e⟩
theorem NumV.same {K : PySem.W.Frag} {H H' : Hp} {v : V} {lo : Int} {hi : Option Int} {b : Bool} (s : Same H H') (h : NumV K H v lo hi b) : NumV K H' v lo hi b := by
  rcases h with h | ⟨h, e⟩
  · exact .inl h
  · exact .inr ⟨h.same s, e⟩
/-- a bound: a number or None -/
def hiV : Option Int → V
  | some j => .int j
  | none => .non
local macro_rules | `(tactic| walk_at "go") => `(tactic| repeat (first | (with_reducible first | refine iteT ?_ | refine iteF ?_ | refine iteNtt ?_ | refine iteNff ?_ | refine iteET (by omega) ?_ | refine iteEF (by omega) ?_ | refine iteENT (by omega) ?_ | refine iteENF (by omega) ?_ | refine iteDT (by omega) ?_ | refine iteDF (by omega) ?_ | refine iteNT (by omega) ?_ | refine iteNF (by omega) ?_) | refine ⟨_, rfl, ?_⟩ | refine ⟨_, _, rfl, rfl, ?_⟩ | refine ⟨_, _, rfl, ?_⟩ | refine ⟨rfl, ?_⟩ | refine .inl ⟨_, rfl, ?_⟩ | refine .inr ⟨_, rfl, ?_⟩))
local macro_rules | `(tactic| walk_at "b") => `(tactic| try dsimp (config := { proj := false, iota := false, eta := false, zeta := false }) only)
section
variable {P : Program} {w : World} {K : PySem.W.Frag} {mg : Str → Option Value} {base : Heap} [pf : Sup.PF P fileS]
def sp_is_whole (K : PySem.W.Frag) : Sp := fun vs H Q _ => ∃ v : V, vs = [v] ∧ ((∃ i : Int, v = .int i ∧ Q (.bl true) H) ∨ (BadN K H v ∧ Q (.bl false) H))
theorem G_is_whole (T : Top K mg) : FnOk P w K mg base CX0 1 T.f_is_whole T.fd_is_whole ["value"] (sp_is_whole K) := by
  refine T.F_is_whole.ok sc_is_whole (fun vs H Q E h => by obtain ⟨v, rfl, _⟩ := h; rfl) (fun cdv A outer s H vs Q E hr h => ?_)
  obtain ⟨v, rfl, h⟩ := h
  refine ⟨_, PSs.nox (pss_one (ps_ret (pe_and (pe_callB (k_isi K rfl) (by rfl) T.n_isinstance (by decide +kernel) (pa_cons (pv 0) (pa_cons (pe_bltn (v := .ty "int") (by rfl) T.n_int (by decide +kernel) rfl) pa_nil))) (pe_one (pe_not (pe_callB (k_isi K rfl) (by rfl) T.n_isinstance (by decide +kernel) (pa_cons (pv 0) (pa_cons (pe_bltn (v := .ty "bool") (by rfl) T.n_bool (by decide +kernel) rfl) pa_nil)))))))), ?_⟩
  rcases h with ⟨i, rfl, q⟩ | ⟨⟨b, rfl⟩ | ⟨T, ty, hT⟩, q⟩
  · refine ⟨_, rfl, _, _, _, _, true, rfl, .ty _, .base (.int i), kit_ty (by decide +kernel), true, rfl, iteT ?_⟩
    exact ⟨_, rfl, _, _, _, _, false, rfl, .ty _, .base (.int i), kit_ty (by decide +kernel), false, rfl, q⟩
  · refine ⟨_, rfl, _, _, _, _, true, rfl, .ty _, .base (.bl b), kit_ty (by decide +kernel), true, rfl, iteT ?_⟩
    exact ⟨_, rfl, _, _, _, _, true, rfl, .ty _, .base (.bl b), kit_ty (by decide +kernel), true, rfl, q⟩
  · exact ⟨_, rfl, _, _, _, _, false, rfl, .ty _, ty, kit_ty hT, false, rfl, iteF q⟩
def sp_is_between (K : PySem.W.Frag) : Sp := fun vs H Q _ => ∃ (v : V) (lo : Int) (hi : Option Int) (b : Bool), vs = [v, .int lo, hiV hi] ∧ NumV K H v lo hi b ∧ Q (.bl b) H
theorem G_is_between (T : Top K mg) : FnOk P w K mg base CX0 2 T.f_is_between T.fd_is_between ["value", "low", "high"] (sp_is_between K) := by
  refine T.F_is_between.ok sc_is_between (fun vs H Q E h => by obtain ⟨v, lo, hi, b, rfl, _⟩ := h; rfl) (fun cdv A outer s H vs Q E hr h => ?_)
  obtain ⟨v, lo, hi, b, rfl, hv, q⟩ := h
  refine ⟨_, PSs.nox (pss_one (ps_ret (pe_and (pe_call (G_is_whole (P := P) T) (hr.mono (by decide)) (by rfl) T.g_is_whole T.F_is_whole.kp T.b_is_whole .nil pass0 (pa_cons (pv 0) pa_nil)) (pe_and (pe_cmpR op_le (pv 1) (pv 0) (nomark _)) (pe_one (pe_or (pe_cmpR op_isN (pv 2) pe_non (nomark _)) (pe_one (pe_cmpR op_le (pv 0) (pv 2) (nomark _))))))))), ?_⟩
  rcases hv with ⟨i, rfl, rfl⟩ | ⟨hv, rfl⟩
  · refine ⟨_, rfl, _, rfl, .inl ⟨i, rfl, true, rfl, iteT ?_⟩⟩
    refine ⟨_, rfl, _, rfl, _, _, rfl, rfl, _, rfl, ite2 (fun e => ?_) (fun e => ?_)⟩
    · have e1 : lo ≤ i := of_decide_eq_true e
      cases hi with
      | none =>
        refine ⟨_, rfl, rfl, _, rfl, iteT ?_⟩
        rw [decide_eq_true ⟨e1, fun j h => nomatch h⟩] at q
        exact q
      | some j =>
        refine ⟨_, rfl, rfl, _, rfl, iteF ⟨_, rfl, _, rfl, _, _, rfl, rfl, ?_⟩⟩
        have e2 : decide (lo ≤ i ∧ ∀ j', some j = some j' → i ≤ j') = decide (i ≤ j) := by
          by_cases h : i ≤ j
          · rw [decide_eq_true h, decide_eq_true]
            exact ⟨e1, fun j' e => by cases e; exact h⟩
          · rw [decide_eq_false h, decide_eq_false]
            exact fun z => h (z.2 j rfl)
        rw [e2] at q
        exact q
    · have e1 : ¬ lo ≤ i := fun h => e (decide_eq_true h)
      rw [decide_eq_false fun z => e1 z.1] at q
      exact q
  · exact ⟨_, rfl, _, rfl, .inr ⟨hv, false, rfl, iteF q⟩⟩
def sp_check_number (K : PySem.W.Frag) (C : Addr) : Sp := fun vs H Q E => ∃ (v : V) (lo : Int) (hi : Option Int) (b : Bool), vs = [v, .int lo, hiV hi] ∧ NumV K H v lo hi b ∧ (b = true → Q .non H) ∧ (b = false → ∀ d, H d = none → E (.ref C) (some d) (upd H d (.xd [("value", v)])))
theorem G_check_number (T : Top K mg) : FnOk P w K mg base (L2.CX P w) 3 T.f_check_number T.fd_check_number ["number", "low", "high"] (sp_check_number K T.C_InvalidNumber) := by
  refine T.F_check_number.ok (CX := L2.CX P w) sc_check_number (fun vs H Q E h => by obtain ⟨v, lo, hi, b, rfl, _⟩ := h; rfl) (fun cdv A outer s H vs Q E hr h => ?_)
  obtain ⟨v, lo, hi, b, rfl, hv, q1, q2⟩ := h
  refine ⟨_, (pss_one (ps_if (pt_not (pt_val (pe_call (G_is_between (P := P) T) (hr.mono (by decide)) (by rfl) T.g_is_between T.F_is_between.kp T.b_is_between .nil pass0 (pa_cons (pv 0) (pa_cons (pv 1) (pa_cons (pv 2) pa_nil))))))
    (pss_one (ps_raise rfl (takes_of rfl rfl rfl rfl) (pmk_oex T.er_InvalidNumber.sup.T T.er_InvalidNumber.ini T.er_InvalidNumber.ity (G_InvalidNumber___init__ (P := P) (CX := CX0) T) (hr.mono (by decide)) T.er_InvalidNumber.bnd .nil pass0 (by rfl) T.gc_InvalidNumber (pa_cons (pv 0) pa_nil))))
    pss_nil)), ?_⟩
  refine ⟨_, rfl, _, rfl, _, rfl, v, lo, hi, b, rfl, hv, _, rfl, ?_⟩
  cases b with
  | true => exact iteF (q1 rfl)
  | false => exact iteT ⟨_, rfl, mk_sup fun d nd => q2 rfl d nd⟩
end
end My

namespace My
open PySem PySem.Spec PyProof.Rows L2 Pre
/-! ### rules, in a program: what is asked of them -/
def isI : V → Bool
  | .int _ => true
  | _ => false
/-- an item that may stand in a list -/
def Item (K : PySem.W.Frag) (H : Hp) (x : V) : Prop := (∃ i, x = .int i) ∨ (isI x = false ∧ BadN K H x ∧ ∃ d, Dp K H x d ∧ PyData.canLay0 d = true ∧ PyData.depth d ≤ 1)
theorem Item.same {K : PySem.W.Frag} {H H' : Hp} {x : V} (s : Same H H') (h : Item K H x) : Item K H' x := by
  rcases h with h | ⟨a, b, d, e, f⟩
  · exact .inl h
  · exact .inr ⟨a, b.same s, d, Pre.dp_same s _ _ e, f⟩
/-- what is no list -/
def NoL (K : PySem.W.Frag) (H : Hp) (v : V) : Prop := ∃ T : String, TyX K H v (.type T) ∧ kitB T "list" = some false
theorem NoL.same {K : PySem.W.Frag} {H H' : Hp} {v : V} (s : Same H H') (h : NoL K H v) : NoL K H' v := by
  obtain ⟨T, ty, e⟩ := h
  exact ⟨T, ty.same s, e⟩
/-- what is no rule -/
def BadR (K : PySem.W.Frag) (H : Hp) (v : V) : Prop := NoL K H v ∨ ∃ (a : Addr) (xs : List V), v = .ref a ∧ H a = some (.lst xs) ∧ xs.length ≤ 1000 ∧ (∀ x ∈ xs, Item K H x) ∧ (xs.all isI = false ∨ ∃ ws : List Int, xs = ws.map V.int ∧ (8 < ws.length ∨ ∃ w ∈ ws, 32768 < (w.natAbs : Nat)))
theorem BadR.same {K : PySem.W.Frag} {H H' : Hp} {v : V} (s : Same H H') (h : BadR K H v) : BadR K H' v := by
  rcases h with h | ⟨a, xs, e, h, r⟩
  · exact .inl (h.same s)
  · exact .inr ⟨a, xs, e, s _ _ h, r.1, fun x hx => (r.2.1 x hx).same s, r.2.2⟩
def GoodR (ws : List Int) : Prop := ws.length ≤ 8 ∧ ∀ w ∈ ws, w.natAbs ≤ 32768
theorem bad_data {K : PySem.W.Frag} {H : Hp} : ∀ xs : List V, (∀ x ∈ xs, Item K H x) → ∃ ds, DpAll K H (xs.filter fun x => !isI x) ds ∧ PyData.canLayAll0 ds = true ∧ PyData.depthAll ds ≤ 1 ∧ (ds = [] ↔ xs.all isI = true)
  | [], _ => ⟨[], .nil, rfl, by rw [PyData.depthAll]; decide, by simp⟩
  | x :: r, h => by
    obtain ⟨ds, h1, h2, h3, h4⟩ := bad_data r fun y hy => h y (List.mem_cons_of_mem _ hy)
    rcases h x List.mem_cons_self with ⟨i, rfl⟩ | ⟨a, _, d, e, f, g⟩
    · exact ⟨ds, h1, h2, h3, by rw [h4]; simp [isI]⟩
    · refine ⟨d :: ds, ?_, by rw [PyData.canLayAll0, h2, f]; rfl, by rw [PyData.depthAll]; omega, by simp [a]⟩
      rw [List.filter_cons, if_pos (by rw [a]; rfl)]
      exact .cons e h1
theorem dpAll_same {K : PySem.W.Frag} {H H' : Hp} (s : Same H H') : ∀ {xs : List V} {ds : List PyData}, DpAll K H xs ds → DpAll K H' xs ds
  | _, _, .nil => .nil
  | _, _, .cons h t => .cons (Pre.dp_same s _ _ h) (dpAll_same s t)
local macro_rules | `(tactic| walk_at "go") => `(tactic| repeat (first | (with_reducible first | refine iteT ?_ | refine iteF ?_ | refine iteNtt ?_ | refine iteNff ?_ | refine iteET (by omega) ?_ | refine iteEF (by omega) ?_ | refine iteENT (by omega) ?_ | refine iteENF (by omega) ?_ | refine iteDT (by omega) ?_ | refine iteDF (by omega) ?_ | refine iteNT (by omega) ?_ | refine iteNF (by omega) ?_) | refine ⟨_, rfl, ?_⟩ | refine ⟨_, _, rfl, rfl, ?_⟩ | refine ⟨_, _, rfl, ?_⟩ | refine ⟨rfl, ?_⟩ | refine .inl ⟨_, rfl, ?_⟩ | refine .inr ⟨_, rfl, ?_⟩))
local macro_rules | `(tactic| walk_at "b") => `(tactic| try dsimp (config := { proj := false, iota := false, eta := false, zeta := false }) only)
section
variable {P : Program} {w : World} {K : PySem.W.Frag} {mg : Str → Option Value} {base : Heap} [pf : Sup.PF P fileS]
def sp_are_wholes (K : PySem.W.Frag) : Sp := fun vs H Q _ => ∃ v : V, vs = [v] ∧ ((NoL K H v ∧ Q (.bl false) H) ∨ ∃ (a : Addr) (xs : List V), v = .ref a ∧ H a = some (.lst xs) ∧ xs.length ≤ 1000 ∧ (∀ x ∈ xs, Item K H x) ∧ ∀ H', Same H H' → Q (.bl (xs.all isI)) H')
def sp_check_depth (K : PySem.W.Frag) (C : Addr) : Sp := fun vs H Q E => ∃ (v : V) (hi : Int) (b : Bool), vs = [v, .int hi] ∧ NumV K H v 1 (some hi) b ∧ (b = true → Q .non H) ∧ (b = false → ∀ d, H d = none → E (.ref C) (some d) (upd H d (.xd [("value", v)])))
theorem G_check_depth (T : Top K mg) : FnOk P w K mg base (L2.CX P w) 3 T.f_check_depth T.fd_check_depth ["depth", "most"] (sp_check_depth K T.C_InvalidDepth) := by
  refine T.F_check_depth.ok (CX := L2.CX P w) sc_check_depth (fun vs H Q E h => by obtain ⟨v, hi, b, rfl, _⟩ := h; rfl) (fun cdv A outer s H vs Q E hr h => ?_)
  obtain ⟨v, hi, b, rfl, hv, q1, q2⟩ := h
  refine ⟨_, (pss_one (ps_if (pt_not (pt_val (pe_call (G_is_between (P := P) T) (hr.mono (by decide)) (by rfl) T.g_is_between T.F_is_between.kp T.b_is_between .nil pass0 (pa_cons (pv 0) (pa_cons pe_int (pa_cons (pv 1) pa_nil))))))
    (pss_one (ps_raise rfl (takes_of rfl rfl rfl rfl) (pmk_oex T.er_InvalidDepth.sup.T T.er_InvalidDepth.ini T.er_InvalidDepth.ity (G_InvalidDepth___init__ (P := P) (CX := CX0) T) (hr.mono (by decide)) T.er_InvalidDepth.bnd .nil pass0 (by rfl) T.gc_InvalidDepth (pa_cons (pv 0) pa_nil))))
    pss_nil)), ?_⟩
  refine ⟨_, rfl, _, rfl, v, 1, some hi, b, rfl, hv, _, rfl, ?_⟩
  cases b with
  | true => exact iteF (q1 rfl)
  | false => exact iteT ⟨_, rfl, mk_sup fun d nd => q2 rfl d nd⟩
theorem all_ints : ∀ ws : List Int, (ws.map V.int).all isI = true
  | [] => rfl
  | w :: r => by rw [List.map_cons, List.all_cons, all_ints r]; rfl
theorem simple_ints {K : PySem.W.Frag} {H : Hp} (ws : List Int) : ∀ x ∈ ws.map V.int, Item K H x := fun x hx => by
  obtain ⟨i, _, rfl⟩ := List.mem_map.mp hx
  exact .inl ⟨i, rfl⟩
def sp_check_rule (K : PySem.W.Frag) (C : Addr) : Sp := fun vs H Q E => ∃ v : V, vs = [v] ∧ ((∃ (a : Addr) (ws : List Int), v = .ref a ∧ H a = some (.lst (ws.map V.int)) ∧ GoodR ws ∧ ∀ H', Same H H' → Q .non H') ∨
  (BadR K H v ∧ ∀ H' d, Same H H' → H' d = none → E (.ref C) (some d) (upd H' d (.xd [("value", v)]))))
end
end My

namespace My
/-! ### products of rules -/
theorem sumN_split (s n : Nat) (f : Nat → Int) : sumN (s + n) f = sumN s f + sumN n fun i => f (s + i) := by
  induction n with
  | zero => simp [sumN]
  | succ n ih => rw [← Nat.add_assoc, sumN, ih, sumN]; omega
theorem sumN_shift {L s b : Nat} (h : s + b ≤ L) (g : Nat → Int) : sumN L (fun k => if s ≤ k ∧ k - s < b then g (k - s) else 0) = sumN b g := by
  obtain ⟨n, rfl⟩ := Nat.le.dest (show s ≤ L by omega)
  rw [sumN_split, sumN_none fun k hk => if_neg (by omega), Int.zero_add, sumN_cut (k := b) (by omega) fun i h1 _ => if_neg (by omega)]
  refine sumN_congr fun i hi => ?_
  rw [if_pos (by omega), show s + i - s = i by omega]
/-- the product's powers, spots below i done, places below j of the i-th -/
def cvF (A B : List Int) (i j : Nat) (k : Nat) : Int := (sumN i fun s => if s ≤ k ∧ k - s < B.length then A.getD s 0 * B.getD (k - s) 0 else 0) + if i ≤ k ∧ k - i < j then A.getD i 0 * B.getD (k - i) 0 else 0
theorem cvF_nil (A B : List Int) (k : Nat) : cvF A B 0 0 k = 0 := by
  unfold cvF
  rw [if_neg (by omega)]
  rfl
theorem cvF_step (A B : List Int) (i j k : Nat) : cvF A B i (j + 1) k = if k = i + j then cvF A B i j k + A.getD i 0 * B.getD j 0 else cvF A B i j k := by
  unfold cvF
  by_cases c : k = i + j
  · rw [if_pos c, if_pos (by omega), if_neg (by omega), show k - i = j by omega]
    omega
  · rw [if_neg c]
    congr 1
    by_cases c2 : i ≤ k ∧ k - i < j
    · rw [if_pos c2, if_pos (by omega)]
    · rw [if_neg c2, if_neg (by omega)]
theorem cvF_next (A B : List Int) (i k : Nat) : cvF A B i B.length k = cvF A B (i + 1) 0 k := by
  unfold cvF
  rw [if_neg (show ¬ (i + 1 ≤ k ∧ k - (i + 1) < 0) by omega), sumN, Int.add_zero]
/-- the product -/
def prodF (A B : List Int) (k : Nat) : Int := cvF A B A.length 0 k
theorem prodF_eq (A B : List Int) (k : Nat) : prodF A B k = sumN A.length fun s => if s ≤ k ∧ k - s < B.length then A.getD s 0 * B.getD (k - s) 0 else 0 := by
  unfold prodF cvF
  rw [if_neg (by omega), Int.add_zero]
theorem prodF_sum (A B : List Int) (hB : 0 < B.length) (r : Nat → Int) (i : Nat) : (sumN (A.length + B.length - 1) fun k => prodF A B k * r (i + k)) = sumN B.length fun t => B.getD t 0 * sumN A.length fun s => A.getD s 0 * r (i + t + s) := by
  have e1 : (sumN (A.length + B.length - 1) fun k => prodF A B k * r (i + k)) = sumN (A.length + B.length - 1) fun k => sumN A.length fun s => if s ≤ k ∧ k - s < B.length then A.getD s 0 * B.getD (k - s) 0 * r (i + s + (k - s)) else 0 := by
    refine sumN_congr fun k _ => ?_
    rw [prodF_eq, Int.mul_comm, ← sumN_mul]
    refine sumN_congr fun s _ => ?_
    by_cases c : s ≤ k ∧ k - s < B.length
    · rw [if_pos c, if_pos c, Int.mul_comm, show i + s + (k - s) = i + k by omega]
    · rw [if_neg c, if_neg c, Int.mul_zero]
  rw [e1, sumN_swap]
  have e2 : (sumN A.length fun s => sumN (A.length + B.length - 1) fun k => if s ≤ k ∧ k - s < B.length then A.getD s 0 * B.getD (k - s) 0 * r (i + s + (k - s)) else 0) = sumN A.length fun s => sumN B.length fun t => A.getD s 0 * B.getD t 0 * r (i + s + t) := by
    refine sumN_congr fun s hs => ?_
    exact sumN_shift (g := fun t => A.getD s 0 * B.getD t 0 * r (i + s + t)) (by omega)
  rw [e2, sumN_swap]
  refine sumN_congr fun t _ => ?_
  rw [← sumN_mul]
  refine sumN_congr fun s _ => ?_
  rw [Int.mul_comm (A.getD s 0), Int.mul_assoc, show i + s + t = i + t + s by omega]
/-- as a rule again -/
def prodL (A B : List Int) : List Int := (((List.range (A.length + B.length - 2)).map fun k => -prodF A B k)).reverse
theorem prodL_len (A B : List Int) : (prodL A B).length = A.length + B.length - 2 := by unfold prodL; rw [List.length_reverse, List.length_map, List.length_range]
theorem asP_last (u : List Int) : (asP u).getD u.length 0 = 1 := by
  unfold asP
  rw [List.getD_eq_getElem?_getD, List.getElem?_append_right (by rw [List.length_map, List.length_reverse]; exact Nat.le_refl _), List.length_map, List.length_reverse, Nat.sub_self]
  rfl
theorem prod_tell (w u : List Int) (r : Nat → Int) (i : Nat) : (sumN (asP (prodL (asP w) (asP u))).length fun p => (asP (prodL (asP w) (asP u))).getD p 0 * r (i + p)) = sumN (asP u).length fun t => (asP u).getD t 0 * sumN (asP w).length fun s => (asP w).getD s 0 * r (i + t + s) := by
  rw [← prodF_sum (asP w) (asP u) (by rw [asP_len]; omega), asP_len, prodL_len, asP_len, asP_len]
  rw [show w.length + 1 + (u.length + 1) - 2 + 1 = w.length + 1 + (u.length + 1) - 1 by omega]
  refine sumN_congr fun k hk => ?_
  congr 1
  by_cases c : k = w.length + u.length
  · have e : (asP (prodL (asP w) (asP u))).getD k 0 = 1 := by
      have := asP_last (prodL (asP w) (asP u))
      rw [prodL_len, asP_len, asP_len] at this
      rw [c, ← this]
      congr 1
      omega
    rw [e, prodF_eq, asP_len, sumN_only (k := w.length) (Nat.lt_succ_self _) fun s hs ne => by rw [if_neg (by rw [asP_len]; omega)], if_pos (by rw [asP_len]; omega), asP_last, show k - w.length = u.length by omega, asP_last]
    rfl
  · have hk2 : k < w.length + 1 + (u.length + 1) - 2 := by omega
    unfold asP
    rw [List.getD_eq_getElem?_getD, List.getElem?_append_left (by rw [List.length_map, List.length_reverse, prodL_len]; simp; omega), List.getElem?_map]
    unfold prodL
    rw [List.reverse_reverse, List.getElem?_map, List.getElem?_range (by simp; omega)]
    show - -(_ : Int) = _
    rw [Int.neg_neg]
theorem fol_prod {N : Int} {w u : List Int} {r : Nat → Int} (h : Fol N w r) (i : Nat) : N ∣ sumN (asP (prodL (asP w) (asP u))).length fun p => (asP (prodL (asP w) (asP u))).getD p 0 * r (i + p) := by
  rw [prod_tell]
  exact sumN_dvd fun t _ => Int.dvd_mul_of_dvd_right (fol_asP.mp h (i + t))
theorem sumN_abs {n : Nat} {f : Nat → Int} {c : Nat} (h : ∀ i, i < n → (f i).natAbs ≤ c) : (sumN n f).natAbs ≤ n * c := by
  induction n with
  | zero => simp [sumN]
  | succ n ih =>
    rw [sumN]
    have h1 := ih fun i hi => h i (by omega)
    have h2 := h n (Nat.lt_succ_self n)
    have h3 := Int.natAbs_add_le (sumN n f) (f n)
    rw [Nat.succ_mul]
    omega
theorem small_getD {A : List Int} {c : Nat} (h : ∀ x ∈ A, x.natAbs ≤ c) (i : Nat) : (A.getD i 0).natAbs ≤ c := by
  rw [List.getD_eq_getElem?_getD]
  by_cases hi : i < A.length
  · rw [List.getElem?_eq_getElem hi]
    exact h _ (List.getElem_mem hi)
  · rw [List.getElem?_eq_none (by omega)]
    exact Nat.zero_le _
theorem asP_small {u : List Int} {c : Nat} (hc : 1 ≤ c) (h : ∀ x ∈ u, x.natAbs ≤ c) : ∀ x ∈ asP u, x.natAbs ≤ c := by
  intro x hx
  unfold asP at hx
  rcases List.mem_append.mp hx with hx | hx
  · obtain ⟨y, hy, rfl⟩ := List.mem_map.mp hx
    rw [Int.natAbs_neg]
    exact h y (List.mem_reverse.mp hy)
  · rw [List.mem_singleton.mp hx]
    exact hc
theorem cvF_small {A B : List Int} (hA : ∀ x ∈ A, x.natAbs ≤ 3) (hB : ∀ x ∈ B, x.natAbs ≤ 3) {i j k : Nat} (hi : i ≤ 8) : (cvF A B i j k).natAbs ≤ 100 := by
  have one : ∀ s t, (A.getD s 0 * B.getD t 0).natAbs ≤ 9 := fun s t => by
    rw [Int.natAbs_mul]
    exact Nat.mul_le_mul (small_getD hA s) (small_getD hB t)
  unfold cvF
  have h1 : (sumN i fun s => if s ≤ k ∧ k - s < B.length then A.getD s 0 * B.getD (k - s) 0 else 0).natAbs ≤ i * 9 := sumN_abs fun s _ => by
    split
    · exact one _ _
    · exact Nat.zero_le _
  have h2 : (if i ≤ k ∧ k - i < j then A.getD i 0 * B.getD (k - i) 0 else 0).natAbs ≤ 9 := by
    split
    · exact one _ _
    · exact Nat.zero_le _
  have h3 := Int.natAbs_add_le (sumN i fun s => if s ≤ k ∧ k - s < B.length then A.getD s 0 * B.getD (k - s) 0 else 0) (if i ≤ k ∧ k - i < j then A.getD i 0 * B.getD (k - i) 0 else 0)
  omega
theorem prodL_small {A B : List Int} (hA : ∀ x ∈ A, x.natAbs ≤ 3) (hB : ∀ x ∈ B, x.natAbs ≤ 3) (h : A.length ≤ 8) : ∀ x ∈ prodL A B, x.natAbs ≤ 100 := by
  intro x hx
  unfold prodL at hx
  obtain ⟨k, _, rfl⟩ := List.mem_map.mp (List.mem_reverse.mp hx)
  rw [Int.natAbs_neg]
  exact cvF_small hA hB h
end My

namespace My
open PySem PySem.Spec PyProof.Rows L2 Pre
/-! ### powers led back by a rule, in a program -/
/-- a row of whole numbers told by a function -/
def rowZ (n : Nat) (f : Nat → Int) : List V := (List.range n).map fun p => V.int (f p)
theorem rowZ_len (n : Nat) (f : Nat → Int) : (rowZ n f).length = n := by unfold rowZ; rw [List.length_map, List.length_range]
theorem rowZ_get {n : Nat} (f : Nat → Int) {i : Nat} (h : i < n) : (rowZ n f)[i]? = some (.int (f i)) := by
  unfold rowZ
  rw [List.getElem?_map, List.getElem?_range h]
  rfl
theorem rowZ_ext {n : Nat} {f : Nat → Int} {xs : List V} (hl : xs.length = n) (h : ∀ i, i < n → xs[i]? = some (.int (f i))) : xs = rowZ n f := by
  refine List.ext_getElem? fun i => ?_
  by_cases hi : i < n
  · rw [h i hi, rowZ_get f hi]
  · rw [List.getElem?_eq_none (by omega), List.getElem?_eq_none (by rw [rowZ_len]; omega)]
theorem rowZ_congr {n : Nat} {f g : Nat → Int} (e : ∀ i, i < n → f i = g i) : rowZ n f = rowZ n g := rowZ_ext (rowZ_len n f) fun i hi => by rw [rowZ_get f hi, e i hi]
theorem rowZ_ints (n : Nat) (f : Nat → Int) : rowZ n f = ((List.range n).map f).map V.int := by
  unfold rowZ
  rw [List.map_map]
  rfl
theorem ints_rowZ (ws : List Int) : ws.map V.int = rowZ ws.length fun p => ws.getD p 0 := rowZ_ext (List.length_map _) fun i hi => by
  rw [List.getElem?_map, List.getD_eq_getElem?_getD, List.getElem?_eq_getElem hi]
  rfl
theorem rowZ_set {n s : Nat} {v : Int} {f g : Nat → Int} (hs : s < n) (e1 : g s = v) (e2 : ∀ i, i ≠ s → f i = g i) : (rowZ n f).set s (.int v) = rowZ n g := by
  refine rowZ_ext (by rw [List.length_set, rowZ_len]) fun i hi => ?_
  rw [List.getElem?_set]
  by_cases c : s = i
  · subst c
    rw [if_pos rfl, if_pos (by rw [rowZ_len]; exact hs), e1]
  · rw [if_neg c, rowZ_get f hi, e2 i fun h => c h.symm]
theorem rowZ_take {n k : Nat} (h : k ≤ n) (f : Nat → Int) : (rowZ n f).take k = rowZ k f := rowZ_ext (by rw [List.length_take, rowZ_len]; omega) fun i hi => by rw [List.getElem?_take, if_pos hi, rowZ_get f (by omega)]
theorem rep_int (k : Nat) (x : Int) : (List.replicate k [V.int x]).flatten = (List.replicate k x).map V.int := by
  induction k with
  | zero => rfl
  | succ k ih => rw [List.replicate_succ, List.flatten_cons, ih, List.replicate_succ]; rfl
/-- powers padded -/
theorem pad_row (N : Int) (w q : List Int) : (q.map fun x => V.int (x % N)) ++ (List.replicate (w.length - q.length) (0 : Int)).map V.int = rowZ (lenP w q) (iniP N q) := by
  refine rowZ_ext (by rw [List.length_append, List.length_map, List.length_map, List.length_replicate]; unfold lenP; omega) fun i hi => ?_
  unfold iniP
  by_cases c : i < q.length
  · rw [List.getElem?_append_left (by rw [List.length_map]; exact c), List.getElem?_map, List.getD_eq_getElem?_getD, List.getElem?_eq_getElem c]
    rfl
  · rw [List.getElem?_append_right (by rw [List.length_map]; omega), List.length_map, List.getElem?_map, List.getElem?_replicate, if_pos (by unfold lenP at hi; omega), List.getD_eq_getElem?_getD, List.getElem?_eq_none (l := q) (by omega)]
    show some (V.int 0) = some (V.int ((0 : Int) % N))
    rw [Int.zero_emod]
theorem updW_step {N : Int} {w : List Int} {f : Nat → Int} {top k : Nat} (h : k < w.length) (ht : w.length ≤ top) (p : Nat) : updW N w f top (k + 1) p = if p = top - 1 - k then (updW N w f top k p + f top * w.getD k 0) % N else updW N w f top k p := by
  unfold updW
  by_cases e : p = top - 1 - k
  · rw [if_pos e, if_pos ⟨by omega, by omega⟩, if_neg (by omega), show top - 1 - p = k by omega]
  · rw [if_neg e]
    by_cases c : p < top ∧ top - 1 - p < k
    · rw [if_pos ⟨c.1, by omega⟩, if_pos c]
    · rw [if_neg (by omega), if_neg c]
theorem updW_top {N : Int} {w : List Int} {f : Nat → Int} {top k : Nat} : updW N w f top k top = f top := by
  unfold updW
  rw [if_neg (by omega)]
theorem updW_nil {N : Int} {w : List Int} {f : Nat → Int} {top : Nat} (p : Nat) : updW N w f top 0 p = f p := by
  unfold updW
  rw [if_neg (by omega)]
theorem pow_le_pow2 {d : Nat} (h : d ≤ 24) : (2 : Int) ^ d ≤ 2 ^ 24 := by
  have := Nat.pow_le_pow_right (show 0 < 2 by decide) h
  have e : (((2 ^ d : Nat)) : Int) ≤ ((2 ^ 24 : Nat) : Int) := Int.ofNat_le.mpr this
  rw [Int.natCast_pow, Int.natCast_pow] at e
  exact e
local macro_rules | `(tactic| walk_at "go") => `(tactic| repeat (first | (with_reducible first | refine iteT ?_ | refine iteF ?_ | refine iteNtt ?_ | refine iteNff ?_ | refine iteET (by omega) ?_ | refine iteEF (by omega) ?_ | refine iteENT (by omega) ?_ | refine iteENF (by omega) ?_ | refine iteDT (by omega) ?_ | refine iteDF (by omega) ?_ | refine iteNT (by omega) ?_ | refine iteNF (by omega) ?_) | refine ⟨_, rfl, ?_⟩ | refine ⟨_, _, rfl, rfl, ?_⟩ | refine ⟨_, _, rfl, ?_⟩ | refine ⟨rfl, ?_⟩ | refine .inl ⟨_, rfl, ?_⟩ | refine .inr ⟨_, rfl, ?_⟩))
local macro_rules | `(tactic| walk_at "b") => `(tactic| try dsimp (config := { proj := false, iota := false, eta := false, zeta := false }) only)
section
variable {P : Program} {w : World} {K : PySem.W.Frag} {mg : Str → Option Value} {base : Heap} [pf : Sup.PF P fileS]
def sp_reduced (K : PySem.W.Frag) : Sp := fun vs H Q _ => ∃ (a b : Addr) (ws q : List Int) (N : Int), vs = [.ref a, .ref b, .int N] ∧ H a = some (.lst (ws.map V.int)) ∧ H b = some (.lst (q.map V.int)) ∧ GoodR ws ∧ q.length ≤ 20 ∧ 0 < N ∧ N ≤ 2 ^ 24 ∧ ∀ H' p, Same H H' → H p = none → H' p = some (.lst (rowZ ws.length (redP N ws q))) → Q (.ref p) H'
end
end My

namespace My
open PySem PySem.Spec PyProof.Rows L2 Pre
/-! ### rows moved by a number of places: plain -/
/-- powers that tell, of every row that follows a rule, its number n places on -/
def Mv (N : Int) (ws : List Int) (f : Nat → Int) (n : Nat) : Prop := ∀ r : Nat → Int, Fol N ws r → ∀ i, N ∣ (sumN ws.length fun p => f p * r (i + p)) - r (i + n)
theorem mv_red {N : Int} {ws q : List Int} {n : Nat} (hN : 0 < N) (h : ∀ r : Nat → Int, Fol N ws r → ∀ i, N ∣ (sumN q.length fun p => q.getD p 0 * r (i + p)) - r (i + n)) : Mv N ws (redP N ws q) n := fun r hr i => by
  have h1 := red_sum hN hr q i
  have h2 := h r hr i
  have := Int.dvd_add h1 h2
  rwa [show ∀ a b c : Int, a - b + (b - c) = a - c from fun a b c => by omega] at this
theorem mv_one {N : Int} {ws : List Int} (hN : 0 < N) : Mv N ws (redP N ws [1]) 0 := mv_red hN fun r _ i => by
  have e : (sumN ([1] : List Int).length fun p => ([1] : List Int).getD p 0 * r (i + p)) = r (i + 0) := by simp [sumN]
  rw [e, Int.sub_self]
  exact Int.dvd_zero N
theorem mv_two {N : Int} {ws : List Int} (hN : 0 < N) : Mv N ws (redP N ws [0, 1]) 1 := mv_red hN fun r _ i => by
  have e : (sumN ([0, 1] : List Int).length fun p => ([0, 1] : List Int).getD p 0 * r (i + p)) = r (i + 1) := by simp [sumN]
  rw [e, Int.sub_self]
  exact Int.dvd_zero N
theorem mv_nil {N : Int} {f : Nat → Int} {n : Nat} : Mv N [] f n := fun r hr i => by
  have h := hr (i + n)
  have e1 : (sumN ([] : List Int).length fun b => ([] : List Int).getD b 0 * r (i + n + ([] : List Int).length - 1 - b)) = 0 := rfl
  have e2 : (sumN ([] : List Int).length fun p => f p * r (i + p)) = 0 := rfl
  rw [e1, Int.sub_zero] at h
  rw [e2, Int.zero_sub]
  exact Int.dvd_neg.mpr h
/-- the product of two -/
def mulL (A B : List Int) : List Int := (List.range (A.length + B.length - 1)).map (prodF A B)
theorem mulL_len (A B : List Int) : (mulL A B).length = A.length + B.length - 1 := by unfold mulL; rw [List.length_map, List.length_range]
theorem mulL_get {A B : List Int} {k : Nat} (h : k < A.length + B.length - 1) : (mulL A B).getD k 0 = prodF A B k := by
  unfold mulL
  rw [List.getD_eq_getElem?_getD, List.getElem?_map, List.getElem?_range h]
  rfl
theorem row_getD {m i : Nat} (h : i < m) (f : Nat → Int) : (((List.range m).map f).getD i 0) = f i := by
  rw [List.getD_eq_getElem?_getD, List.getElem?_map, List.getElem?_range h]
  rfl
theorem mv_mul {N : Int} {ws : List Int} {f g : Nat → Int} {n m : Nat} (hN : 0 < N) (hf : Mv N ws f n) (hg : Mv N ws g m) : Mv N ws (redP N ws (mulL ((List.range ws.length).map f) ((List.range ws.length).map g))) (n + m) := by
  by_cases h0 : ws.length = 0
  · obtain rfl := List.length_eq_zero_iff.mp h0
    exact mv_nil
  refine mv_red hN fun r hr i => ?_
  have lf : ((List.range ws.length).map f).length = ws.length := by rw [List.length_map, List.length_range]
  have lg : ((List.range ws.length).map g).length = ws.length := by rw [List.length_map, List.length_range]
  rw [mulL_len, sumN_congr (g := fun k => prodF ((List.range ws.length).map f) ((List.range ws.length).map g) k * r (i + k)) fun k hk => by rw [mulL_get hk], prodF_sum _ _ (by omega), lf, lg]
  have e : (sumN ws.length fun t => ((List.range ws.length).map g).getD t 0 * sumN ws.length fun s => ((List.range ws.length).map f).getD s 0 * r (i + t + s)) = sumN ws.length fun t => g t * sumN ws.length fun s => f s * r (i + t + s) := sumN_congr fun t ht => by
    rw [row_getD ht, sumN_congr (g := fun s => f s * r (i + t + s)) fun s hs => by rw [row_getD hs]]
  rw [e]
  have h1 : N ∣ (sumN ws.length fun t => g t * sumN ws.length fun s => f s * r (i + t + s)) - sumN ws.length fun t => g t * r (i + n + t) := by
    have e2 : (sumN ws.length fun t => g t * sumN ws.length fun s => f s * r (i + t + s)) - (sumN ws.length fun t => g t * r (i + n + t)) = sumN ws.length fun t => g t * ((sumN ws.length fun s => f s * r (i + t + s)) - r (i + t + n)) := by
      have := sumN_add ws.length (fun t => g t * ((sumN ws.length fun s => f s * r (i + t + s)) - r (i + t + n))) (fun t => g t * r (i + n + t))
      rw [sumN_congr (g := fun t => g t * sumN ws.length fun s => f s * r (i + t + s)) fun t _ => by rw [show i + t + n = i + n + t by omega, ← Int.mul_add, Int.sub_add_cancel]] at this
      omega
    rw [e2]
    exact sumN_dvd fun t _ => Int.dvd_mul_of_dvd_right (hf r hr (i + t))
  have h2 := hg r hr (i + n)
  have := Int.dvd_add h1 h2
  rw [show ∀ a b c : Int, a - b + (b - c) = a - c from fun a b c => by omega] at this
  rwa [Nat.add_assoc] at this
end My

namespace My
open PySem PySem.Spec PyProof.Rows L2 Pre
/-! ### rows gone on: plain -/
theorem sum_range (n : Nat) (f : Nat → Int) : ((List.range n).map f).sum = sumN n f := by
  induction n with
  | zero => rfl
  | succ n ih => rw [List.range_succ, List.map_append, List.sum_append, ih, sumN]; simp
/-- the next one -/
def nxtR (h : Int) (ws l : List Int) : Int := (sumN ws.length (fun b => ws.getD b 0 * l.getD (l.length - 1 - b) 0) + h) % (2 * h) - h
/-- a row gone on -/
def goL (h : Int) (ws fs : List Int) : Nat → List Int
  | 0 => fs
  | k + 1 => goL h ws fs k ++ [nxtR h ws (goL h ws fs k)]
theorem goL_len (h : Int) (ws fs : List Int) : ∀ k, (goL h ws fs k).length = fs.length + k
  | 0 => rfl
  | k + 1 => by rw [goL, List.length_append, goL_len h ws fs k]; rfl
def goR (h : Int) (ws fs : List Int) (i : Nat) : Int := (goL h ws fs (i + 1)).getD i 0
theorem goL_at {h : Int} {ws fs : List Int} {i : Nat} : ∀ {k : Nat}, i < fs.length + k → (goL h ws fs k).getD i 0 = goR h ws fs i := by
  have step : ∀ k i, i < fs.length + k → (goL h ws fs (k + 1)).getD i 0 = (goL h ws fs k).getD i 0 := fun k i hi => by
    rw [goL, List.getD_eq_getElem?_getD, List.getElem?_append_left (by rw [goL_len]; exact hi), ← List.getD_eq_getElem?_getD]
  have up : ∀ d k i, i < fs.length + k → (goL h ws fs (k + d)).getD i 0 = (goL h ws fs k).getD i 0 := fun d => by
    induction d with
    | zero => intro k i _; rfl
    | succ d ih => intro k i hi; rw [← Nat.add_assoc, step _ _ (by omega), ih k i hi]
  intro k hi
  unfold goR
  by_cases c : k ≤ i + 1
  · obtain ⟨d, e⟩ := Nat.le.dest c
    rw [← e]
    exact (up d k i hi).symm
  · obtain ⟨d, e⟩ := Nat.le.dest (show i + 1 ≤ k by omega)
    rw [← e]
    exact up d (i + 1) i (by omega)
theorem goR_first {h : Int} {ws fs : List Int} {i : Nat} (hi : i < fs.length) : goR h ws fs i = fs.getD i 0 := (goL_at (k := 0) (by omega)).symm
theorem goR_fol {h : Int} (hh : 0 < h) {ws fs : List Int} (e : fs.length = ws.length) : Fol (2 * h) ws (goR h ws fs) := by
  intro i
  have e1 : goR h ws fs (i + ws.length) = nxtR h ws (goL h ws fs i) := by
    rw [← goL_at (k := i + 1) (by omega), goL, List.getD_eq_getElem?_getD, List.getElem?_append_right (by rw [goL_len]; omega), goL_len, show i + ws.length - (fs.length + i) = 0 by omega]
    rfl
  have e2 : sumN ws.length (fun b => ws.getD b 0 * (goL h ws fs i).getD ((goL h ws fs i).length - 1 - b) 0) = sumN ws.length fun b => ws.getD b 0 * goR h ws fs (i + ws.length - 1 - b) := sumN_congr fun b hb => by
    rw [goL_len, goL_at (by omega), show fs.length + i - 1 - b = i + ws.length - 1 - b by omega]
  rw [e1, ← e2]
  unfold nxtR
  generalize sumN ws.length (fun b => ws.getD b 0 * (goL h ws fs i).getD ((goL h ws fs i).length - 1 - b) 0) = S
  have := Int.dvd_self_sub_emod (x := S + h) (m := 2 * h)
  have h2 := Int.dvd_neg.mpr this
  rw [show -(S + h - (S + h) % (2 * h)) = (S + h) % (2 * h) - h - S by omega] at h2
  exact h2
theorem two_half {d : Nat} (h : 1 ≤ d) : 2 * (2 ^ (d - 1) : Int) = 2 ^ d := by
  obtain ⟨e, rfl⟩ : ∃ e, d = e + 1 := ⟨d - 1, by omega⟩
  rw [Nat.add_sub_cancel, Int.pow_succ, Int.mul_comm]
theorem half_pos (d : Nat) : (0 : Int) < 2 ^ (d - 1) := Int.pow_pos (by decide)
theorem goR_range {h : Int} (hh : 0 < h) {ws fs : List Int} (hf : ∀ x ∈ fs, -h ≤ x ∧ x < h) (i : Nat) : -h ≤ goR h ws fs i ∧ goR h ws fs i < h := by
  by_cases c : i < fs.length
  · rw [goR_first c, List.getD_eq_getElem?_getD, List.getElem?_eq_getElem c]
    exact hf _ (List.getElem_mem c)
  · obtain ⟨k, rfl⟩ := Nat.le.dest (show fs.length ≤ i by omega)
    rw [← goL_at (k := k + 1) (by omega), goL, List.getD_eq_getElem?_getD, List.getElem?_append_right (by rw [goL_len]; omega), goL_len, show fs.length + k - (fs.length + k) = 0 by omega]
    show -h ≤ nxtR h ws (goL h ws fs k) ∧ nxtR h ws (goL h ws fs k) < h
    unfold nxtR
    have h1 := Int.emod_nonneg ((sumN ws.length fun b => ws.getD b 0 * (goL h ws fs k).getD ((goL h ws fs k).length - 1 - b) 0) + h) (show 2 * h ≠ 0 by omega)
    have h2 := Int.emod_lt_of_pos ((sumN ws.length fun b => ws.getD b 0 * (goL h ws fs k).getD ((goL h ws fs k).length - 1 - b) 0) + h) (show 0 < 2 * h by omega)
    omega
/-- wrapped, what tells a number within a half is that number -/
theorem wrap_eq {h x y : Int} (hy : -h ≤ y ∧ y < h) (hd : 2 * h ∣ x - y) : (x + h) % (2 * h) - h = y := by
  obtain ⟨c, hc⟩ := hd
  have e : x + h = (y + h) + 2 * h * c := by omega
  rw [e, Int.add_mul_emod_self_left, Int.emod_eq_of_lt (by omega) (by omega)]
  omega
end My

namespace My
open PySem PySem.Spec PyProof.Rows L2 Pre
/-! ### odd values: what is shown of them, odd items of lists -/
/-- what is shown of a thing -/
def Shw (K : PySem.W.Frag) (H : Hp) (x : V) (t : Str) : Prop := ∃ d, Dp K H x d ∧ d.showable = true ∧ SeqAt.shaped d = true ∧ d.shown.length ≤ sizeLine ∧ t = d.shown
theorem Shw.same {K : PySem.W.Frag} {H H' : Hp} {x : V} {t : Str} (s : Same H H') (h : Shw K H x t) : Shw K H' x t := by
  obtain ⟨d, hd, h⟩ := h
  exact ⟨d, Pre.dp_same s _ _ hd, h⟩
theorem Shw.repr {K : PySem.W.Frag} {H : Hp} {x : V} {t : Str} {Q : VK} (h : Shw K H x t) (q : Q (.str t) H) : rReprX K [x] H Q := by
  obtain ⟨d, hd, h1, h2, h3, rfl⟩ := h
  exact .inl ⟨x, d, rfl, hd, h1, h2, h3, q⟩
theorem pair_shaped {a t : Str} (ha : PyData.strOk a = true) (ht : PyData.strOk t = true) : SeqAt.shaped (.list [.str a, .str t]) = true := by
  simp [SeqAt.shaped, PyData.canLay0, PyData.canLayAll0, PyData.depth, PyData.depthAll, ha, ht]
theorem pair_eqv (a t : Str) : PyData.eqv (.list [.str a, .str t]) (.list [.str a, .str t]) = true := by
  simp [PyData.eqv, PyData.eqvAll]
theorem shw_ok {K : PySem.W.Frag} {H : Hp} {x : V} {d : PyData} (hd : Dp K H x d) (h : (d.showable && SeqAt.shaped d && decide (d.shown.length ≤ sizeLine) && PyData.strOk d.shown) = true) : ∃ t, Shw K H x t ∧ PyData.strOk t = true := by
  rw [Bool.and_eq_true, Bool.and_eq_true, Bool.and_eq_true] at h
  exact ⟨_, ⟨d, hd, h.1.1.1, h.1.1.2, of_decide_eq_true h.1.2, rfl⟩, h.2⟩
theorem item_bl {K : PySem.W.Frag} {H : Hp} (b : Bool) : Item K H (.bl b) := .inr ⟨rfl, .inl ⟨b, rfl⟩, .bool b, .bl b, rfl, by rw [PyData.depth]; decide⟩
theorem item_non {K : PySem.W.Frag} {H : Hp} : Item K H .non := .inr ⟨rfl, .inr ⟨_, .base .non, by decide +kernel⟩, .none, .non, rfl, by rw [PyData.depth]; decide⟩
theorem item_str {K : PySem.W.Frag} {H : Hp} (s : Str) (h : PyData.strOk s = true) : Item K H (.str s) := .inr ⟨rfl, .inr ⟨_, .base (.str _), by decide +kernel⟩, .str s, .str s, h, by rw [PyData.depth]; decide⟩
theorem item_lst {K : PySem.W.Frag} {H : Hp} {p : Addr} {ns : List Int} (h : H p = some (.lst (ns.map V.int))) : Item K H (.ref p) := .inr ⟨rfl, .inr ⟨_, .base (.lst h), by decide +kernel⟩, .list (ns.map PyData.int), dp_row (.inl (.inl h)), by rw [PyData.canLay0]; exact lay_ints ns, by rw [PyData.depth, depth_ints]; omega⟩
theorem items1 {K : PySem.W.Frag} {H : Hp} {x : V} (h : Item K H x) : ∀ y ∈ [x], Item K H y := fun y hy => by rw [List.mem_singleton.mp hy]; exact h
theorem items2 {K : PySem.W.Frag} {H : Hp} {x z : V} (h : Item K H x) (k : Item K H z) : ∀ y ∈ [x, z], Item K H y := fun y hy => by
  rcases List.mem_cons.mp hy with e | e
  · rw [e]; exact h
  · rw [List.mem_singleton.mp e]; exact k
/-- two ways to a value, one way on -/
theorem join_te {c : Bool} {te1 te2 : TE} {σ : L2.St} {H : Hp} {R : VK} (Pv : V → Hp → Prop) (h1 : c = true → ∀ R' : VK, (∀ v H', Pv v H' → R' v H') → te1 σ H R') (h2 : c = false → ∀ R' : VK, (∀ v H', Pv v H' → R' v H') → te2 σ H R') (cont : ∀ v H', Pv v H' → R v H') : if c = true then te1 σ H R else te2 σ H R := by
  cases c with
  | true => exact h1 rfl R cont
  | false => exact h2 rfl R cont
end My

namespace My
open PySem PySem.Spec PyProof.Rows L2 Pre
/-! ### rows of rules, in a program -/
local macro_rules | `(tactic| walk_at "go") => `(tactic| repeat (first | (with_reducible first | refine iteT ?_ | refine iteF ?_ | refine iteNtt ?_ | refine iteNff ?_ | refine iteET (by omega) ?_ | refine iteEF (by omega) ?_ | refine iteENT (by omega) ?_ | refine iteENF (by omega) ?_ | refine iteDT (by omega) ?_ | refine iteDF (by omega) ?_ | refine iteNT (by omega) ?_ | refine iteNF (by omega) ?_) | refine ⟨_, rfl, ?_⟩ | refine ⟨_, _, rfl, rfl, ?_⟩ | refine ⟨_, _, rfl, ?_⟩ | refine ⟨rfl, ?_⟩ | refine .inl ⟨_, rfl, ?_⟩ | refine .inr ⟨_, rfl, ?_⟩))
local macro_rules | `(tactic| walk_at "b") => `(tactic| try dsimp (config := { proj := false, iota := false, eta := false, zeta := false }) only)
section
variable {P : Program} {w : World} {K : PySem.W.Frag} {mg : Str → Option Value} {base : Heap} [pf : Sup.PF P fileS]
def sp_multiplied (K : PySem.W.Frag) : Sp := fun vs H Q _ => ∃ (a b : Addr) (As Bs : List Int), vs = [.ref a, .ref b] ∧ H a = some (.lst (As.map V.int)) ∧ H b = some (.lst (Bs.map V.int)) ∧ As.length ≤ 20 ∧ Bs.length ≤ 20 ∧ (∀ x ∈ As, x.natAbs ≤ 2 ^ 40) ∧ ∀ H' p, Same H H' → H p = none → H' p = some (.lst ((mulL As Bs).map V.int)) → Q (.ref p) H'
def sp_wrapped : Sp := fun vs H Q _ => ∃ (x : Int) (d : Nat), vs = [.int x, .int d] ∧ 1 ≤ d ∧ d ≤ 24 ∧ Q (.int ((x + 2 ^ (d - 1)) % (2 * 2 ^ (d - 1)) - 2 ^ (d - 1))) H
theorem G_wrapped (T : Top K mg) : FnOk P w K mg base CX0 1 T.f_wrapped T.fd_wrapped ["number", "depth"] sp_wrapped := by
  refine T.F_wrapped.ok sc_wrapped (fun vs H Q E h => by obtain ⟨x, d, rfl, _⟩ := h; rfl) (fun cdv A outer s H vs Q E hr h => ?_)
  obtain ⟨x, d, rfl, d1, d2, q⟩ := h
  refine ⟨_, PSs.nox (pss_cons (ps_set (i := 2) sc_wrapped.nd rfl (by first | exact Or.inl rfl | exact Or.inr rfl) (pe_op op_shl pe_int (pe_op op_sub (pv 1) pe_int)))
  (pss_one (ps_ret (pe_op op_sub (pe_op op_mod (pe_op op_add (pv 0) (pv 2)) (pe_op op_mul pe_int (pv 2))) (pv 2))))), ?_⟩
  refine ⟨_, rfl, _, _, rfl, rfl, _, _, rfl, rfl, ⟨by omega, by omega, by decide⟩, ?_⟩
  have hp := half_pos d
  dsimp only
  rw [show ((d : Int) - 1).toNat = d - 1 by omega, Int.one_mul]
  generalize (2 : Int) ^ (d - 1) = h at *
  refine ⟨_, rfl, _, rfl, _, _, rfl, rfl, _, rfl, _, _, rfl, rfl, .inl ⟨by decide, by decide⟩, _, _, rfl, rfl, (by dsimp only; omega), _, rfl, _, _, rfl, rfl, ?_⟩
  exact q
def sp_told_at : Sp := fun vs H Q _ => ∃ (a b : Addr) (ws xs : List Int) (k : Nat), vs = [.ref a, .ref b, .int k] ∧ H a = some (.lst (ws.map V.int)) ∧ H b = some (.lst (xs.map V.int)) ∧ ws.length ≤ 100 ∧ (∀ w ∈ ws, w.natAbs ≤ 2 ^ 40) ∧ ws.length ≤ k ∧ k ≤ xs.length ∧ xs.length ≤ 1000 ∧ ∀ H', Same H H' → Q (.int (sumN ws.length fun i => ws.getD i 0 * xs.getD (k - 1 - i) 0)) H'
end
end My

namespace My
open PySem PySem.Spec PyProof.Rows L2 Pre
/-! ### rows of rules, in a program: moved by a number of places -/
theorem joinS {b : Bool} {A : Prop} {R : L2.St → Hp → Prop} {σ : L2.St} {H : Hp} (Pv : L2.St → Hp → Prop) (cont : ∀ σ' H', Pv σ' H' → R σ' H') (h1 : b = true → (∀ σ' H', Pv σ' H' → R σ' H') → A) (h2 : b = false → Pv σ H) : if b = true then A else R σ H := by
  cases b with
  | true => exact h1 rfl cont
  | false => exact cont _ _ (h2 rfl)
/-- powers in a heap -/
def PowAt (N : Int) (ws : List Int) (p : Addr) (n : Nat) (H : Hp) : Prop := ∃ f : Nat → Int, H p = some (.lst (((List.range ws.length).map f).map V.int)) ∧ Mv N ws f n ∧ ∀ i, 0 ≤ f i ∧ f i < N
theorem PowAt.same {N : Int} {ws : List Int} {p : Addr} {n : Nat} {H H' : Hp} (s : Same H H') (h : PowAt N ws p n H) : PowAt N ws p n H' := by
  obtain ⟨f, e, r⟩ := h
  exact ⟨f, s _ _ e, r⟩
local macro_rules | `(tactic| walk_at "go") => `(tactic| repeat (first | (with_reducible first | refine iteT ?_ | refine iteF ?_ | refine iteNtt ?_ | refine iteNff ?_ | refine iteET (by omega) ?_ | refine iteEF (by omega) ?_ | refine iteENT (by omega) ?_ | refine iteENF (by omega) ?_ | refine iteDT (by omega) ?_ | refine iteDF (by omega) ?_ | refine iteNT (by omega) ?_ | refine iteNF (by omega) ?_) | refine ⟨_, rfl, ?_⟩ | refine ⟨_, _, rfl, rfl, ?_⟩ | refine ⟨_, _, rfl, ?_⟩ | refine ⟨rfl, ?_⟩ | refine .inl ⟨_, rfl, ?_⟩ | refine .inr ⟨_, rfl, ?_⟩))
local macro_rules | `(tactic| walk_at "b") => `(tactic| try dsimp (config := { proj := false, iota := false, eta := false, zeta := false }) only)
section
variable {P : Program} {w : World} {K : PySem.W.Frag} {mg : Str → Option Value} {base : Heap} [pf : Sup.PF P fileS]
def sp_moved_by : Sp := fun vs H Q _ => ∃ (a : Addr) (ws : List Int) (n : Nat) (N : Int), vs = [.ref a, .int n, .int N] ∧ H a = some (.lst (ws.map V.int)) ∧ GoodR ws ∧ 0 < N ∧ N ≤ 2 ^ 24 ∧ ∀ H' p, Same H H' → H p = none → PowAt N ws p n H' → Q (.ref p) H'
def sp_gone_on : Sp := fun vs H Q _ => ∃ (a b : Addr) (d : Nat) (ws fs : List Int) (m : Nat), vs = [.int d, .ref a, .ref b, .int m] ∧ H a = some (.lst (ws.map V.int)) ∧ H b = some (.lst (fs.map V.int)) ∧ GoodR ws ∧ fs.length = ws.length ∧ 1 ≤ d ∧ d ≤ 24 ∧ fs.length ≤ m ∧ m ≤ 900 ∧ ∀ H' p, Same H H' → H p = none → H' p = some (.lst (rowZ m (goR (2 ^ (d - 1)) ws fs))) → Q (.ref p) H'
def sp_dotted (K : PySem.W.Frag) : Sp := fun vs H Q _ => ∃ (a b : Addr) (ws xs : List Int), vs = [.ref a, .ref b] ∧ H a = some (.lst (ws.map V.int)) ∧ H b = some (.lst (xs.map V.int)) ∧ ws.length = xs.length ∧ ws.length ≤ 100 ∧ (∀ w ∈ ws, w.natAbs ≤ 2 ^ 40) ∧ ∀ H', Same H H' → Q (.int (sumN ws.length fun p => ws.getD p 0 * xs.getD p 0)) H'
end
end My

namespace My
open PySem PySem.Spec PyProof.Rows L2 Pre
/-! ### rows of rules, in a program: far samples -/
theorem cut_span {xs : List V} {a b : Nat} (h : a ≤ b) (hb : b ≤ xs.length) : cutV xs (some (a : Int)) (some (b : Int)) = (xs.drop a).take (b - a) := by
  unfold cutV
  rw [HT.sIx_nat, HT.sIx_nat, Nat.min_eq_left (by omega), Nat.min_eq_left (by omega)]
theorem row_span {n a b : Nat} (h : a ≤ b) (hb : b ≤ n) (f : Nat → Int) : ((rowZ n f).drop a).take (b - a) = ((List.range (b - a)).map fun p => f (a + p)).map V.int := by
  refine List.ext_getElem (by rw [List.length_take, List.length_drop, rowZ_len, List.length_map, List.length_map, List.length_range]; omega) fun i h1 h2 => ?_
  rw [List.length_map, List.length_map, List.length_range] at h2
  rw [List.getElem_take, List.getElem_drop, List.getElem_map, List.getElem_map, List.getElem_range]
  have := rowZ_get f (n := n) (i := a + i) (by omega)
  rw [List.getElem?_eq_getElem (by rw [rowZ_len]; omega)] at this
  exact Option.some.inj this
theorem rowZ_snoc (n : Nat) (f : Nat → Int) : rowZ n f ++ [V.int (f n)] = rowZ (n + 1) f := by
  unfold rowZ
  rw [List.range_succ, List.map_append]
  rfl
/-- samples of a depth -/
def Smp (d : Nat) (fs : List Int) : Prop := ∀ x ∈ fs, -(2 ^ (d - 1)) ≤ x ∧ x < 2 ^ (d - 1)
theorem far_eq {d : Nat} (d1 : 1 ≤ d) {ws fs : List Int} (hl : fs.length = ws.length) (hs : Smp d fs) {f : Nat → Int} {n : Nat} (hm : Mv (2 ^ d) ws f n) (i : Nat) :
    ((sumN ws.length fun p => f p * goR (2 ^ (d - 1)) ws fs (i + p)) + 2 ^ (d - 1)) % (2 * 2 ^ (d - 1)) - 2 ^ (d - 1) = goR (2 ^ (d - 1)) ws fs (i + n) := by
  refine wrap_eq (goR_range (half_pos d) hs _) ?_
  have hr := goR_fol (half_pos d) hl
  rw [two_half d1] at hr ⊢
  exact hm _ hr i
local macro_rules | `(tactic| walk_at "go") => `(tactic| repeat (first | (with_reducible first | refine iteT ?_ | refine iteF ?_ | refine iteNtt ?_ | refine iteNff ?_ | refine iteET (by omega) ?_ | refine iteEF (by omega) ?_ | refine iteENT (by omega) ?_ | refine iteENF (by omega) ?_ | refine iteDT (by omega) ?_ | refine iteDF (by omega) ?_ | refine iteNT (by omega) ?_ | refine iteNF (by omega) ?_) | refine ⟨_, rfl, ?_⟩ | refine ⟨_, _, rfl, rfl, ?_⟩ | refine ⟨_, _, rfl, ?_⟩ | refine ⟨rfl, ?_⟩ | refine .inl ⟨_, rfl, ?_⟩ | refine .inr ⟨_, rfl, ?_⟩))
local macro_rules | `(tactic| walk_at "b") => `(tactic| try dsimp (config := { proj := false, iota := false, eta := false, zeta := false }) only)
section
variable {P : Program} {w : World} {K : PySem.W.Frag} {mg : Str → Option Value} {base : Heap} [pf : Sup.PF P fileS]
def sp_state_at : Sp := fun vs H Q _ => ∃ (a b : Addr) (d : Nat) (ws fs : List Int) (n : Nat), vs = [.int d, .ref a, .ref b, .int n] ∧ H a = some (.lst (ws.map V.int)) ∧ H b = some (.lst (fs.map V.int)) ∧ GoodR ws ∧ fs.length = ws.length ∧ 1 ≤ d ∧ d ≤ 24 ∧ Smp d fs ∧ ∀ H' p, Same H H' → H' p = some (.lst (rowZ ws.length fun l => goR (2 ^ (d - 1)) ws fs (l + n))) → Q (.ref p) H'
end
end My

namespace My
open PySem PySem.Spec PyProof.Rows L2 Pre
/-! ### rows of rules, in a program: what is asked of firsts; samples anywhere -/
/-- a sample of a depth -/
def isS (d : Nat) : V → Bool
  | .int i => decide (-(2 ^ (d - 1)) ≤ i ∧ i < 2 ^ (d - 1))
  | _ => false
theorem Item.dp {K : PySem.W.Frag} {H : Hp} {x : V} (h : Item K H x) : ∃ d, Dp K H x d ∧ PyData.canLay0 d = true ∧ PyData.depth d ≤ 1 := by
  rcases h with ⟨i, rfl⟩ | ⟨_, _, d, a, b, c⟩
  · exact ⟨.int i, .int i, rfl, by rw [PyData.depth]; omega⟩
  · exact ⟨d, a, b, c⟩
theorem bad_dataP {K : PySem.W.Frag} {H : Hp} (p : V → Bool) : ∀ xs : List V, (∀ x ∈ xs, Item K H x) → ∃ ds, DpAll K H (xs.filter fun x => !p x) ds ∧ PyData.canLayAll0 ds = true ∧ PyData.depthAll ds ≤ 1 ∧ (ds = [] ↔ xs.all p = true)
  | [], _ => ⟨[], .nil, rfl, by rw [PyData.depthAll]; decide, by simp⟩
  | x :: r, h => by
    obtain ⟨ds, h1, h2, h3, h4⟩ := bad_dataP p r fun y hy => h y (List.mem_cons_of_mem _ hy)
    cases c : p x with
    | true => exact ⟨ds, by rw [List.filter_cons, if_neg (by rw [c]; decide)]; exact h1, h2, h3, by rw [h4, List.all_cons, c, Bool.true_and]⟩
    | false =>
      obtain ⟨d, a, b, e⟩ := (h x List.mem_cons_self).dp
      refine ⟨d :: ds, ?_, by rw [PyData.canLayAll0, h2, b]; rfl, by rw [PyData.depthAll]; omega, by simp [c]⟩
      rw [List.filter_cons, if_pos (by rw [c]; rfl)]
      exact .cons a h1
theorem all_smp {d : Nat} : ∀ {fs : List Int}, Smp d fs → (fs.map V.int).all (isS d) = true
  | [], _ => rfl
  | x :: r, h => by
    rw [List.map_cons, List.all_cons, all_smp (fs := r) fun y hy => h y (List.mem_cons_of_mem _ hy), Bool.and_true]
    exact decide_eq_true (h x List.mem_cons_self)
/-- what is no row of samples -/
def BadS (K : PySem.W.Frag) (H : Hp) (d : Nat) (v : V) : Prop := NoL K H v ∨ ∃ (a : Addr) (xs : List V), v = .ref a ∧ H a = some (.lst xs) ∧ xs.length ≤ 1000 ∧ (∀ x ∈ xs, Item K H x) ∧ xs.all (isS d) = false
theorem BadS.same {K : PySem.W.Frag} {H H' : Hp} {d : Nat} {v : V} (s : Same H H') (h : BadS K H d v) : BadS K H' d v := by
  rcases h with h | ⟨a, xs, e, h, l, r, k⟩
  · exact .inl (h.same s)
  · exact .inr ⟨a, xs, e, s _ _ h, l, fun x hx => (r x hx).same s, k⟩
/-- what are no firsts of a rule of m weights -/
def BadF (K : PySem.W.Frag) (H : Hp) (d m : Nat) (v : V) : Prop := BadS K H d v ∨ ∃ (a : Addr) (fs : List Int), v = .ref a ∧ H a = some (.lst (fs.map V.int)) ∧ Smp d fs ∧ fs.length ≤ 1000 ∧ fs.length ≠ m
theorem BadF.same {K : PySem.W.Frag} {H H' : Hp} {d m : Nat} {v : V} (s : Same H H') (h : BadF K H d m v) : BadF K H' d m v := by
  rcases h with h | ⟨a, xs, e, h, r⟩
  · exact .inl (h.same s)
  · exact .inr ⟨a, xs, e, s _ _ h, r⟩
local macro_rules | `(tactic| walk_at "go") => `(tactic| repeat (first | (with_reducible first | refine iteT ?_ | refine iteF ?_ | refine iteNtt ?_ | refine iteNff ?_ | refine iteET (by omega) ?_ | refine iteEF (by omega) ?_ | refine iteENT (by omega) ?_ | refine iteENF (by omega) ?_ | refine iteDT (by omega) ?_ | refine iteDF (by omega) ?_ | refine iteNT (by omega) ?_ | refine iteNF (by omega) ?_) | refine ⟨_, rfl, ?_⟩ | refine ⟨_, _, rfl, rfl, ?_⟩ | refine ⟨_, _, rfl, ?_⟩ | refine ⟨rfl, ?_⟩ | refine .inl ⟨_, rfl, ?_⟩ | refine .inr ⟨_, rfl, ?_⟩))
local macro_rules | `(tactic| walk_at "b") => `(tactic| try dsimp (config := { proj := false, iota := false, eta := false, zeta := false }) only)
section
variable {P : Program} {w : World} {K : PySem.W.Frag} {mg : Str → Option Value} {base : Heap} [pf : Sup.PF P fileS]
def sp_is_sample (K : PySem.W.Frag) : Sp := fun vs H Q _ => ∃ (v : V) (d : Nat) (b : Bool), vs = [v, .int d] ∧ 1 ≤ d ∧ d ≤ 24 ∧ NumV K H v (0 - 2 ^ (d - 1)) (some (2 ^ (d - 1) - 1)) b ∧ Q (.bl b) H
theorem G_is_sample (T : Top K mg) : FnOk P w K mg base CX0 3 T.f_is_sample T.fd_is_sample ["value", "depth"] (sp_is_sample K) := by
  refine T.F_is_sample.ok sc_is_sample (fun vs H Q E h => by obtain ⟨v, d, b, rfl, _⟩ := h; rfl) (fun cdv A outer s H vs Q E hr h => ?_)
  obtain ⟨v, d, b, rfl, d1, d2, hv, q⟩ := h
  refine ⟨_, PSs.nox (pss_one (ps_ret (pe_call (G_is_between (P := P) T) (hr.mono (by decide)) (by rfl) T.g_is_between T.F_is_between.kp T.b_is_between .nil pass0 (pa_cons (pv 0) (pa_cons (pe_op op_sub pe_int (pe_op op_shl pe_int (pe_op op_sub (pv 1) pe_int))) (pa_cons (pe_op op_sub (pe_op op_shl pe_int (pe_op op_sub (pv 1) pe_int)) pe_int) pa_nil)))))), ?_⟩
  refine ⟨_, rfl, _, rfl, _, _, rfl, rfl, _, _, rfl, rfl, ⟨by omega, by omega, by decide⟩, _, _, rfl, rfl, _, rfl, _, _, rfl, rfl, _, _, rfl, rfl, ⟨by omega, by omega, by decide⟩, _, _, rfl, rfl, ?_⟩
  refine ⟨v, _, some _, b, rfl, ?_, q⟩
  rw [show ((d : Int) - 1).toNat = d - 1 by omega, Int.one_mul]
  exact hv
def sp_are_samples (K : PySem.W.Frag) : Sp := fun vs H Q _ => ∃ (v : V) (d : Nat), vs = [v, .int d] ∧ 1 ≤ d ∧ d ≤ 24 ∧ ((NoL K H v ∧ Q (.bl false) H) ∨ ∃ (a : Addr) (xs : List V), v = .ref a ∧ H a = some (.lst xs) ∧ xs.length ≤ 1000 ∧ (∀ x ∈ xs, Item K H x) ∧ ∀ H', Same H H' → Q (.bl (xs.all (isS d))) H')
theorem G_are_samples (T : Top K mg) : FnOk P w K mg base CX0 4 T.f_are_samples T.fd_are_samples ["value", "depth"] (sp_are_samples K) := by
  refine T.F_are_samples.ok sc_are_samples (fun vs H Q E h => by obtain ⟨v, d, rfl, _⟩ := h; rfl) (fun cdv A outer s H vs Q E hr h => ?_)
  obtain ⟨v, d, rfl, d1, d2, h⟩ := h
  refine ⟨_, PSs.nox (pss_one (ps_ret (pe_and (pe_callB (k_isi K rfl) (by rfl) T.n_isinstance (by decide +kernel) (pa_cons (pv 0) (pa_cons (pe_bltn (v := .ty "list") (by rfl) T.n_list (by decide +kernel) rfl) pa_nil))) (pe_one (pe_cmpR (k_eqD K rfl hr.units) (pe_lc (own := [("item", 2)]) (g := gName 2) (by rfl) sc_are_samples.nd (k_piL K rfl (pv 0)) (blkOk_by (own := [("item", 2)]) (N := N_are_samples) (sc := defScope s_are_samples) (by decide +kernel)) (fun _ _ _ _ _ => (pg_name (i := 2) sc_are_samples.nd rfl (by first | exact Or.inl rfl | exact Or.inr rfl))) (fun _ _ _ _ _ => (pts_one (pt_not (pt_val (pe_call (G_is_sample (P := P) T) (hr.mono (by decide)) (by rfl) T.g_is_sample T.F_is_sample.kp T.b_is_sample .nil pass0 (pa_cons (pv 2) (pa_cons (pv 1) pa_nil))))))) (fun _ _ _ _ _ => (pv 2))) (pe_lst pa_nil) (nomark _)))))), ?_⟩
  rcases h with ⟨⟨T, ty, hT⟩, q⟩ | ⟨a, xs, rfl, ha, hz, hs, q⟩
  · exact ⟨_, rfl, _, _, _, _, false, rfl, .ty _, ty, kit_ty hT, false, rfl, iteF q⟩
  · refine ⟨_, rfl, _, _, _, _, true, rfl, .ty _, .base (.lst ha), kit_ty (by decide +kernel), true, rfl, iteT ?_⟩
    refine ⟨_, rfl, a, rfl, ⟨_, .inl (.inl ha)⟩, fun D nD => ?_⟩
    refine lc_selL (K := K) (xs := xs) (xs.map fun x => if (!isS d x) = true then some x else none) nD (.inl (.inl ha)) (by rw [List.length_map]) (small4 (by omega)) (fun x => rfl) ?_ ?_
    · intro i x o H' hx ho s Qt qt
      rw [List.getElem?_map, hx] at ho
      cases ho
      dsimp only at qt
      have hN : NumV K H' x (0 - 2 ^ (d - 1)) (some (2 ^ (d - 1) - 1)) (isS d x) := by
        rcases hs x (List.mem_of_getElem? hx) with ⟨i, rfl⟩ | ⟨a, b, _⟩
        · refine .inl ⟨i, rfl, ?_⟩
          show decide (-(2 ^ (d - 1)) ≤ i ∧ i < 2 ^ (d - 1)) = _
          rw [decide_eq_decide]
          generalize (2 : Int) ^ (d - 1) = h
          exact ⟨fun z => ⟨by omega, fun j e => by cases e; omega⟩, fun z => ⟨by omega, by have := z.2 _ rfl; omega⟩⟩
        · refine .inr ⟨b.same s, ?_⟩
          cases x with
          | int i => cases a
          | _ => rfl
      refine ⟨_, rfl, _, rfl, x, d, isS d x, rfl, d1, d2, hN, _, rfl, ?_⟩
      cases c : isS d x with
      | true =>
        rw [c] at qt
        exact iteF (qt _ (Same.refl _))
      | false =>
        rw [c] at qt
        exact iteT ⟨_, rfl, qt _ (Same.refl _)⟩
    · intro H1 s1 hD
      obtain ⟨ds, e1, e2, e3, e4⟩ := bad_dataP (isS d) xs hs
      have ef : (xs.map fun x => if (!isS d x) = true then some x else none).filterMap id = xs.filter fun x => !isS d x := by
        clear hD e1 e2 e3 e4 ha hz hs q
        induction xs with
        | nil => rfl
        | cons x r ih =>
          rw [List.map_cons, List.filterMap_cons, List.filter_cons]
          by_cases c : (!isS d x) = true
          · rw [if_pos c, if_pos c, ← ih]; rfl
          · rw [if_neg c, if_neg c, ← ih]; rfl
      rw [ef] at hD
      refine ⟨Nat.zero_le _, fun p np => ?_⟩
      have sh : SeqAt.shaped (.list ds) = true := by
        unfold SeqAt.shaped
        rw [PyData.canLay0, e2, PyData.depth, Bool.true_and]
        exact decide_eq_true (by omega)
      refine ⟨.list ds, .list [], .lst (.inl (.inl (same_upd np _ _ hD))) (dpAll_same (s1.trans (same_upd np)) e1), .lst (.inl (.inl upd_same)) .nil, sh, rfl, ?_⟩
      have ee : PyData.eqv (.list ds) (.list []) = xs.all (isS d) := by
        rw [Bool.eq_iff_iff, ← e4]
        cases ds with
        | nil => exact ⟨fun _ => rfl, fun _ => rfl⟩
        | cons y r => exact ⟨fun h => (by cases h), fun h => (by cases h)⟩
      rw [ee]
      exact q _ (s1.trans (same_upd np))
def sp_check_firsts (K : PySem.W.Frag) (C : Addr) : Sp := fun vs H Q E => ∃ (d : Nat) (b : Addr) (ws : List Int) (v : V), vs = [.int d, .ref b, v] ∧ 1 ≤ d ∧ d ≤ 24 ∧ H b = some (.lst (ws.map V.int)) ∧
  ((∃ (a : Addr) (fs : List Int), v = .ref a ∧ H a = some (.lst (fs.map V.int)) ∧ Smp d fs ∧ fs.length = ws.length ∧ fs.length ≤ 1000 ∧ ∀ H', Same H H' → Q .non H') ∨
  (BadF K H d ws.length v ∧ ∀ H' dd, Same H H' → H' dd = none → E (.ref C) (some dd) (upd H' dd (.xd [("value", v)]))))
theorem goR_nil {h : Int} (hh : 0 < h) {fs : List Int} (e : fs.length = 0) (n : Nat) : goR h [] fs n = 0 := by
  obtain rfl := List.length_eq_zero_iff.mp e
  rw [← goL_at (k := n + 1) (by simp), goL, List.getD_eq_getElem?_getD, List.getElem?_append_right (by rw [goL_len]; simp), goL_len, show n - (([] : List Int).length + n) = 0 by simp]
  show nxtR h [] (goL h [] [] n) = 0
  unfold nxtR
  show ((0 : Int) + h) % (2 * h) - h = 0
  rw [Int.zero_add, Int.emod_eq_of_lt (by omega) (by omega), Int.sub_self]
def sp_sample_at (K : PySem.W.Frag) (CD CW CR CN : Addr) : Sp := fun vs H Q E => ∃ v u x y : V, vs = [v, u, x, y] ∧
  ((∃ d : Nat, v = .int d ∧ 1 ≤ d ∧ d ≤ 24 ∧
    ((∃ (a : Addr) (ws : List Int), u = .ref a ∧ H a = some (.lst (ws.map V.int)) ∧ GoodR ws ∧
      ((∃ (b : Addr) (fs : List Int), x = .ref b ∧ H b = some (.lst (fs.map V.int)) ∧ Smp d fs ∧ fs.length = ws.length ∧
        ((∃ n : Nat, y = .int n ∧ n ≤ 10 ^ 18 ∧ ∀ H', Same H H' → Q (.int (goR (2 ^ (d - 1)) ws fs n)) H') ∨
          (NumV K H y 0 (some (10 ^ 18)) false ∧ ∀ H' dd, Same H H' → H' dd = none → E (.ref CN) (some dd) (upd H' dd (.xd [("value", y)]))))) ∨
        (BadF K H d ws.length x ∧ ∀ H' dd, Same H H' → H' dd = none → E (.ref CR) (some dd) (upd H' dd (.xd [("value", x)]))))) ∨
      (BadR K H u ∧ ∀ H' dd, Same H H' → H' dd = none → E (.ref CW) (some dd) (upd H' dd (.xd [("value", u)]))))) ∨
   (NumV K H v 1 (some 24) false ∧ ∀ H' dd, Same H H' → H' dd = none → E (.ref CD) (some dd) (upd H' dd (.xd [("value", v)]))))
end
end My

namespace My
open PySem PySem.Spec PyProof.Rows L2 Pre
/-! ### counts refused: guessers, widths -/
theorem small1000 {n : Nat} (h : n ≤ 1000) : n < sizeLine := by rw [sizeLine_eq]; omega
def EE (H : Hp) (E : XK) (C : Addr) (v : V) : Prop := ∀ H' dd, Same H H' → H' dd = none → E (.ref C) (some dd) (upd H' dd (.xd [("value", v)]))
theorem EE.same {H H1 : Hp} {E : XK} {C : Addr} {v : V} (s : Same H H1) (h : EE H E C v) : EE H1 E C v := fun H' dd s' nd => h H' dd (s.trans s') nd
def Weights (ws : List Int) : Prop := ws.length ≤ 8 ∧ ∀ n ∈ ws, -32768 ≤ n ∧ n ≤ 32768
/-- no guesser -/
def NoG (K : PySem.W.Frag) (H : Hp) (v : V) : Prop := ∃ T ∈ notTys, TyX K H v (.type T)
theorem NoG.same {K : PySem.W.Frag} {H H' : Hp} {v : V} (s : Same H H') (h : NoG K H v) : NoG K H' v := by
  obtain ⟨T, m, ty⟩ := h
  exact ⟨T, m, ty.same s⟩
def IsG (C : Addr) (H : Hp) (v : V) : Prop := ∃ a dx fs, v = .ref a ∧ H a = some (.ins C dx fs)
theorem IsG.same {C : Addr} {H H' : Hp} {v : V} (s : Same H H') (h : IsG C H v) : IsG C H' v := by
  obtain ⟨a, dx, fs, e, h⟩ := h
  exact ⟨a, dx, fs, e, s _ _ h⟩
theorem tyx_ins {K : PySem.W.Frag} {H : Hp} {a C dx : Addr} {fs : List (Str × V)} (c : C8.InsC K C) (h : H a = some (.ins C dx fs)) : TyX K H (.ref a) (.ref C) := .base (.ins h c.cl c.ha c.hn c.htk c.hm)
local macro_rules | `(tactic| walk_at "go") => `(tactic| repeat (first | (with_reducible first | refine iteT ?_ | refine iteF ?_ | refine iteNtt ?_ | refine iteNff ?_ | refine iteET (by omega) ?_ | refine iteEF (by omega) ?_ | refine iteENT (by omega) ?_ | refine iteENF (by omega) ?_ | refine iteDT (by omega) ?_ | refine iteDF (by omega) ?_ | refine iteNT (by omega) ?_ | refine iteNF (by omega) ?_) | refine ⟨_, rfl, ?_⟩ | refine ⟨_, _, rfl, rfl, ?_⟩ | refine ⟨_, _, rfl, ?_⟩ | refine ⟨rfl, ?_⟩ | refine .inl ⟨_, rfl, ?_⟩ | refine .inr ⟨_, rfl, ?_⟩))
local macro_rules | `(tactic| walk_at "b") => `(tactic| try dsimp (config := { proj := false, iota := false, eta := false, zeta := false }) only)
section
variable {P : Program} {w : World} {K : PySem.W.Frag} {mg : Str → Option Value} {base : Heap} [pf : Sup.PF P fileS]
def sp_check_guesser (K : PySem.W.Frag) (CG CE : Addr) : Sp := fun vs H Q E => ∃ v : V, vs = [v] ∧ ((IsG CG H v ∧ Q .non H) ∨ (NoG K H v ∧ EE H E CE v))
theorem G_check_guesser (T : Top K mg) : FnOk P w K mg base (L2.CX P w) 3 T.f_check_guesser T.fd_check_guesser ["value"] (sp_check_guesser K T.C_Guesser T.C_InvalidGuesser) := by
  refine T.F_check_guesser.ok (CX := L2.CX P w) sc_check_guesser (fun vs H Q E h => by obtain ⟨v, rfl, _⟩ := h; rfl) (fun cdv A outer s H vs Q E hr h => ?_)
  obtain ⟨v, rfl, h⟩ := h
  refine ⟨_, (pss_one (ps_if (pt_not (pt_val (pe_callB (k_isi K rfl) (by rfl) T.n_isinstance (by decide +kernel) (pa_cons (pv 0) (pa_cons (pe_glob (v := .ref T.C_Guesser) rfl T.gc_Guesser rfl) pa_nil)))))
    (pss_one (ps_raise rfl (takes_of rfl rfl rfl rfl) (pmk_oex T.er_InvalidGuesser.sup.T T.er_InvalidGuesser.ini T.er_InvalidGuesser.ity (G_InvalidGuesser___init__ (P := P) (CX := CX0) T) (hr.mono (by decide)) T.er_InvalidGuesser.bnd .nil pass0 (by rfl) T.gc_InvalidGuesser (pa_cons (pv 0) pa_nil))))
    pss_nil)), ?_⟩
  rcases h with ⟨⟨a, dx, fs, rfl, ha⟩, q⟩ | ⟨⟨Ty, hT, ty⟩, q⟩
  · exact ⟨_, rfl, _, _, _, _, true, rfl, .own _, tyx_ins T.ic_Guesser ha, T.ic_Guesser.me, true, rfl, iteF q⟩
  · exact ⟨_, rfl, _, _, _, _, false, rfl, .own _, ty, T.kx_Guesser Ty hT, false, rfl, iteT ⟨_, rfl, mk_sup fun dd nd => q _ dd (Same.refl _) nd⟩⟩
def sp_check_width (K : PySem.W.Frag) (C : Addr) : Sp := fun vs H Q E => ∃ (v : V) (hi : Int) (b : Bool), vs = [v, .int hi] ∧ NumV K H v 0 (some hi) b ∧ (b = true → Q .non H) ∧ (b = false → ∀ d, H d = none → E (.ref C) (some d) (upd H d (.xd [("value", v)])))
theorem G_check_width (T : Top K mg) : FnOk P w K mg base (L2.CX P w) 3 T.f_check_width T.fd_check_width ["width", "depth"] (sp_check_width K T.C_InvalidWidth) := by
  refine T.F_check_width.ok (CX := L2.CX P w) sc_check_width (fun vs H Q E h => by obtain ⟨v, hi, b, rfl, _⟩ := h; rfl) (fun cdv A outer s H vs Q E hr h => ?_)
  obtain ⟨v, hi, b, rfl, hv, q1, q2⟩ := h
  refine ⟨_, (pss_one (ps_if (pt_not (pt_val (pe_call (G_is_between (P := P) T) (hr.mono (by decide)) (by rfl) T.g_is_between T.F_is_between.kp T.b_is_between .nil pass0 (pa_cons (pv 0) (pa_cons pe_int (pa_cons (pv 1) pa_nil))))))
    (pss_one (ps_raise rfl (takes_of rfl rfl rfl rfl) (pmk_oex T.er_InvalidWidth.sup.T T.er_InvalidWidth.ini T.er_InvalidWidth.ity (G_InvalidWidth___init__ (P := P) (CX := CX0) T) (hr.mono (by decide)) T.er_InvalidWidth.bnd .nil pass0 (by rfl) T.gc_InvalidWidth (pa_cons (pv 0) pa_nil))))
    pss_nil)), ?_⟩
  refine ⟨_, rfl, _, rfl, v, 0, some hi, b, rfl, hv, _, rfl, ?_⟩
  cases b with
  | true => exact iteF (q1 rfl)
  | false => exact iteT ⟨_, rfl, mk_sup fun d nd => q2 rfl d nd⟩
def sp_Guesser___init__ (C : Addr) (K : PySem.W.Frag) : Sp := fun vs H Q _ => ∃ (x a dx : Addr) (ws : List Int) (sh : Nat), vs = [.ref x, .ref a, .int sh] ∧ H x = some (.ins C dx []) ∧ H a = some (.lst (ws.map V.int)) ∧ Weights ws ∧ sh ≤ 15 ∧
  ∀ H', (∀ b o, b ≠ x → H b = some o → H' b = some o) → (∃ dx fs, H' x = some (.ins C dx fs)) → Q .non H'
theorem G_Guesser___init__ (T : Top K mg) : FnOk P w K mg base CX0 3 T.f_Guesser___init__ T.fd_Guesser___init__ ["self", "weights", "shift"] (sp_Guesser___init__ T.C_Guesser K) := by
  refine T.F_Guesser___init__.ok sc_Guesser___init__ (fun vs H Q E h => by obtain ⟨x, a, dx, ws, sh, rfl, _⟩ := h; rfl) (fun cdv A outer s H vs Q E hr h => ?_)
  obtain ⟨x, a, dx, ws, sh, rfl, hx, hA, hW, hsh, q⟩ := h
  refine ⟨_, PSs.nox (pss_cons (ps_if (PW.pt (pw_or (pt_not (pt_val (pe_callB (k_isi K rfl) (by rfl) T.n_isinstance (by decide +kernel) (pa_cons (pv 1) (pa_cons (pe_bltn (v := .ty "list") (by rfl) T.n_list (by decide +kernel) rfl) pa_nil))))) (pw_or1 (pt_cmpR op_gt (pe_callB (k_len K rfl) (by rfl) T.n_len (by decide +kernel) (pa_cons (pv 1) pa_nil)) (pe_glob (v := .int 8) rfl T.m_MOST_ORDER ⟨_, rfl⟩) (nomark _)))))
    (pss_one ps_never)
    pss_nil)
  (pss_cons (ps_for PassesOwn.never rfl (k_piL K rfl (pv 1)) (pg_name (i := 3) sc_Guesser___init__.nd rfl (by first | exact Or.inl rfl | exact Or.inr rfl))
    (pss_one (ps_if (pt_not (pt_val (pe_call (G_is_between (P := P) T) (hr.mono (by decide)) (by rfl) T.g_is_between T.F_is_between.kp T.b_is_between .nil pass0 (pa_cons (pv 3) (pa_cons (pe_un un_neg (pe_glob (v := .int 32768) rfl T.m_MOST_WEIGHT ⟨_, rfl⟩)) (pa_cons (pe_glob (v := .int 32768) rfl T.m_MOST_WEIGHT ⟨_, rfl⟩) pa_nil))))))
    (pss_one ps_never)
    pss_nil)))
  (pss_cons (ps_if (pt_not (pt_val (pe_call (G_is_between (P := P) T) (hr.mono (by decide)) (by rfl) T.g_is_between T.F_is_between.kp T.b_is_between .nil pass0 (pa_cons (pv 2) (pa_cons pe_int (pa_cons (pe_glob (v := .int 15) rfl T.m_MOST_SHIFT ⟨_, rfl⟩) pa_nil))))))
    (pss_one ps_never)
    pss_nil)
  (pss_cons (ps_fld (pv 0) (pe_callTy (k_listOf K rfl) (by rfl) T.n_list (by decide +kernel) (pa_cons (pv 1) pa_nil)) rfl)
  (pss_one (ps_fld (pv 0) (pv 2) rfl)))))), ?_⟩
  have hS : SqL K H a (ws.map V.int) := .inl (.inl hA)
  refine ⟨_, rfl, _, _, _, _, true, rfl, .ty _, .base (.lst hA), kit_ty (by decide +kernel), true, rfl, iteF ?_⟩
  refine ⟨_, rfl, a, _, rfl, .inl hS, _, _, rfl, rfl, _, rfl, ?_⟩
  rw [List.length_map, decide_eq_false (show ¬ (ws.length : Int) > 8 by have := hW.1; omega)]
  refine iteF ?_
  refine ⟨_, rfl, a, rfl, ⟨_, hS⟩, for_list (K := K) (a := a) (xs := ws.map V.int) (fun i σ H1 => ∃ v, σ = [some (.ref x), some (.ref a), some (.int sh), v] ∧ H1 = H) ⟨none, rfl, rfl⟩ (fun i σ H1 _ ⟨_, _, e⟩ => by rw [e]; exact hS) ?_ ?_⟩
  · rintro i v σ H1 hv ⟨v3, rfl, rfl⟩
    obtain ⟨n, hn, rfl⟩ := int_at hv
    have hb := hW.2 n (List.mem_of_getElem? hn)
    exact ⟨_, rfl, _, rfl, .int n, -32768, some 32768, true, rfl, .inl ⟨n, rfl, (decide_eq_true ⟨hb.1, fun j h => by cases h; exact hb.2⟩).symm⟩, _, rfl, iteF ⟨_, rfl, rfl⟩⟩
  · rintro σ H1 ⟨v3, rfl, rfl⟩
    refine ⟨_, rfl, .int (sh : Int), 0, some 15, true, rfl, .inl ⟨_, rfl, (decide_eq_true ⟨by omega, fun j h => by cases h; omega⟩).symm⟩, _, rfl, iteF ?_⟩
    refine ⟨_, rfl, a, _, rfl, .inl hS, fun p np => ?_⟩
    have npx : p ≠ x := (ne_of_none hx np).symm
    have hx1 : (upd H1 p (.lst (ws.map V.int))) x = some (.ins T.C_Guesser dx []) := same_upd np _ _ hx
    refine ⟨_, rfl, x, T.C_Guesser, dx, [], rfl, hx1, T.cl_Guesser, T.na_Guesser_parts, by decide, ?_⟩
    refine ⟨_, rfl, _, rfl, x, T.C_Guesser, dx, _, rfl, upd_same, T.cl_Guesser, T.na_Guesser_down, (by show 1 < 1000; decide), ?_⟩
    refine q _ (fun b o nb hb => ?_) ⟨dx, _, upd_same⟩
    rw [upd_ne nb, upd_ne nb]
    exact same_upd np _ _ hb
def sp_law_weights : Sp := fun vs H Q _ => ∃ (g : Addr) (m : Nat) (n : Nat), vs = [.ref g, .int m] ∧ GenAt H g n ∧ n ≤ 10 ^ 9 ∧ m ≤ 8 ∧
  ∀ H' p ws, But g H H' → H p = none → H' p = some (.lst (ws.map V.int)) → GenAt H' g (n + 10000) → Weights ws → ws.length = m → Q (.ref p) H'
theorem G_law_weights (T : Top K mg) : FnOk P w K mg base CX0 3 T.f_law_weights T.fd_law_weights ["_law_generator_here", "_law_many"] sp_law_weights := by
  refine T.F_law_weights.ok sc_law_weights (fun vs H Q E h => by obtain ⟨g, m, n, rfl, _⟩ := h; rfl) (fun cdv A outer s H vs Q E hr h => ?_)
  obtain ⟨g, m, n, rfl, hG, hn, hm, q⟩ := h
  refine ⟨_, PSs.nox (pss_cons (ps_set (i := 2) sc_law_weights.nd rfl (by first | exact Or.inl rfl | exact Or.inr rfl) (pe_lst pa_nil))
  (pss_cons (ps_for PassesOwn.never rfl (pi_range1 (by rfl) T.n_range (pa_cons (pv 1) pa_nil)) (pg_name (i := 3) sc_law_weights.nd rfl (by first | exact Or.inl rfl | exact Or.inr rfl))
    (pss_cons (ps_par (by rfl) sc_law_weights.nd (i := 4) (j := 5) rfl rfl (by decide) rfl rfl (pa_cons (pe_op op_sub (pe_call (G_law_random (P := P) T) (hr.mono (by decide)) (by rfl) T.g_law_random T.F_law_random.kp T.b_law_random .nil pass0 (pa_cons (pv 0) (pa_cons (pe_op op_add (pe_op op_powW pe_int pe_int) pe_int) pa_nil))) (pe_op op_powW pe_int pe_int)) (pa_cons (pe_call (G_law_random (P := P) T) (hr.mono (by decide)) (by rfl) T.g_law_random T.F_law_random.kp T.b_law_random .nil pass0 (pa_cons (pv 0) (pa_cons pe_int pa_nil))) pa_nil)) (by rfl))
  (pss_one (ps_expr (pe_bm PySem.F.plainAttrs_list PySem.F.slot_list_append PySem.F.type_list_append mt_append (pv 2) (pa_cons (pe_ix (k_ixL K rfl) (pe_lst (pa_cons (pe_op op_sub (pe_call (G_law_random (P := P) T) (hr.mono (by decide)) (by rfl) T.g_law_random T.F_law_random.kp T.b_law_random .nil pass0 (pa_cons (pv 0) (pa_cons pe_int pa_nil))) pe_int) (pa_cons (pe_op op_sub (pe_call (G_law_random (P := P) T) (hr.mono (by decide)) (by rfl) T.g_law_random T.F_law_random.kp T.b_law_random .nil pass0 (pa_cons (pv 0) (pa_cons pe_int pa_nil))) pe_int) (pa_cons pe_int (pa_cons (pv 4) pa_nil))))) (pv 5) (fun _ _ => rfl)) pa_nil))))))
  (pss_one (ps_ret (pv 2))))), ?_⟩
  refine ⟨Nat.zero_le _, fun p np => ?_⟩
  have npg : p ≠ g := hG.ne np
  obtain ⟨H1, e1, s1, h1⟩ := fresh (.lst []) np
  rw [e1]
  refine ⟨_, rfl, _, rfl, by omega, by omega, ?_⟩
  rw [Int.toNat_natCast]
  refine for_range (lo := 0) (n := m) (fun i σ H2 => ∃ (v3 v4 v5 : Option V) (ws : List Int), σ = [some (.ref g), some (.int m), some (.ref p), v3, v4, v5] ∧ But g H H2 ∧ H2 p = some (.lst (ws.map V.int)) ∧ (∀ x ∈ ws, -32768 ≤ x ∧ x ≤ 32768) ∧ ws.length = i ∧ GenAt H2 g (n + 400 * i))
    ⟨none, none, none, [], rfl, But.of s1, h1, (fun _ h => nomatch h), rfl, hG.same s1⟩ ?_ ?_
  · rintro i σ H2 hi ⟨v3, v4, v5, ws, rfl, b2, hp2, hW, hl, g2⟩
    refine ⟨_, rfl, _, _, rfl, rfl, ⟨by decide, by decide +kernel⟩, _, _, rfl, rfl, g, _, _, rfl, g2, by omega, by decide, small_2900 (by decide), fun r1 H3 r10 r11 g3 b3 => ?_⟩
    refine ⟨_, _, rfl, rfl, ⟨by decide, by decide +kernel⟩, _, _, rfl, rfl, _, rfl, g, _, _, rfl, g3, by omega, by decide, small_2900 (by decide), fun kd H4 k0 k1 g4 b4 => ?_⟩
    refine ⟨_, _, rfl, ?_⟩
    have hp4 : H4 p = some (.lst (ws.map V.int)) := b4 _ _ npg (b3 _ _ npg hp2)
    refine ⟨_, rfl, .inl ⟨rfl, _, .inl (.inl hp4)⟩, ?_⟩
    refine ⟨_, rfl, g, _, _, rfl, g4, by omega, by decide, small_2900 (by decide), fun r2 H5 r20 r21 g5 b5 => ?_⟩
    refine ⟨_, _, rfl, rfl, _, rfl, g, _, _, rfl, g5, by omega, by decide, small_2900 (by decide), fun r3 H6 r30 r31 g6 b6 => ?_⟩
    refine ⟨_, _, rfl, rfl, _, rfl, (show 4 ≤ sizeLine by decide), fun c nc => ?_⟩
    have hp6 : H6 p = some (.lst (ws.map V.int)) := b6 _ _ npg (b5 _ _ npg hp4)
    have e16 : (2 : Int) ^ (16 : Int).toNat = 65536 := by decide
    have e15 : (2 : Int) ^ (15 : Int).toNat = 32768 := by decide
    rw [e16] at r11
    obtain ⟨H7, e7, s7, h7⟩ := fresh (.lst [V.int (r2 - 4), V.int (r3 - 2), V.int 0, V.int (r1 - 2 ^ (15 : Int).toNat)]) nc
    dsimp only
    rw [e7]
    have hx : ∃ y : Int, atI [V.int (r2 - 4), V.int (r3 - 2), V.int 0, V.int (r1 - 2 ^ (15 : Int).toNat)] kd = some (.int y) ∧ -32768 ≤ y ∧ y ≤ 32768 := by
      rw [e15]
      have hk : kd = 0 ∨ kd = 1 ∨ kd = 2 ∨ kd = 3 := by omega
      rcases hk with rfl | rfl | rfl | rfl
      · exact ⟨_, rfl, by omega, by omega⟩
      · exact ⟨_, rfl, by omega, by omega⟩
      · exact ⟨_, rfl, by omega, by omega⟩
      · exact ⟨_, rfl, by omega, by omega⟩
    obtain ⟨y, ay, y0, y1⟩ := hx
    refine ⟨_, rfl, c, _, _, _, rfl, rfl, .inl (.inl h7), ay, p, _, _, rfl, rfl, s7 _ _ hp6, by rw [List.length_map]; exact small1000 (by omega), ?_⟩
    have b27 : But g H2 H7 := ((((b3.trans b4).trans b5).trans b6).same s7)
    refine ⟨_, _, _, ws ++ [y], rfl, ?_, ?_, ?_, ?_, ?_⟩
    · intro b o z h
      rw [upd_ne (ne_of_none h np)]
      exact b27 _ _ z (b2 _ _ z h)
    · rw [upd_same, List.map_append]
      rfl
    · intro x hx
      rcases List.mem_append.mp hx with hx | hx
      · exact hW x hx
      · rw [List.mem_singleton.mp hx]
        exact ⟨y0, y1⟩
    · rw [List.length_append, hl]
      rfl
    · obtain ⟨x1, x2, x3, e, a1, a2⟩ := g6
      refine ⟨x1, x2, x3, ?_, a1, by omega⟩
      rw [upd_ne npg.symm]
      exact s7 _ _ e
  · rintro σ H2 ⟨v3, v4, v5, ws, rfl, b2, hp2, hW, hl, g2⟩
    exact ⟨_, rfl, q _ p ws b2 np hp2 (g2.mono (by omega)) ⟨by omega, hW⟩ hl⟩
end
end My

namespace My
open PySem PySem.Spec PyProof.Rows L2 Pre
/-! ### counts refused: what is wrong -/
/-- the error's class: 0 guesser, 1 depth, 2 width, 3 number, 4 row -/
def csT {K : PySem.W.Frag} {mg : Str → Option Value} (T : Top K mg) : Nat → Addr
  | 0 => T.C_InvalidGuesser
  | 1 => T.C_InvalidDepth
  | 2 => T.C_InvalidWidth
  | 3 => T.C_InvalidNumber
  | _ => T.C_InvalidRow
def OkDW (d w : V) (dd ww : Nat) : Prop := d = .int dd ∧ w = .int ww ∧ 1 ≤ dd ∧ dd ≤ 24 ∧ ww ≤ dd
def BadD (K : PySem.W.Frag) (H : Hp) (d : V) (kind : Nat) (x : V) : Prop := kind = 1 ∧ x = d ∧ NumV K H d 1 (some 24) false
def BadDW (K : PySem.W.Frag) (H : Hp) (d w : V) (kind : Nat) (x : V) : Prop := BadD K H d kind x ∨ ∃ dd : Nat, d = .int dd ∧ 1 ≤ dd ∧ dd ≤ 24 ∧ kind = 2 ∧ x = w ∧ NumV K H w 0 (some dd) false
def BadM (K : PySem.W.Frag) (H : Hp) (d w m : V) (kind : Nat) (x : V) : Prop := BadDW K H d w kind x ∨ ∃ dd ww : Nat, OkDW d w dd ww ∧ kind = 3 ∧ x = m ∧ NumV K H m 0 (some 200) false
def BadHM (K : PySem.W.Frag) (H : Hp) (d w m s : V) (kind : Nat) (x : V) : Prop := BadM K H d w m kind x ∨ ∃ dd ww mm : Nat, OkDW d w dd ww ∧ m = .int mm ∧ mm ≤ 200 ∧ kind = 3 ∧ x = s ∧ NumV K H s 0 none false
def BadRw (K : PySem.W.Frag) (H : Hp) (dd : Nat) (r : V) : Prop := BadS K H dd r ∨ ∃ (a : Addr) (fs : List Int), r = .ref a ∧ H a = some (.lst (fs.map V.int)) ∧ Smp dd fs ∧ 200 < fs.length ∧ fs.length ≤ 1000
def Ok4 (d w m s : V) (dd : Nat) : Prop := d = .int dd ∧ w = .int dd ∧ m = .int 1 ∧ s = .int (dd + 1) ∧ 1 ≤ dd ∧ dd ≤ 24
theorem BadD.same {K : PySem.W.Frag} {H H' : Hp} {d : V} {kind : Nat} {x : V} (s : Same H H') (h : BadD K H d kind x) : BadD K H' d kind x := ⟨h.1, h.2.1, h.2.2.same s⟩
theorem BadDW.same {K : PySem.W.Frag} {H H' : Hp} {d w : V} {kind : Nat} {x : V} (s : Same H H') (h : BadDW K H d w kind x) : BadDW K H' d w kind x := by
  rcases h with h | ⟨dd, a, b, c, e, f, g⟩
  · exact .inl (h.same s)
  · exact .inr ⟨dd, a, b, c, e, f, g.same s⟩
theorem BadM.same {K : PySem.W.Frag} {H H' : Hp} {d w m : V} {kind : Nat} {x : V} (s : Same H H') (h : BadM K H d w m kind x) : BadM K H' d w m kind x := by
  rcases h with h | ⟨dd, ww, a, b, c, e⟩
  · exact .inl (h.same s)
  · exact .inr ⟨dd, ww, a, b, c, e.same s⟩
theorem BadHM.same {K : PySem.W.Frag} {H H' : Hp} {d w m s' : V} {kind : Nat} {x : V} (s : Same H H') (h : BadHM K H d w m s' kind x) : BadHM K H' d w m s' kind x := by
  rcases h with h | ⟨dd, ww, mm, a, b, c, e, f, g⟩
  · exact .inl (h.same s)
  · exact .inr ⟨dd, ww, mm, a, b, c, e, f, g.same s⟩
theorem BadRw.same {K : PySem.W.Frag} {H H' : Hp} {dd : Nat} {r : V} (s : Same H H') (h : BadRw K H dd r) : BadRw K H' dd r := by
  rcases h with h | ⟨a, fs, e, h, r⟩
  · exact .inl (h.same s)
  · exact .inr ⟨a, fs, e, s _ _ h, r⟩
theorem dok {K : PySem.W.Frag} {H : Hp} {d : Nat} (d1 : 1 ≤ d) (d2 : d ≤ 24) : NumV K H (.int (d : Int)) 1 (some 24) true := .inl ⟨_, rfl, (decide_eq_true ⟨by omega, fun j e => by cases e; omega⟩).symm⟩
theorem nok {K : PySem.W.Frag} {H : Hp} {n m : Nat} (h : n ≤ m) : NumV K H (.int (n : Int)) 0 (some (m : Int)) true := .inl ⟨_, rfl, (decide_eq_true ⟨by omega, fun j e => by cases e; omega⟩).symm⟩
theorem nokN {K : PySem.W.Frag} {H : Hp} {n : Nat} : NumV K H (.int (n : Int)) 0 none true := .inl ⟨_, rfl, (decide_eq_true ⟨by omega, fun j e => by cases e⟩).symm⟩
local macro_rules | `(tactic| walk_at "go") => `(tactic| repeat (first | (with_reducible first | refine iteT ?_ | refine iteF ?_ | refine iteNtt ?_ | refine iteNff ?_ | refine iteET (by omega) ?_ | refine iteEF (by omega) ?_ | refine iteENT (by omega) ?_ | refine iteENF (by omega) ?_ | refine iteDT (by omega) ?_ | refine iteDF (by omega) ?_ | refine iteNT (by omega) ?_ | refine iteNF (by omega) ?_) | refine ⟨_, rfl, ?_⟩ | refine ⟨_, _, rfl, rfl, ?_⟩ | refine ⟨_, _, rfl, ?_⟩ | refine ⟨rfl, ?_⟩ | refine .inl ⟨_, rfl, ?_⟩ | refine .inr ⟨_, rfl, ?_⟩))
local macro_rules | `(tactic| walk_at "b") => `(tactic| try dsimp (config := { proj := false, iota := false, eta := false, zeta := false }) only)
section
variable {P : Program} {w : World} {K : PySem.W.Frag} {mg : Str → Option Value} {base : Heap} [pf : Sup.PF P fileS]
theorem G_folded (T : Top K mg) : FnOk P w K mg base CX0 1 T.f_folded T.fd_folded ["number"] sp_no := ⟨fun _ _ _ _ h => h.elim, fun _ _ _ _ _ _ _ _ _ _ _ _ _ h => h.elim⟩
theorem G_unfolded (T : Top K mg) : FnOk P w K mg base CX0 1 T.f_unfolded T.fd_unfolded ["number"] sp_no := ⟨fun _ _ _ _ h => h.elim, fun _ _ _ _ _ _ _ _ _ _ _ _ _ h => h.elim⟩
theorem G_rests (T : Top K mg) : FnOk P w K mg base CX0 6 T.f_rests T.fd_rests ["guesser", "depth", "row"] sp_no := ⟨fun _ _ _ _ h => h.elim, fun _ _ _ _ _ _ _ _ _ _ _ _ _ h => h.elim⟩
theorem G_row_of (T : Top K mg) : FnOk P w K mg base CX0 6 T.f_row_of T.fd_row_of ["guesser", "depth", "rests"] sp_no := ⟨fun _ _ _ _ h => h.elim, fun _ _ _ _ _ _ _ _ _ _ _ _ _ h => h.elim⟩
theorem G_tables (T : Top K mg) : FnOk P w K mg base CX0 1 T.f_tables T.fd_tables ["many", "bound", "total"] sp_no := ⟨fun _ _ _ _ h => h.elim, fun _ _ _ _ _ _ _ _ _ _ _ _ _ h => h.elim⟩
theorem G_fraction (T : Top K mg) : FnOk P w K mg base CX0 2 T.f_fraction T.fd_fraction ["top", "under"] sp_no := ⟨fun _ _ _ _ h => h.elim, fun _ _ _ _ _ _ _ _ _ _ _ _ _ h => h.elim⟩
theorem G_twice_mean (T : Top K mg) : FnOk P w K mg base CX0 1 T.f_twice_mean T.fd_twice_mean ["depth", "width"] sp_no := ⟨fun _ _ _ _ h => h.elim, fun _ _ _ _ _ _ _ _ _ _ _ _ _ h => h.elim⟩
def sp_chosen : Sp := fun vs H Q _ => ∃ m f : Int, vs = [.int m, .int f] ∧ 0 ≤ m ∧ f = 0 ∧ Q (.int 1) H
theorem G_chosen (T : Top K mg) : FnOk P w K mg base CX0 1 T.f_chosen T.fd_chosen ["many", "few"] sp_chosen := by
  refine T.F_chosen.ok sc_chosen (fun vs H Q E h => by obtain ⟨m, f, rfl, _⟩ := h; rfl) (fun cdv A outer s H vs Q E hr h => ?_)
  obtain ⟨m, f, rfl, m0, rfl, q⟩ := h
  refine ⟨_, PSs.nox (pss_cons (ps_if (pt_cmpR op_gt (pv 1) (pv 0) (nomark _))
    (pss_one (ps_ret pe_int))
    pss_nil)
  (pss_cons (ps_set (i := 2) sc_chosen.nd rfl (by first | exact Or.inl rfl | exact Or.inr rfl) pe_int)
  (pss_cons (ps_for PassesOwn.never rfl (pi_range1 (by rfl) T.n_range (pa_cons (pv 1) pa_nil)) (pg_name (i := 3) sc_chosen.nd rfl (by first | exact Or.inl rfl | exact Or.inr rfl))
    (pss_one (ps_set (i := 2) sc_chosen.nd rfl (by first | exact Or.inl rfl | exact Or.inr rfl) (pe_op op_fdivW (pe_op op_mul (pv 2) (pe_op op_sub (pv 0) (pv 3))) (pe_op op_add (pv 3) pe_int)))))
  (pss_one (ps_ret (pv 2)))))), ?_⟩
  refine ⟨_, rfl, _, rfl, _, _, rfl, rfl, _, rfl, iteDF (by omega) ?_⟩
  refine ⟨_, rfl, _, rfl, by decide, by decide, ?_⟩
  refine for_range (lo := 0) (n := Int.toNat 0) (fun i σ H1 => ∃ v, σ = [some (.int m), some (.int 0), some (.int 1), v] ∧ H1 = H) ⟨none, rfl, rfl⟩ (fun i σ H1 hi => absurd hi (Nat.not_lt_zero _)) ?_
  rintro σ H1 ⟨v, rfl, rfl⟩
  exact ⟨_, rfl, q⟩
def sp_sums_below : Sp := fun vs H Q _ => ∃ m b t : Int, vs = [.int m, .int b, .int t] ∧ m = 1 ∧ b = 1 ∧ t = 0 ∧ Q (.int 1) H
theorem G_sums_below (T : Top K mg) : FnOk P w K mg base CX0 2 T.f_sums_below T.fd_sums_below ["many", "bound", "total"] sp_sums_below := by
  refine T.F_sums_below.ok sc_sums_below (fun vs H Q E h => by obtain ⟨m, b, t, rfl, _⟩ := h; rfl) (fun cdv A outer s H vs Q E hr h => ?_)
  obtain ⟨m, b, t, rfl, rfl, rfl, rfl, q⟩ := h
  refine ⟨_, PSs.nox (pss_cons (ps_if (PW.pt (pw_or (pt_cmpR op_eq (pv 0) pe_int (nomark _)) (pw_or1 (pt_cmpR op_lt (pv 2) pe_int (nomark _)))))
    (pss_one (ps_ret (pe_callTy call_int1 (by rfl) T.n_int (by decide +kernel) (pa_cons (pe_and (pe_cmpR op_eq (pv 0) pe_int (nomark _)) (pe_one (pe_cmpR op_eq (pv 2) pe_int (nomark _)))) pa_nil))))
    pss_nil)
  (pss_cons (ps_set (i := 3) sc_sums_below.nd rfl (by first | exact Or.inl rfl | exact Or.inr rfl) pe_int)
  (pss_cons (ps_for PassesOwn.never rfl (pi_range1 (by rfl) T.n_range (pa_cons (pe_op op_add (pe_callB (call_min2 rfl) (by rfl) T.n_min (by decide +kernel) (pa_cons (pv 0) (pa_cons (pe_op op_fdivW (pv 2) (pv 1)) pa_nil))) pe_int) pa_nil)) (pg_name (i := 4) sc_sums_below.nd rfl (by first | exact Or.inl rfl | exact Or.inr rfl))
    (pss_cons (ps_set (i := 5) sc_sums_below.nd rfl (by first | exact Or.inl rfl | exact Or.inr rfl) (pe_op op_mul (pe_call (G_chosen (P := P) T) (hr.mono (by decide)) (by rfl) T.g_chosen T.F_chosen.kp T.b_chosen .nil pass0 (pa_cons (pv 0) (pa_cons (pv 4) pa_nil))) (pe_call (G_chosen (P := P) T) (hr.mono (by decide)) (by rfl) T.g_chosen T.F_chosen.kp T.b_chosen .nil pass0 (pa_cons (pe_op op_sub (pe_op op_add (pe_op op_sub (pv 2) (pe_op op_mul (pv 4) (pv 1))) (pv 0)) pe_int) (pa_cons (pe_op op_sub (pv 0) pe_int) pa_nil)))))
  (pss_one (ps_set (i := 3) sc_sums_below.nd rfl (by first | exact Or.inl rfl | exact Or.inr rfl) (pe_op op_add (pv 3) (pe_ifExp (pt_cmpR op_eq (pe_op op_mod (pv 4) pe_int) pe_int (nomark _)) (pv 5) (pe_op op_sub pe_int (pv 5))))))))
  (pss_one (ps_ret (pv 3)))))), ?_⟩
  refine ⟨_, rfl, rfl, _, rfl, iteEF (by decide) ?_⟩
  refine ⟨_, rfl, _, _, rfl, rfl, _, rfl, iteDF (by decide) ?_⟩
  refine ⟨_, rfl, _, rfl, _, rfl, _, _, rfl, rfl, wide_div (b := 60) (by omega) (by omega) (by decide) (by decide), _, _, rfl, ?_⟩
  refine ⟨_, _, rfl, rfl, _, rfl, by decide, by decide, ?_⟩
  refine for_range (lo := 0) (n := 1) (fun i σ H1 => ∃ v4 v5, σ = [some (.int 1), some (.int 1), some (.int 0), some (.int (i : Int)), v4, v5] ∧ H1 = H) ⟨none, none, rfl, rfl⟩ ?_ ?_
  · rintro i σ H1 hi ⟨v4, v5, rfl, rfl⟩
    obtain rfl : i = 0 := by omega
    refine ⟨_, rfl, _, rfl, 1, 0, rfl, by decide, rfl, ?_⟩
    refine ⟨_, rfl, _, rfl, _, rfl, _, _, rfl, rfl, .inl ⟨by decide, by decide⟩, _, _, rfl, rfl, _, rfl, _, _, rfl, rfl, _, _, rfl, rfl, _, rfl, _, _, rfl, rfl, 0, 0, rfl, by decide, rfl, ?_⟩
    refine ⟨_, _, rfl, rfl, .inl ⟨by decide, by decide⟩, ?_⟩
    refine ⟨_, rfl, _, rfl, _, _, rfl, rfl, (by show (0 : Int) < 2; decide), rfl, _, rfl, iteET (by decide) ?_⟩
    exact ⟨_, rfl, _, _, rfl, rfl, _, _, rfl, rfl⟩
  · rintro σ H1 ⟨v4, v5, rfl, rfl⟩
    exact ⟨_, rfl, q⟩
def sp_how_many (K : PySem.W.Frag) (cs : Nat → Addr) : Sp := fun vs H Q E => ∃ d w m s : V, vs = [d, w, m, s] ∧ ((∃ kind x, BadHM K H d w m s kind x ∧ EE H E (cs kind) x) ∨ ∃ dd, Ok4 d w m s dd ∧ ∀ n, Q (.int n) H)
theorem G_how_many (T : Top K mg) : FnOk P w K mg base (L2.CX P w) 4 T.f_how_many T.fd_how_many ["depth", "width", "many", "size"] (sp_how_many K (csT T)) := by
  refine T.F_how_many.ok (CX := L2.CX P w) sc_how_many (fun vs H Q E h => by obtain ⟨d, w, m, s', rfl, _⟩ := h; rfl) (fun cdv A outer s H vs Q E hr h => ?_)
  obtain ⟨d, w, m, s', rfl, h⟩ := h
  refine ⟨_, (pss_cons (ps_expr (pe_call (G_check_depth (P := P) T) (hr.mono (by decide)) (by rfl) T.g_check_depth T.F_check_depth.kp T.b0_check_depth T.v0_check_depth (passes_call (takes_of rfl rfl rfl rfl) (fun _ _ _ _ h => h)) (pa_cons (pv 0) pa_nil)))
  (pss_cons (ps_expr (pe_call (G_check_width (P := P) T) (hr.mono (by decide)) (by rfl) T.g_check_width T.F_check_width.kp T.b_check_width .nil (passes_call (takes_of rfl rfl rfl rfl) (fun _ _ _ _ h => h)) (pa_cons (pv 1) (pa_cons (pv 0) pa_nil))))
  (pss_cons (ps_expr (pe_call (G_check_number (P := P) T) (hr.mono (by decide)) (by rfl) T.g_check_number T.F_check_number.kp T.b_check_number .nil (passes_call (takes_of rfl rfl rfl rfl) (fun _ _ _ _ h => h)) (pa_cons (pv 2) (pa_cons pe_int (pa_cons (pe_glob (v := .int 200) rfl T.m_MOST_MANY ⟨_, rfl⟩) pa_nil)))))
  (pss_cons (ps_expr (pe_call (G_check_number (P := P) T) (hr.mono (by decide)) (by rfl) T.g_check_number T.F_check_number.kp T.b_check_number .nil (passes_call (takes_of rfl rfl rfl rfl) (fun _ _ _ _ h => h)) (pa_cons (pv 3) (pa_cons pe_int (pa_cons pe_non pa_nil)))))
  (pss_cons (ps_set (i := 4) sc_how_many.nd rfl (by first | exact Or.inl rfl | exact Or.inr rfl) (pe_op op_sub (pv 3) (pe_op op_mul (pv 2) (pe_op op_add (pv 1) pe_int))))
  (pss_one (ps_ret (pe_op op_mul (pe_call (G_sums_below (P := P) T) (hr.mono (by decide)) (by rfl) T.g_sums_below T.F_sums_below.kp T.b_sums_below .nil pass0 (pa_cons (pv 2) (pa_cons (pe_op op_shl pe_int (pe_op op_sub (pv 0) (pv 1))) (pa_cons (pv 4) pa_nil)))) (pe_op op_shl pe_int (pe_op op_mul (pv 1) (pv 2))))))))))), ?_⟩
  rcases h with ⟨kind, x, ((⟨rfl, rfl, hN⟩ | ⟨dd, rfl, d1, d2, rfl, rfl, hN⟩) | ⟨dd, ww, ⟨rfl, rfl, d1, d2, w2⟩, rfl, rfl, hN⟩) | ⟨dd, ww, mm, ⟨rfl, rfl, d1, d2, w2⟩, rfl, m2, rfl, rfl, hN⟩, q⟩ | ⟨dd, ⟨rfl, rfl, rfl, rfl, d1, d2⟩, q⟩
  · exact ⟨_, rfl, _, 24, false, rfl, hN, (fun z => nomatch z), fun _ e nd => q H e (Same.refl _) nd⟩
  · refine ⟨_, rfl, _, 24, true, rfl, dok d1 d2, fun _ => ?_, fun z => nomatch z⟩
    exact ⟨_, rfl, _, rfl, _, _, false, rfl, hN, (fun z => nomatch z), fun _ e nd => q H e (Same.refl _) nd⟩
  · refine ⟨_, rfl, _, 24, true, rfl, dok d1 d2, fun _ => ?_, fun z => nomatch z⟩
    refine ⟨_, rfl, _, rfl, _, _, true, rfl, nok w2, fun _ => ?_, fun z => nomatch z⟩
    exact ⟨_, rfl, _, 0, some 200, false, rfl, hN, (fun z => nomatch z), fun _ e nd => q H e (Same.refl _) nd⟩
  · refine ⟨_, rfl, _, 24, true, rfl, dok d1 d2, fun _ => ?_, fun z => nomatch z⟩
    refine ⟨_, rfl, _, rfl, _, _, true, rfl, nok w2, fun _ => ?_, fun z => nomatch z⟩
    refine ⟨_, rfl, _, 0, some 200, true, rfl, nok m2, fun _ => ?_, fun z => nomatch z⟩
    exact ⟨_, rfl, _, 0, none, false, rfl, hN, (fun z => nomatch z), fun _ e nd => q H e (Same.refl _) nd⟩
  · refine ⟨_, rfl, _, 24, true, rfl, dok d1 d2, fun _ => ?_, fun z => nomatch z⟩
    refine ⟨_, rfl, _, rfl, _, _, true, rfl, nok (Nat.le_refl _), fun _ => ?_, fun z => nomatch z⟩
    refine ⟨_, rfl, _, 0, some 200, true, rfl, nok (n := 1) (by decide), fun _ => ?_, fun z => nomatch z⟩
    refine ⟨_, rfl, _, 0, none, true, rfl, nokN (n := dd + 1), fun _ => ?_, fun z => nomatch z⟩
    refine ⟨_, rfl, _, rfl, _, rfl, _, _, rfl, rfl, _, _, rfl, rfl, .inl ⟨by decide, by decide⟩, _, _, rfl, rfl, ?_⟩
    refine ⟨_, rfl, _, rfl, _, rfl, _, _, rfl, rfl, _, _, rfl, rfl, ⟨by omega, by omega, by decide⟩, _, rfl, _, _, _, rfl, rfl, by rw [Int.sub_self]; rfl, by omega, ?_⟩
    exact ⟨_, rfl, _, rfl, _, _, rfl, rfl, .inl ⟨by omega, by omega⟩, _, _, rfl, rfl, ⟨by omega, by omega, by decide⟩, _, _, rfl, rfl, .inl ⟨by decide, by decide⟩, q _⟩
def sp_size_bounds (K : PySem.W.Frag) (cs : Nat → Addr) : Sp := fun vs H Q E => ∃ d w m : V, vs = [d, w, m] ∧ ∃ kind x, BadM K H d w m kind x ∧ EE H E (cs kind) x
theorem G_size_bounds (T : Top K mg) : FnOk P w K mg base (L2.CX P w) 4 T.f_size_bounds T.fd_size_bounds ["depth", "width", "many"] (sp_size_bounds K (csT T)) := by
  refine T.F_size_bounds.ok (CX := L2.CX P w) sc_size_bounds (fun vs H Q E h => by obtain ⟨d, w, m, rfl, _⟩ := h; rfl) (fun cdv A outer s H vs Q E hr h => ?_)
  obtain ⟨d, w, m, rfl, kind, x, h, q⟩ := h
  refine ⟨_, (pss_cons (ps_expr (pe_call (G_check_depth (P := P) T) (hr.mono (by decide)) (by rfl) T.g_check_depth T.F_check_depth.kp T.b0_check_depth T.v0_check_depth (passes_call (takes_of rfl rfl rfl rfl) (fun _ _ _ _ h => h)) (pa_cons (pv 0) pa_nil)))
  (pss_cons (ps_expr (pe_call (G_check_width (P := P) T) (hr.mono (by decide)) (by rfl) T.g_check_width T.F_check_width.kp T.b_check_width .nil (passes_call (takes_of rfl rfl rfl rfl) (fun _ _ _ _ h => h)) (pa_cons (pv 1) (pa_cons (pv 0) pa_nil))))
  (pss_cons (ps_expr (pe_call (G_check_number (P := P) T) (hr.mono (by decide)) (by rfl) T.g_check_number T.F_check_number.kp T.b_check_number .nil (passes_call (takes_of rfl rfl rfl rfl) (fun _ _ _ _ h => h)) (pa_cons (pv 2) (pa_cons pe_int (pa_cons (pe_glob (v := .int 200) rfl T.m_MOST_MANY ⟨_, rfl⟩) pa_nil)))))
  (pss_one (ps_ret (pe_tup (pa_cons (pe_op op_mul (pv 2) (pe_op op_add (pv 1) pe_int)) (pa_cons (pe_op op_mul (pv 2) (pe_op op_add (pv 1) (pe_op op_shl pe_int (pe_op op_sub (pv 0) (pv 1))))) pa_nil)))))))), ?_⟩
  rcases h with (⟨rfl, rfl, hN⟩ | ⟨dd, rfl, d1, d2, rfl, rfl, hN⟩) | ⟨dd, ww, ⟨rfl, rfl, d1, d2, w2⟩, rfl, rfl, hN⟩
  · exact ⟨_, rfl, _, 24, false, rfl, hN, (fun z => nomatch z), fun _ e nd => q H e (Same.refl _) nd⟩
  · refine ⟨_, rfl, _, 24, true, rfl, dok d1 d2, fun _ => ?_, fun z => nomatch z⟩
    exact ⟨_, rfl, _, rfl, _, _, false, rfl, hN, (fun z => nomatch z), fun _ e nd => q H e (Same.refl _) nd⟩
  · refine ⟨_, rfl, _, 24, true, rfl, dok d1 d2, fun _ => ?_, fun z => nomatch z⟩
    refine ⟨_, rfl, _, rfl, _, _, true, rfl, nok w2, fun _ => ?_, fun z => nomatch z⟩
    exact ⟨_, rfl, _, 0, some 200, false, rfl, hN, (fun z => nomatch z), fun _ e nd => q H e (Same.refl _) nd⟩
def sp_how_many_checked (K : PySem.W.Frag) (cs : Nat → Addr) : Sp := fun vs H Q E => ∃ d w m s n : V, vs = [d, w, m, s, n] ∧ ((∃ kind x, BadHM K H d w m s kind x ∧ EE H E (cs kind) x) ∨ ∃ dd, Ok4 d w m s dd ∧ NumV K H n 0 none false ∧ EE H E (cs 3) n)
theorem G_how_many_checked (T : Top K mg) : FnOk P w K mg base (L2.CX P w) 5 T.f_how_many_checked T.fd_how_many_checked ["depth", "width", "many", "size", "number"] (sp_how_many_checked K (csT T)) := by
  refine T.F_how_many_checked.ok (CX := L2.CX P w) sc_how_many_checked (fun vs H Q E h => by obtain ⟨d, w, m, s', n, rfl, _⟩ := h; rfl) (fun cdv A outer s H vs Q E hr h => ?_)
  obtain ⟨d, w, m, s', n, rfl, h⟩ := h
  refine ⟨_, (pss_cons (ps_set (i := 5) sc_how_many_checked.nd rfl (by first | exact Or.inl rfl | exact Or.inr rfl) (pe_call (G_how_many (P := P) T) (hr.mono (by decide)) (by rfl) T.g_how_many T.F_how_many.kp T.b_how_many .nil (passes_call (takes_of rfl rfl rfl rfl) (fun _ _ _ _ h => h)) (pa_cons (pv 0) (pa_cons (pv 1) (pa_cons (pv 2) (pa_cons (pv 3) pa_nil))))))
  (pss_cons (ps_if (pt_not (pt_val (pe_call (G_is_between (P := P) T) (hr.mono (by decide)) (by rfl) T.g_is_between T.F_is_between.kp T.b_is_between .nil pass0 (pa_cons (pv 4) (pa_cons pe_int (pa_cons pe_non pa_nil))))))
    (pss_one (ps_raise rfl (takes_of rfl rfl rfl rfl) (pmk_oex T.er_InvalidNumber.sup.T T.er_InvalidNumber.ini T.er_InvalidNumber.ity (G_InvalidNumber___init__ (P := P) (CX := CX0) T) (hr.mono (by decide)) T.er_InvalidNumber.bnd .nil pass0 (by rfl) T.gc_InvalidNumber (pa_cons (pv 4) pa_nil))))
    pss_nil)
  (pss_one (ps_ret (pv 5))))), ?_⟩
  rcases h with ⟨kind, x, h, q⟩ | ⟨dd, h, hN, q⟩
  · exact ⟨_, rfl, _, rfl, _, rfl, _, rfl, _, _, _, _, rfl, .inl ⟨kind, x, h, q⟩⟩
  · refine ⟨_, rfl, _, rfl, _, rfl, _, rfl, _, _, _, _, rfl, .inr ⟨dd, h, fun k => ?_⟩⟩
    exact ⟨_, rfl, _, 0, none, false, rfl, hN, _, rfl, iteT ⟨_, rfl, mk_sup fun e nd => q _ e (Same.refl _) nd⟩⟩
def sp_row_at (K : PySem.W.Frag) (C : Addr) (cs : Nat → Addr) : Sp := fun vs H Q E => ∃ g d w m s n : V, vs = [g, d, w, m, s, n] ∧ ((NoG K H g ∧ EE H E (cs 0) g) ∨ (IsG C H g ∧ ((∃ kind x, BadHM K H d w m s kind x ∧ EE H E (cs kind) x) ∨ ∃ dd, Ok4 d w m s dd ∧ NumV K H n 0 none false ∧ EE H E (cs 3) n)))
theorem G_row_at (T : Top K mg) : FnOk P w K mg base (L2.CX P w) 7 T.f_row_at T.fd_row_at ["guesser", "depth", "width", "many", "size", "number"] (sp_row_at K T.C_Guesser (csT T)) := by
  refine T.F_row_at.ok (CX := L2.CX P w) sc_row_at (fun vs H Q E h => by obtain ⟨g, d, w, m, s', n, rfl, _⟩ := h; rfl) (fun cdv A outer s H vs Q E hr h => ?_)
  obtain ⟨g, d, w, m, s', n, rfl, h⟩ := h
  refine ⟨_, (pss_cons (ps_expr (pe_call (G_check_guesser (P := P) T) (hr.mono (by decide)) (by rfl) T.g_check_guesser T.F_check_guesser.kp T.b_check_guesser .nil (passes_call (takes_of rfl rfl rfl rfl) (fun _ _ _ _ h => h)) (pa_cons (pv 0) pa_nil)))
  (pss_cons (ps_expr (pe_call (G_check_number (P := P) T) (hr.mono (by decide)) (by rfl) T.g_check_number T.F_check_number.kp T.b_check_number .nil (passes_call (takes_of rfl rfl rfl rfl) (fun _ _ _ _ h => h)) (pa_cons (pv 5) (pa_cons pe_int (pa_cons (pe_op op_sub (pe_call (G_how_many_checked (P := P) T) (hr.mono (by decide)) (by rfl) T.g_how_many_checked T.F_how_many_checked.kp T.b_how_many_checked .nil (passes_call (takes_of rfl rfl rfl rfl) (fun _ _ _ _ h => h)) (pa_cons (pv 1) (pa_cons (pv 2) (pa_cons (pv 3) (pa_cons (pv 4) (pa_cons (pv 5) pa_nil)))))) pe_int) pa_nil)))))
  (pss_cons (ps_par (by rfl) sc_row_at.nd (i := 7) (j := 8) rfl rfl (by decide) rfl rfl (pa_cons (pe_op op_shl pe_int (pe_op op_sub (pv 1) (pv 2))) (pa_cons (pe_op op_sub (pv 4) (pe_op op_mul (pv 3) (pe_op op_add (pv 2) pe_int))) pa_nil)) (by rfl))
  (pss_cons (ps_par (by rfl) sc_row_at.nd (i := 9) (j := 10) rfl rfl (by decide) rfl rfl (pa_cons (pe_call (G_tables (P := P) T) (hr.mono (by decide)) (by rfl) T.g_tables T.F_tables.kp T.b_tables .nil pass0 (pa_cons (pv 3) (pa_cons (pv 7) (pa_cons (pv 8) pa_nil)))) (pa_cons (pe_lst pa_nil) pa_nil)) (by rfl))
  (pss_cons (ps_for (passes_of rfl) rfl (pi_range3 (by rfl) T.n_range (pa_cons (pe_op op_sub (pv 3) pe_int) (pa_cons (pe_un un_neg pe_int) (pa_cons (pe_un un_neg pe_int) pa_nil)))) (pg_name (i := 6) sc_row_at.nd rfl (by first | exact Or.inl rfl | exact Or.inr rfl))
    (pss_cons (ps_par (by rfl) sc_row_at.nd (i := 11) (j := 12) rfl rfl (by decide) rfl rfl (pa_cons (pe_op op_shl pe_int (pe_op op_mul (pv 2) (pv 6))) (pa_cons pe_int pa_nil)) (by rfl))
  (pss_cons (ps_while (passes_of rfl) (pt_cmpR op_ge (pv 5) (pe_op op_mul (pe_op op_mul (pv 11) (pe_op op_shl pe_int (pv 2))) (pe_ix (k_ixL K rfl) (pe_ix (k_ixL K rfl) (pv 9) (pv 6) (fun _ _ => rfl)) (pe_op op_sub (pv 8) (pv 12)) (fun _ _ => rfl))) (nomark _))
    (pss_cons (ps_set (i := 5) sc_row_at.nd rfl (by first | exact Or.inl rfl | exact Or.inr rfl) (pe_op op_sub (pv 5) (pe_op op_mul (pe_op op_mul (pv 11) (pe_op op_shl pe_int (pv 2))) (pe_ix (k_ixL K rfl) (pe_ix (k_ixL K rfl) (pv 9) (pv 6) (fun _ _ => rfl)) (pe_op op_sub (pv 8) (pv 12)) (fun _ _ => rfl)))))
  (pss_one (ps_set (i := 12) sc_row_at.nd rfl (by first | exact Or.inl rfl | exact Or.inr rfl) (pe_op op_add (pv 12) pe_int)))))
  (pss_cons (ps_set (i := 8) sc_row_at.nd rfl (by first | exact Or.inl rfl | exact Or.inr rfl) (pe_op op_sub (pv 8) (pv 12)))
  (pss_cons (ps_expr (pe_bm PySem.F.plainAttrs_list PySem.F.slot_list_append PySem.F.type_list_append mt_append (pv 10) (pa_cons (pe_op op_add (pe_op op_mul (pv 12) (pe_op op_shl pe_int (pv 2))) (pe_op op_fdivW (pv 5) (pe_op op_mul (pv 11) (pe_ix (k_ixL K rfl) (pe_ix (k_ixL K rfl) (pv 9) (pv 6) (fun _ _ => rfl)) (pv 8) (fun _ _ => rfl))))) pa_nil)))
  (pss_one (ps_set (i := 5) sc_row_at.nd rfl (by first | exact Or.inl rfl | exact Or.inr rfl) (pe_op op_mod (pv 5) (pe_op op_mul (pv 11) (pe_ix (k_ixL K rfl) (pe_ix (k_ixL K rfl) (pv 9) (pv 6) (fun _ _ => rfl)) (pv 8) (fun _ _ => rfl)))))))))))
  (pss_one (ps_ret (pe_call (G_row_of (P := P) T) (hr.mono (by decide)) (by rfl) T.g_row_of T.F_row_of.kp T.b_row_of .nil pass0 (pa_cons (pv 0) (pa_cons (pv 1) (pa_cons (pe_lc (own := [("fold", 13)]) (g := gName 13) (tt := tYes) (by rfl) sc_row_at.nd (k_piL K rfl (pv 10)) (blkOk_by (own := [("fold", 13)]) (N := N_row_at) (sc := defScope s_row_at) (by decide +kernel)) (fun _ _ _ _ _ => (pg_name (i := 13) sc_row_at.nd rfl (by first | exact Or.inl rfl | exact Or.inr rfl))) (fun _ _ _ _ _ => pts_nil) (fun _ _ _ _ _ => (pe_call (G_unfolded (P := P) T) (hr.mono (by decide)) (by rfl) T.g_unfolded T.F_unfolded.kp T.b_unfolded .nil pass0 (pa_cons (pv 13) pa_nil)))) pa_nil))))))))))), ?_⟩
  rcases h with h | ⟨hG, h⟩
  · exact ⟨_, rfl, _, rfl, .inr h⟩
  · refine ⟨_, rfl, _, rfl, .inl ⟨hG, ?_⟩⟩
    exact ⟨_, rfl, _, rfl, _, rfl, _, rfl, _, rfl, _, rfl, _, _, _, _, _, rfl, h⟩
def sp_number_of (K : PySem.W.Frag) (C : Addr) (cs : Nat → Addr) : Sp := fun vs H Q E => ∃ g d w r : V, vs = [g, d, w, r] ∧ ((NoG K H g ∧ EE H E (cs 0) g) ∨ (IsG C H g ∧ ((∃ kind x, BadDW K H d w kind x ∧ EE H E (cs kind) x) ∨ ∃ dd ww, OkDW d w dd ww ∧ BadRw K H dd r ∧ EE H E (cs 4) r)))
theorem G_number_of (T : Top K mg) : FnOk P w K mg base (L2.CX P w) 7 T.f_number_of T.fd_number_of ["guesser", "depth", "width", "row"] (sp_number_of K T.C_Guesser (csT T)) := by
  refine T.F_number_of.ok (CX := L2.CX P w) sc_number_of (fun vs H Q E h => by obtain ⟨g, d, w, r, rfl, _⟩ := h; rfl) (fun cdv A outer s H vs Q E hr h => ?_)
  obtain ⟨g, d, w, r, rfl, h⟩ := h
  refine ⟨_, (pss_cons (ps_expr (pe_call (G_check_guesser (P := P) T) (hr.mono (by decide)) (by rfl) T.g_check_guesser T.F_check_guesser.kp T.b_check_guesser .nil (passes_call (takes_of rfl rfl rfl rfl) (fun _ _ _ _ h => h)) (pa_cons (pv 0) pa_nil)))
  (pss_cons (ps_expr (pe_call (G_check_depth (P := P) T) (hr.mono (by decide)) (by rfl) T.g_check_depth T.F_check_depth.kp T.b0_check_depth T.v0_check_depth (passes_call (takes_of rfl rfl rfl rfl) (fun _ _ _ _ h => h)) (pa_cons (pv 1) pa_nil)))
  (pss_cons (ps_expr (pe_call (G_check_width (P := P) T) (hr.mono (by decide)) (by rfl) T.g_check_width T.F_check_width.kp T.b_check_width .nil (passes_call (takes_of rfl rfl rfl rfl) (fun _ _ _ _ h => h)) (pa_cons (pv 2) (pa_cons (pv 1) pa_nil))))
  (pss_cons (ps_if (PW.pt (pw_or (pt_not (pt_val (pe_call (G_are_samples (P := P) T) (hr.mono (by decide)) (by rfl) T.g_are_samples T.F_are_samples.kp T.b_are_samples .nil pass0 (pa_cons (pv 3) (pa_cons (pv 1) pa_nil))))) (pw_or1 (pt_cmpR op_gt (pe_callB (k_len K rfl) (by rfl) T.n_len (by decide +kernel) (pa_cons (pv 3) pa_nil)) (pe_glob (v := .int 200) rfl T.m_MOST_MANY ⟨_, rfl⟩) (nomark _)))))
    (pss_one (ps_raise rfl (takes_of rfl rfl rfl rfl) (pmk_oex T.er_InvalidRow.sup.T T.er_InvalidRow.ini T.er_InvalidRow.ity (G_InvalidRow___init__ (P := P) (CX := CX0) T) (hr.mono (by decide)) T.er_InvalidRow.bnd .nil pass0 (by rfl) T.gc_InvalidRow (pa_cons (pv 3) pa_nil))))
    pss_nil)
  (pss_cons (ps_setLc (i := 4) (own := [("rest", 11)]) (g := gName 11) (tt := tYes) (by rfl) sc_number_of.nd rfl rfl (sw_true rfl rfl rfl (by decide +kernel)) (k_piL K rfl (pe_call (G_rests (P := P) T) (hr.mono (by decide)) (by rfl) T.g_rests T.F_rests.kp T.b_rests .nil pass0 (pa_cons (pv 0) (pa_cons (pv 1) (pa_cons (pv 3) pa_nil))))) (blkOk_by (own := [("rest", 11)]) (N := N_number_of) (sc := defScope s_number_of) (by decide +kernel)) (fun _ _ _ _ _ => (pg_name (i := 11) sc_number_of.nd rfl (by first | exact Or.inl rfl | exact Or.inr rfl))) (fun _ _ _ _ _ => pts_nil) (fun _ _ _ _ _ => (pe_call (G_folded (P := P) T) (hr.mono (by decide)) (by rfl) T.g_folded T.F_folded.kp T.b_folded .nil pass0 (pa_cons (pv 11) pa_nil))))
  (pss_cons (ps_set (i := 5) sc_number_of.nd rfl (by first | exact Or.inl rfl | exact Or.inr rfl) (pe_callB (k_sum K rfl rfl) (by rfl) T.n_sum (by decide +kernel) (pa_cons (pe_lc (own := [("fold", 10)]) (g := gName 10) (tt := tYes) (by rfl) sc_number_of.nd (k_piL K rfl (pv 4)) (blkOk_by (own := [("fold", 10)]) (N := N_number_of) (sc := defScope s_number_of) (by decide +kernel)) (fun _ _ _ _ _ => (pg_name (i := 10) sc_number_of.nd rfl (by first | exact Or.inl rfl | exact Or.inr rfl))) (fun _ _ _ _ _ => pts_nil) (fun _ _ _ _ _ => (pe_op op_shr (pv 10) (pv 2)))) pa_nil)))
  (pss_cons (ps_par3 (by rfl) sc_number_of.nd (i := 6) (j := 7) (l := 8) rfl rfl rfl (by decide) (by decide) (by decide) rfl rfl rfl (pa_cons (pe_call (G_tables (P := P) T) (hr.mono (by decide)) (by rfl) T.g_tables T.F_tables.kp T.b_tables .nil pass0 (pa_cons (pe_callB (k_len K rfl) (by rfl) T.n_len (by decide +kernel) (pa_cons (pv 3) pa_nil)) (pa_cons (pe_op op_shl pe_int (pe_op op_sub (pv 1) (pv 2))) (pa_cons (pv 5) pa_nil)))) (pa_cons pe_int (pa_cons (pv 5) pa_nil))) (by rfl))
  (pss_cons (ps_for (passes_of rfl) rfl (k_piE K rfl (by rfl) T.n_enumerate (pa_cons (pv 4) pa_nil)) (k_pgT K rfl (by rfl) (pgs_cons (pg_name (i := 9) sc_number_of.nd rfl (by first | exact Or.inl rfl | exact Or.inr rfl)) (pgs_cons (pg_name (i := 10) sc_number_of.nd rfl (by first | exact Or.inl rfl | exact Or.inr rfl)) pgs_nil)))
    (pss_cons (ps_set (i := 11) sc_number_of.nd rfl (by first | exact Or.inl rfl | exact Or.inr rfl) (pe_op op_sub (pe_op op_sub (pe_callB (k_len K rfl) (by rfl) T.n_len (by decide +kernel) (pa_cons (pv 3) pa_nil)) pe_int) (pv 9)))
  (pss_cons (ps_par (by rfl) sc_number_of.nd (i := 13) (j := 14) rfl rfl (by decide) rfl rfl (pa_cons (pe_op op_shl pe_int (pe_op op_mul (pv 2) (pv 11))) (pa_cons (pe_op op_shr (pv 10) (pv 2)) pa_nil)) (by rfl))
  (pss_cons (ps_for (passes_of rfl) rfl (pi_range1 (by rfl) T.n_range (pa_cons (pv 14) pa_nil)) (pg_name (i := 12) sc_number_of.nd rfl (by first | exact Or.inl rfl | exact Or.inr rfl))
    (pss_one (ps_set (i := 7) sc_number_of.nd rfl (by first | exact Or.inl rfl | exact Or.inr rfl) (pe_op op_add (pv 7) (pe_op op_mul (pe_op op_mul (pv 13) (pe_op op_shl pe_int (pv 2))) (pe_ix (k_ixL K rfl) (pe_ix (k_ixL K rfl) (pv 6) (pv 11) (fun _ _ => rfl)) (pe_op op_sub (pv 8) (pv 12)) (fun _ _ => rfl)))))))
  (pss_cons (ps_set (i := 8) sc_number_of.nd rfl (by first | exact Or.inl rfl | exact Or.inr rfl) (pe_op op_sub (pv 8) (pv 14)))
  (pss_one (ps_set (i := 7) sc_number_of.nd rfl (by first | exact Or.inl rfl | exact Or.inr rfl) (pe_op op_add (pv 7) (pe_op op_mul (pe_op op_mul (pv 13) (pe_ix (k_ixL K rfl) (pe_ix (k_ixL K rfl) (pv 6) (pv 11) (fun _ _ => rfl)) (pv 8) (fun _ _ => rfl))) (pe_op op_mod (pv 10) (pe_op op_shl pe_int (pv 2))))))))))))
  (pss_one (ps_ret (pe_tup (pa_cons (pe_op op_add (pv 5) (pe_op op_mul (pe_callB (k_len K rfl) (by rfl) T.n_len (by decide +kernel) (pa_cons (pv 3) pa_nil)) (pe_op op_add (pv 2) pe_int))) (pa_cons (pv 7) pa_nil))))))))))))), ?_⟩
  rcases h with h | ⟨hG, ⟨kind, x, ⟨rfl, rfl, hN⟩ | ⟨dd, rfl, d1, d2, rfl, rfl, hN⟩, q⟩ | ⟨dd, ww, ⟨rfl, rfl, d1, d2, w2⟩, h, q⟩⟩
  · exact ⟨_, rfl, _, rfl, .inr h⟩
  · refine ⟨_, rfl, _, rfl, .inl ⟨hG, ?_⟩⟩
    exact ⟨_, rfl, _, 24, false, rfl, hN, (fun z => nomatch z), fun _ e nd => q H e (Same.refl _) nd⟩
  · refine ⟨_, rfl, _, rfl, .inl ⟨hG, ?_⟩⟩
    refine ⟨_, rfl, _, 24, true, rfl, dok d1 d2, fun _ => ?_, fun z => nomatch z⟩
    exact ⟨_, rfl, _, rfl, _, _, false, rfl, hN, (fun z => nomatch z), fun _ e nd => q H e (Same.refl _) nd⟩
  · refine ⟨_, rfl, _, rfl, .inl ⟨hG, ?_⟩⟩
    refine ⟨_, rfl, _, 24, true, rfl, dok d1 d2, fun _ => ?_, fun z => nomatch z⟩
    refine ⟨_, rfl, _, rfl, _, _, true, rfl, nok w2, fun _ => ?_, fun z => nomatch z⟩
    rcases h with hv | ⟨a, xs, rfl, ha, hs, hl, hz⟩
    · rcases hv with hv | ⟨a, xs, rfl, ha, hz, hi, hbad⟩
      · exact ⟨_, rfl, _, rfl, r, dd, rfl, d1, d2, .inl ⟨hv, ⟨_, rfl, iteT (iteT ⟨_, rfl, mk_sup fun e nd => q _ e (Same.refl _) nd⟩)⟩⟩⟩
      · refine ⟨_, rfl, _, rfl, _, dd, rfl, d1, d2, .inr ⟨a, xs, rfl, ha, hz, hi, fun H1 s1 => ?_⟩⟩
        rw [hbad]
        exact ⟨_, rfl, iteT (iteT ⟨_, rfl, mk_sup fun e nd => q _ e s1 nd⟩)⟩
    · refine ⟨_, rfl, _, rfl, _, dd, rfl, d1, d2, .inr ⟨a, _, rfl, ha, by rw [List.length_map]; exact hz, simple_ints xs, fun H1 s1 => ?_⟩⟩
      rw [all_smp hs]
      refine ⟨_, rfl, iteF ⟨_, rfl, a, _, rfl, .inl (.inl (.inl (s1 _ _ ha))), _, _, rfl, rfl, _, rfl, iteDT (by rw [List.length_map]; omega) ⟨_, rfl, mk_sup fun e nd => q _ e s1 nd⟩⟩⟩
def sp_fair (K : PySem.W.Frag) (cs : Nat → Addr) : Sp := fun vs H Q E => ∃ d w : V, vs = [d, w] ∧ ((∃ kind x, BadDW K H d w kind x ∧ EE H E (cs kind) x) ∨ (∃ dd ww, OkDW d w dd ww ∧ ww + 10 < dd ∧ EE H E (cs 2) w) ∨ (d = .int 10 ∧ w = .int 0 ∧ ∀ H' v, Same H H' → Q v H'))
theorem G_fair (T : Top K mg) : FnOk P w K mg base (L2.CX P w) 4 T.f_fair T.fd_fair ["depth", "width"] (sp_fair K (csT T)) := by
  refine T.F_fair.ok (CX := L2.CX P w) sc_fair (fun vs H Q E h => by obtain ⟨d, w, rfl, _⟩ := h; rfl) (fun cdv A outer s H vs Q E hr h => ?_)
  obtain ⟨d, w, rfl, h⟩ := h
  refine ⟨_, (pss_cons (ps_expr (pe_call (G_check_depth (P := P) T) (hr.mono (by decide)) (by rfl) T.g_check_depth T.F_check_depth.kp T.b0_check_depth T.v0_check_depth (passes_call (takes_of rfl rfl rfl rfl) (fun _ _ _ _ h => h)) (pa_cons (pv 0) pa_nil)))
  (pss_cons (ps_expr (pe_call (G_check_width (P := P) T) (hr.mono (by decide)) (by rfl) T.g_check_width T.F_check_width.kp T.b_check_width .nil (passes_call (takes_of rfl rfl rfl rfl) (fun _ _ _ _ h => h)) (pa_cons (pv 1) (pa_cons (pv 0) pa_nil))))
  (pss_cons (ps_if (pt_cmpR op_gt (pe_op op_sub (pv 0) (pv 1)) (pe_glob (v := .int 10) rfl T.m_MOST_FAIR ⟨_, rfl⟩) (nomark _))
    (pss_one (ps_raise rfl (takes_of rfl rfl rfl rfl) (pmk_oex T.er_InvalidWidth.sup.T T.er_InvalidWidth.ini T.er_InvalidWidth.ity (G_InvalidWidth___init__ (P := P) (CX := CX0) T) (hr.mono (by decide)) T.er_InvalidWidth.bnd .nil pass0 (by rfl) T.gc_InvalidWidth (pa_cons (pv 1) pa_nil))))
    pss_nil)
  (pss_cons (ps_set (i := 2) sc_fair.nd rfl (by first | exact Or.inl rfl | exact Or.inr rfl) (pe_op op_shl pe_int (pe_op op_shl pe_int (pe_op op_sub (pv 0) (pv 1)))))
  (pss_one (ps_ret (pe_tup (pa_cons (pe_op op_sub (pv 2) pe_int) (pa_cons (pv 2) pa_nil))))))))), ?_⟩
  rcases h with ⟨kind, x, ⟨rfl, rfl, hN⟩ | ⟨dd, rfl, d1, d2, rfl, rfl, hN⟩, q⟩ | ⟨dd, ww, ⟨rfl, rfl, d1, d2, w2⟩, h, q⟩ | ⟨rfl, rfl, q⟩
  · exact ⟨_, rfl, _, 24, false, rfl, hN, (fun z => nomatch z), fun _ e nd => q H e (Same.refl _) nd⟩
  · refine ⟨_, rfl, _, 24, true, rfl, dok d1 d2, fun _ => ?_, fun z => nomatch z⟩
    exact ⟨_, rfl, _, rfl, _, _, false, rfl, hN, (fun z => nomatch z), fun _ e nd => q H e (Same.refl _) nd⟩
  · refine ⟨_, rfl, _, 24, true, rfl, dok d1 d2, fun _ => ?_, fun z => nomatch z⟩
    refine ⟨_, rfl, _, rfl, _, _, true, rfl, nok w2, fun _ => ?_, fun z => nomatch z⟩
    exact ⟨_, rfl, _, rfl, _, _, rfl, rfl, _, _, rfl, rfl, _, rfl, iteDT (by omega) ⟨_, rfl, mk_sup fun e nd => q _ e (Same.refl _) nd⟩⟩
  · refine ⟨_, rfl, _, 24, true, rfl, dok (d := 10) (by decide) (by decide), fun _ => ?_, fun z => nomatch z⟩
    refine ⟨_, rfl, _, rfl, _, _, true, rfl, nok (n := 0) (m := 10) (by decide), fun _ => ?_, fun z => nomatch z⟩
    refine ⟨_, rfl, _, rfl, _, _, rfl, rfl, _, _, rfl, rfl, _, rfl, iteDF (by decide) ?_⟩
    refine ⟨_, rfl, _, rfl, _, _, rfl, rfl, _, _, rfl, rfl, ⟨by decide, by decide, by decide⟩, ?_⟩
    refine ⟨_, _, rfl, rfl, ⟨by decide +kernel, by decide +kernel, by decide⟩, ?_⟩
    refine ⟨_, rfl, _, _, rfl, rfl, _, rfl, (show 2 ≤ sizeLine by decide), fun p np => ?_⟩
    exact q _ _ (same_upd np)
def sp_mean (K : PySem.W.Frag) (cs : Nat → Addr) : Sp := fun vs H Q E => ∃ d w : V, vs = [d, w] ∧ ∃ kind x, BadDW K H d w kind x ∧ EE H E (cs kind) x
theorem G_mean (T : Top K mg) : FnOk P w K mg base (L2.CX P w) 4 T.f_mean T.fd_mean ["depth", "width"] (sp_mean K (csT T)) := by
  refine T.F_mean.ok (CX := L2.CX P w) sc_mean (fun vs H Q E h => by obtain ⟨d, w, rfl, _⟩ := h; rfl) (fun cdv A outer s H vs Q E hr h => ?_)
  obtain ⟨d, w, rfl, kind, x, h, q⟩ := h
  refine ⟨_, (pss_cons (ps_expr (pe_call (G_check_depth (P := P) T) (hr.mono (by decide)) (by rfl) T.g_check_depth T.F_check_depth.kp T.b0_check_depth T.v0_check_depth (passes_call (takes_of rfl rfl rfl rfl) (fun _ _ _ _ h => h)) (pa_cons (pv 0) pa_nil)))
  (pss_cons (ps_expr (pe_call (G_check_width (P := P) T) (hr.mono (by decide)) (by rfl) T.g_check_width T.F_check_width.kp T.b_check_width .nil (passes_call (takes_of rfl rfl rfl rfl) (fun _ _ _ _ h => h)) (pa_cons (pv 1) (pa_cons (pv 0) pa_nil))))
  (pss_one (ps_ret (pe_call (G_fraction (P := P) T) (hr.mono (by decide)) (by rfl) T.g_fraction T.F_fraction.kp T.b_fraction .nil pass0 (pa_cons (pe_call (G_twice_mean (P := P) T) (hr.mono (by decide)) (by rfl) T.g_twice_mean T.F_twice_mean.kp T.b_twice_mean .nil pass0 (pa_cons (pv 0) (pa_cons (pv 1) pa_nil))) (pa_cons pe_int pa_nil))))))), ?_⟩
  rcases h with ⟨rfl, rfl, hN⟩ | ⟨dd, rfl, d1, d2, rfl, rfl, hN⟩
  · exact ⟨_, rfl, _, 24, false, rfl, hN, (fun z => nomatch z), fun _ e nd => q H e (Same.refl _) nd⟩
  · refine ⟨_, rfl, _, 24, true, rfl, dok d1 d2, fun _ => ?_, fun z => nomatch z⟩
    exact ⟨_, rfl, _, rfl, _, _, false, rfl, hN, (fun z => nomatch z), fun _ e nd => q H e (Same.refl _) nd⟩
def sp_least_means (K : PySem.W.Frag) (cs : Nat → Addr) : Sp := fun vs H Q E => ∃ d : V, vs = [d] ∧ ∃ kind x, BadD K H d kind x ∧ EE H E (cs kind) x
theorem G_least_means (T : Top K mg) : FnOk P w K mg base (L2.CX P w) 4 T.f_least_means T.fd_least_means ["depth"] (sp_least_means K (csT T)) := by
  refine T.F_least_means.ok (CX := L2.CX P w) sc_least_means (fun vs H Q E h => by obtain ⟨d, rfl, _⟩ := h; rfl) (fun cdv A outer s H vs Q E hr h => ?_)
  obtain ⟨d, rfl, kind, x, h, q⟩ := h
  refine ⟨_, (pss_cons (ps_expr (pe_call (G_check_depth (P := P) T) (hr.mono (by decide)) (by rfl) T.g_check_depth T.F_check_depth.kp T.b0_check_depth T.v0_check_depth (passes_call (takes_of rfl rfl rfl rfl) (fun _ _ _ _ h => h)) (pa_cons (pv 0) pa_nil)))
  (pss_cons (ps_set (i := 1) sc_least_means.nd rfl (Or.inr rfl) (pe_lc (own := [("width", 2)]) (g := gName 2) (tt := tYes) (by rfl) sc_least_means.nd (pi_range1 (by rfl) T.n_range (pa_cons (pe_op op_add (pv 0) pe_int) pa_nil)) (blkOk_by (own := [("width", 2)]) (N := N_least_means) (sc := defScope s_least_means) (by decide +kernel)) (fun _ _ _ _ _ => (pg_name (i := 2) sc_least_means.nd rfl (by first | exact Or.inl rfl | exact Or.inr rfl))) (fun _ _ _ _ _ => pts_nil) (fun _ _ _ _ _ => (pe_call (G_twice_mean (P := P) T) (hr.mono (by decide)) (by rfl) T.g_twice_mean T.F_twice_mean.kp T.b_twice_mean .nil pass0 (pa_cons (pv 0) (pa_cons (pv 2) pa_nil))))))
  (pss_one (ps_ret (pe_lc (own := [("width", 2)]) (g := gName 2) (by rfl) sc_least_means.nd (pi_range1 (by rfl) T.n_range (pa_cons (pe_op op_add (pv 0) pe_int) pa_nil)) (blkOk_by (own := [("width", 2)]) (N := N_least_means) (sc := defScope s_least_means) (by decide +kernel)) (fun _ _ _ _ _ => (pg_name (i := 2) sc_least_means.nd rfl (by first | exact Or.inl rfl | exact Or.inr rfl))) (fun _ _ _ _ _ => (pts_one (pt_cmpR op_eq (pe_ix (k_ixL K rfl) (pv 1) (pv 2) (fun _ _ => rfl)) (pe_callB (k_min K rfl rfl) (by rfl) T.n_min (by decide +kernel) (pa_cons (pv 1) pa_nil)) (nomark _)))) (fun _ _ _ _ _ => (pv 2))))))), ?_⟩
  obtain ⟨rfl, rfl, hN⟩ := h
  exact ⟨_, rfl, _, 24, false, rfl, hN, (fun z => nomatch z), fun _ e nd => q H e (Same.refl _) nd⟩
/-- of a gap: the depth, one width, the other one -/
def BadG (K : PySem.W.Frag) (H : Hp) (o t d : V) (kind : Nat) (x : V) : Prop := BadDW K H d o kind x ∨ ∃ dd ww : Nat, OkDW d o dd ww ∧ kind = 2 ∧ x = t ∧ NumV K H t 0 (some dd) false
theorem BadG.same {K : PySem.W.Frag} {H H' : Hp} {d w m : V} {kind : Nat} {x : V} (s : Same H H') (h : BadG K H d w m kind x) : BadG K H' d w m kind x := by
  rcases h with h | ⟨dd, ww, a, b, c, e⟩
  · exact .inl (h.same s)
  · exact .inr ⟨dd, ww, a, b, c, e.same s⟩
def sp_gap (K : PySem.W.Frag) (cs : Nat → Addr) : Sp := fun vs H Q E => ∃ o t d : V, vs = [o, t, d] ∧ ∃ kind x, BadG K H o t d kind x ∧ EE H E (cs kind) x
theorem G_gap (T : Top K mg) : FnOk P w K mg base (L2.CX P w) 4 T.f_gap T.fd_gap ["one", "other", "depth"] (sp_gap K (csT T)) := by
  refine T.F_gap.ok (CX := L2.CX P w) sc_gap (fun vs H Q E h => by obtain ⟨o, t, d, rfl, _⟩ := h; rfl) (fun cdv A outer s H vs Q E hr h => ?_)
  obtain ⟨o, t, d, rfl, kind, x, h, q⟩ := h
  refine ⟨_, (pss_cons (ps_expr (pe_call (G_check_depth (P := P) T) (hr.mono (by decide)) (by rfl) T.g_check_depth T.F_check_depth.kp T.b0_check_depth T.v0_check_depth (passes_call (takes_of rfl rfl rfl rfl) (fun _ _ _ _ h => h)) (pa_cons (pv 2) pa_nil)))
  (pss_cons (ps_expr (pe_call (G_check_width (P := P) T) (hr.mono (by decide)) (by rfl) T.g_check_width T.F_check_width.kp T.b_check_width .nil (passes_call (takes_of rfl rfl rfl rfl) (fun _ _ _ _ h => h)) (pa_cons (pv 0) (pa_cons (pv 2) pa_nil))))
  (pss_cons (ps_expr (pe_call (G_check_width (P := P) T) (hr.mono (by decide)) (by rfl) T.g_check_width T.F_check_width.kp T.b_check_width .nil (passes_call (takes_of rfl rfl rfl rfl) (fun _ _ _ _ h => h)) (pa_cons (pv 1) (pa_cons (pv 2) pa_nil))))
  (pss_cons (ps_if (pt_cmpR op_ge (pv 0) (pv 1) (nomark _))
    (pss_one (ps_ret (pe_tup (pa_cons (pe_op op_sub (pv 0) (pv 1)) (pa_cons pe_int pa_nil)))))
    pss_nil)
  (pss_one (ps_ret (pe_tup (pa_cons (pe_op op_sub (pe_op op_add (pe_op op_sub (pe_op op_shl pe_int (pe_op op_sub (pv 2) (pv 0))) (pe_op op_shl pe_int (pe_op op_sub (pv 2) (pv 1)))) (pv 0)) (pv 1)) (pa_cons (pe_op op_sub (pe_op op_shl pe_int (pv 2)) (pe_op op_shl pe_int (pv 0))) pa_nil))))))))), ?_⟩
  rcases h with (⟨rfl, rfl, hN⟩ | ⟨dd, rfl, d1, d2, rfl, rfl, hN⟩) | ⟨dd, ww, ⟨rfl, rfl, d1, d2, w2⟩, rfl, rfl, hN⟩
  · exact ⟨_, rfl, _, 24, false, rfl, hN, (fun z => nomatch z), fun _ e nd => q H e (Same.refl _) nd⟩
  · refine ⟨_, rfl, _, 24, true, rfl, dok d1 d2, fun _ => ?_, fun z => nomatch z⟩
    exact ⟨_, rfl, _, rfl, _, _, false, rfl, hN, (fun z => nomatch z), fun _ e nd => q H e (Same.refl _) nd⟩
  · refine ⟨_, rfl, _, 24, true, rfl, dok d1 d2, fun _ => ?_, fun z => nomatch z⟩
    refine ⟨_, rfl, _, rfl, _, _, true, rfl, nok w2, fun _ => ?_, fun z => nomatch z⟩
    exact ⟨_, rfl, _, rfl, _, _, false, rfl, hN, (fun z => nomatch z), fun _ e nd => q H e (Same.refl _) nd⟩
end
end My

namespace My
open PySem PySem.Spec PyProof.Rows L2 Pre
/-! ### counts refused: doors -/
def doorF {K : PySem.W.Frag} {mg : Str → Option Value} (T : Top K mg) : Nat → Addr
  | 0 => T.f_how_many
  | 1 => T.f_size_bounds
  | 2 => T.f_row_at
  | 3 => T.f_number_of
  | 4 => T.f_fair
  | 5 => T.f_mean
  | 6 => T.f_least_means
  | _ => T.f_gap
/-- what a door refuses: with the kind of error and what it tells -/
def Refuse (K : PySem.W.Frag) (C : Addr) (H : Hp) (k : Nat) (us : List V) (kind : Nat) (x : V) : Prop :=
  (k = 0 ∧ ∃ d w m s, us = [d, w, m, s] ∧ BadHM K H d w m s kind x) ∨
  (k = 1 ∧ ∃ d w m, us = [d, w, m] ∧ BadM K H d w m kind x) ∨
  (k = 2 ∧ ∃ g d w m s n, us = [g, d, w, m, s, n] ∧ ((NoG K H g ∧ kind = 0 ∧ x = g) ∨ (IsG C H g ∧ (BadHM K H d w m s kind x ∨ ∃ dd, Ok4 d w m s dd ∧ NumV K H n 0 none false ∧ kind = 3 ∧ x = n)))) ∨
  (k = 3 ∧ ∃ g d w r, us = [g, d, w, r] ∧ ((NoG K H g ∧ kind = 0 ∧ x = g) ∨ (IsG C H g ∧ (BadDW K H d w kind x ∨ ∃ dd ww, OkDW d w dd ww ∧ BadRw K H dd r ∧ kind = 4 ∧ x = r)))) ∨
  (k = 4 ∧ ∃ d w, us = [d, w] ∧ (BadDW K H d w kind x ∨ ∃ dd ww, OkDW d w dd ww ∧ ww + 10 < dd ∧ kind = 2 ∧ x = w)) ∨
  (k = 5 ∧ ∃ d w, us = [d, w] ∧ BadDW K H d w kind x) ∨
  (k = 6 ∧ ∃ d, us = [d] ∧ BadD K H d kind x) ∨
  (k = 7 ∧ ∃ o t d, us = [o, t, d] ∧ BadG K H o t d kind x)
theorem Refuse.same {K : PySem.W.Frag} {C : Addr} {H H' : Hp} {k : Nat} {us : List V} {kind : Nat} {x : V} (s : Same H H') (h : Refuse K C H k us kind x) : Refuse K C H' k us kind x := by
  rcases h with ⟨e, d, w, m, n, e2, h⟩ | ⟨e, d, w, m, e2, h⟩ | ⟨e, g, d, w, m, n, r, e2, h⟩ | ⟨e, g, d, w, r, e2, h⟩ | ⟨e, d, w, e2, h⟩ | ⟨e, d, w, e2, h⟩ | ⟨e, d, e2, h⟩ | ⟨e, o, t, d, e2, h⟩
  · exact .inl ⟨e, d, w, m, n, e2, h.same s⟩
  · exact .inr (.inl ⟨e, d, w, m, e2, h.same s⟩)
  · refine .inr (.inr (.inl ⟨e, g, d, w, m, n, r, e2, ?_⟩))
    rcases h with ⟨h, k⟩ | ⟨h, k | ⟨dd, a, b, c⟩⟩
    · exact .inl ⟨h.same s, k⟩
    · exact .inr ⟨h.same s, .inl (k.same s)⟩
    · exact .inr ⟨h.same s, .inr ⟨dd, a, b.same s, c⟩⟩
  · refine .inr (.inr (.inr (.inl ⟨e, g, d, w, r, e2, ?_⟩)))
    rcases h with ⟨h, k⟩ | ⟨h, k | ⟨dd, ww, a, b, c⟩⟩
    · exact .inl ⟨h.same s, k⟩
    · exact .inr ⟨h.same s, .inl (k.same s)⟩
    · exact .inr ⟨h.same s, .inr ⟨dd, ww, a, b.same s, c⟩⟩
  · refine .inr (.inr (.inr (.inr (.inl ⟨e, d, w, e2, ?_⟩))))
    rcases h with h | h
    · exact .inl (h.same s)
    · exact .inr h
  · exact .inr (.inr (.inr (.inr (.inr (.inl ⟨e, d, w, e2, h.same s⟩)))))
  · exact .inr (.inr (.inr (.inr (.inr (.inr (.inl ⟨e, d, e2, h.same s⟩))))))
  · exact .inr (.inr (.inr (.inr (.inr (.inr (.inr ⟨e, o, t, d, e2, h.same s⟩))))))
theorem Refuse.lt {K : PySem.W.Frag} {C : Addr} {H : Hp} {k : Nat} {us : List V} {kind : Nat} {x : V} (h : Refuse K C H k us kind x) : k < 8 := by
  rcases h with ⟨e, _⟩ | ⟨e, _⟩ | ⟨e, _⟩ | ⟨e, _⟩ | ⟨e, _⟩ | ⟨e, _⟩ | ⟨e, _⟩ | ⟨e, _⟩ <;> omega
local macro_rules | `(tactic| walk_at "go") => `(tactic| repeat (first | (with_reducible first | refine iteT ?_ | refine iteF ?_ | refine iteNtt ?_ | refine iteNff ?_ | refine iteET (by omega) ?_ | refine iteEF (by omega) ?_ | refine iteENT (by omega) ?_ | refine iteENF (by omega) ?_ | refine iteDT (by omega) ?_ | refine iteDF (by omega) ?_ | refine iteNT (by omega) ?_ | refine iteNF (by omega) ?_) | refine ⟨_, rfl, ?_⟩ | refine ⟨_, _, rfl, rfl, ?_⟩ | refine ⟨_, _, rfl, ?_⟩ | refine ⟨rfl, ?_⟩ | refine .inl ⟨_, rfl, ?_⟩ | refine .inr ⟨_, rfl, ?_⟩))
local macro_rules | `(tactic| walk_at "b") => `(tactic| try dsimp (config := { proj := false, iota := false, eta := false, zeta := false }) only)
section
variable {P : Program} {w : World} {K : PySem.W.Frag} {mg : Str → Option Value} {base : Heap} [pf : Sup.PF P fileS]
def sp_law_asked (P : Program) (w : World) (K : PySem.W.Frag) (mg : Str → Option Value) (base : Heap) : Sp := fun vs H Q E => ∃ (f l : Addr) (fd : FuncData) (ps : List Str) (sp : Sp) (us : List V), vs = [.ref f, .ref l] ∧ FnOk P w K mg base (L2.CX P w) 12 f fd ps sp ∧ PySem.W.keepIn K (.ref f) = true ∧ Binds K fd ps [] ∧ H l = some (.lst us) ∧ 1 ≤ us.length ∧ us.length ≤ 6 ∧ sp us H Q E
theorem G_law_asked (T : Top K mg) : FnOk P w K mg base (L2.CX P w) 14 T.f_law_asked T.fd_law_asked ["_law_function", "_law_values"] (sp_law_asked P w K mg base) := by
  refine T.F_law_asked.ok (CX := L2.CX P w) sc_law_asked (fun vs H Q E h => by obtain ⟨f, l, fd, ps, sp, us, rfl, _⟩ := h; rfl) (fun cdv A outer s H vs Q E hr h => ?_)
  obtain ⟨f, l, fd, ps, sp, us, rfl, hF, hk, hb, hl, h1, h6, q⟩ := h
  refine ⟨_, (pss_cons (ps_if (pt_cmpR op_eq (pe_callB (k_len K rfl) (by rfl) T.n_len (by decide +kernel) (pa_cons (pv 1) pa_nil)) pe_int (nomark _))
    (pss_one (ps_ret (pe_callV (k := 12) (hr.mono (by decide)) (pv 0) (passes_call (takes_of rfl rfl rfl rfl) (fun _ _ _ _ h => h)) (pa_cons (pe_ix (k_ixL K rfl) (pv 1) pe_int (fun _ _ => rfl)) pa_nil))))
    pss_nil)
  (pss_cons (ps_if (pt_cmpR op_eq (pe_callB (k_len K rfl) (by rfl) T.n_len (by decide +kernel) (pa_cons (pv 1) pa_nil)) pe_int (nomark _))
    (pss_one (ps_ret (pe_callV (k := 12) (hr.mono (by decide)) (pv 0) (passes_call (takes_of rfl rfl rfl rfl) (fun _ _ _ _ h => h)) (pa_cons (pe_ix (k_ixL K rfl) (pv 1) pe_int (fun _ _ => rfl)) (pa_cons (pe_ix (k_ixL K rfl) (pv 1) pe_int (fun _ _ => rfl)) pa_nil)))))
    pss_nil)
  (pss_cons (ps_if (pt_cmpR op_eq (pe_callB (k_len K rfl) (by rfl) T.n_len (by decide +kernel) (pa_cons (pv 1) pa_nil)) pe_int (nomark _))
    (pss_one (ps_ret (pe_callV (k := 12) (hr.mono (by decide)) (pv 0) (passes_call (takes_of rfl rfl rfl rfl) (fun _ _ _ _ h => h)) (pa_cons (pe_ix (k_ixL K rfl) (pv 1) pe_int (fun _ _ => rfl)) (pa_cons (pe_ix (k_ixL K rfl) (pv 1) pe_int (fun _ _ => rfl)) (pa_cons (pe_ix (k_ixL K rfl) (pv 1) pe_int (fun _ _ => rfl)) pa_nil))))))
    pss_nil)
  (pss_cons (ps_if (pt_cmpR op_eq (pe_callB (k_len K rfl) (by rfl) T.n_len (by decide +kernel) (pa_cons (pv 1) pa_nil)) pe_int (nomark _))
    (pss_one (ps_ret (pe_callV (k := 12) (hr.mono (by decide)) (pv 0) (passes_call (takes_of rfl rfl rfl rfl) (fun _ _ _ _ h => h)) (pa_cons (pe_ix (k_ixL K rfl) (pv 1) pe_int (fun _ _ => rfl)) (pa_cons (pe_ix (k_ixL K rfl) (pv 1) pe_int (fun _ _ => rfl)) (pa_cons (pe_ix (k_ixL K rfl) (pv 1) pe_int (fun _ _ => rfl)) (pa_cons (pe_ix (k_ixL K rfl) (pv 1) pe_int (fun _ _ => rfl)) pa_nil)))))))
    pss_nil)
  (pss_cons (ps_if (pt_cmpR op_eq (pe_callB (k_len K rfl) (by rfl) T.n_len (by decide +kernel) (pa_cons (pv 1) pa_nil)) pe_int (nomark _))
    (pss_one (ps_ret (pe_callV (k := 12) (hr.mono (by decide)) (pv 0) (passes_call (takes_of rfl rfl rfl rfl) (fun _ _ _ _ h => h)) (pa_cons (pe_ix (k_ixL K rfl) (pv 1) pe_int (fun _ _ => rfl)) (pa_cons (pe_ix (k_ixL K rfl) (pv 1) pe_int (fun _ _ => rfl)) (pa_cons (pe_ix (k_ixL K rfl) (pv 1) pe_int (fun _ _ => rfl)) (pa_cons (pe_ix (k_ixL K rfl) (pv 1) pe_int (fun _ _ => rfl)) (pa_cons (pe_ix (k_ixL K rfl) (pv 1) pe_int (fun _ _ => rfl)) pa_nil))))))))
    pss_nil)
  (pss_one (ps_ret (pe_callV (k := 12) (hr.mono (by decide)) (pv 0) (passes_call (takes_of rfl rfl rfl rfl) (fun _ _ _ _ h => h)) (pa_cons (pe_ix (k_ixL K rfl) (pv 1) pe_int (fun _ _ => rfl)) (pa_cons (pe_ix (k_ixL K rfl) (pv 1) pe_int (fun _ _ => rfl)) (pa_cons (pe_ix (k_ixL K rfl) (pv 1) pe_int (fun _ _ => rfl)) (pa_cons (pe_ix (k_ixL K rfl) (pv 1) pe_int (fun _ _ => rfl)) (pa_cons (pe_ix (k_ixL K rfl) (pv 1) pe_int (fun _ _ => rfl)) (pa_cons (pe_ix (k_ixL K rfl) (pv 1) pe_int (fun _ _ => rfl)) pa_nil)))))))))))))), ?_⟩
  rcases us with _ | ⟨x1, _ | ⟨x2, _ | ⟨x3, _ | ⟨x4, _ | ⟨x5, _ | ⟨x6, _ | ⟨x7, r⟩⟩⟩⟩⟩⟩⟩
  · exact absurd h1 (by decide)
  · refine ⟨_, rfl, l, _, rfl, .inl (.inl (.inl hl)), rfl, _, rfl, iteET (by show ((1 : Nat) : Int) = 1; decide) ?_⟩
    exact ⟨_, rfl, f, fd, ps, sp, rfl, hF, hk, hb, _, rfl, l, _, _, _, rfl, rfl, .inl (.inl hl), atI_nat (j := 0) rfl, q⟩
  · refine ⟨_, rfl, l, _, rfl, .inl (.inl (.inl hl)), rfl, _, rfl, iteEF (by show ¬ ((2 : Nat) : Int) = 1; decide) ?_⟩
    refine ⟨_, rfl, l, _, rfl, .inl (.inl (.inl hl)), rfl, _, rfl, iteET (by show ((2 : Nat) : Int) = 2; decide) ?_⟩
    exact ⟨_, rfl, f, fd, ps, sp, rfl, hF, hk, hb, _, rfl, l, _, _, _, rfl, rfl, .inl (.inl hl), atI_nat (j := 0) rfl, _, rfl, l, _, _, _, rfl, rfl, .inl (.inl hl), atI_nat (j := 1) rfl, q⟩
  · refine ⟨_, rfl, l, _, rfl, .inl (.inl (.inl hl)), rfl, _, rfl, iteEF (by show ¬ ((3 : Nat) : Int) = 1; decide) ?_⟩
    refine ⟨_, rfl, l, _, rfl, .inl (.inl (.inl hl)), rfl, _, rfl, iteEF (by show ¬ ((3 : Nat) : Int) = 2; decide) ?_⟩
    refine ⟨_, rfl, l, _, rfl, .inl (.inl (.inl hl)), rfl, _, rfl, iteET (by show ((3 : Nat) : Int) = 3; decide) ?_⟩
    exact ⟨_, rfl, f, fd, ps, sp, rfl, hF, hk, hb, _, rfl, l, _, _, _, rfl, rfl, .inl (.inl hl), atI_nat (j := 0) rfl, _, rfl, l, _, _, _, rfl, rfl, .inl (.inl hl), atI_nat (j := 1) rfl, _, rfl, l, _, _, _, rfl, rfl, .inl (.inl hl), atI_nat (j := 2) rfl, q⟩
  · refine ⟨_, rfl, l, _, rfl, .inl (.inl (.inl hl)), rfl, _, rfl, iteEF (by show ¬ ((4 : Nat) : Int) = 1; decide) ?_⟩
    refine ⟨_, rfl, l, _, rfl, .inl (.inl (.inl hl)), rfl, _, rfl, iteEF (by show ¬ ((4 : Nat) : Int) = 2; decide) ?_⟩
    refine ⟨_, rfl, l, _, rfl, .inl (.inl (.inl hl)), rfl, _, rfl, iteEF (by show ¬ ((4 : Nat) : Int) = 3; decide) ?_⟩
    refine ⟨_, rfl, l, _, rfl, .inl (.inl (.inl hl)), rfl, _, rfl, iteET (by show ((4 : Nat) : Int) = 4; decide) ?_⟩
    exact ⟨_, rfl, f, fd, ps, sp, rfl, hF, hk, hb, _, rfl, l, _, _, _, rfl, rfl, .inl (.inl hl), atI_nat (j := 0) rfl, _, rfl, l, _, _, _, rfl, rfl, .inl (.inl hl), atI_nat (j := 1) rfl, _, rfl, l, _, _, _, rfl, rfl, .inl (.inl hl), atI_nat (j := 2) rfl, _, rfl, l, _, _, _, rfl, rfl, .inl (.inl hl), atI_nat (j := 3) rfl, q⟩
  · refine ⟨_, rfl, l, _, rfl, .inl (.inl (.inl hl)), rfl, _, rfl, iteEF (by show ¬ ((5 : Nat) : Int) = 1; decide) ?_⟩
    refine ⟨_, rfl, l, _, rfl, .inl (.inl (.inl hl)), rfl, _, rfl, iteEF (by show ¬ ((5 : Nat) : Int) = 2; decide) ?_⟩
    refine ⟨_, rfl, l, _, rfl, .inl (.inl (.inl hl)), rfl, _, rfl, iteEF (by show ¬ ((5 : Nat) : Int) = 3; decide) ?_⟩
    refine ⟨_, rfl, l, _, rfl, .inl (.inl (.inl hl)), rfl, _, rfl, iteEF (by show ¬ ((5 : Nat) : Int) = 4; decide) ?_⟩
    refine ⟨_, rfl, l, _, rfl, .inl (.inl (.inl hl)), rfl, _, rfl, iteET (by show ((5 : Nat) : Int) = 5; decide) ?_⟩
    exact ⟨_, rfl, f, fd, ps, sp, rfl, hF, hk, hb, _, rfl, l, _, _, _, rfl, rfl, .inl (.inl hl), atI_nat (j := 0) rfl, _, rfl, l, _, _, _, rfl, rfl, .inl (.inl hl), atI_nat (j := 1) rfl, _, rfl, l, _, _, _, rfl, rfl, .inl (.inl hl), atI_nat (j := 2) rfl, _, rfl, l, _, _, _, rfl, rfl, .inl (.inl hl), atI_nat (j := 3) rfl, _, rfl, l, _, _, _, rfl, rfl, .inl (.inl hl), atI_nat (j := 4) rfl, q⟩
  · refine ⟨_, rfl, l, _, rfl, .inl (.inl (.inl hl)), rfl, _, rfl, iteEF (by show ¬ ((6 : Nat) : Int) = 1; decide) ?_⟩
    refine ⟨_, rfl, l, _, rfl, .inl (.inl (.inl hl)), rfl, _, rfl, iteEF (by show ¬ ((6 : Nat) : Int) = 2; decide) ?_⟩
    refine ⟨_, rfl, l, _, rfl, .inl (.inl (.inl hl)), rfl, _, rfl, iteEF (by show ¬ ((6 : Nat) : Int) = 3; decide) ?_⟩
    refine ⟨_, rfl, l, _, rfl, .inl (.inl (.inl hl)), rfl, _, rfl, iteEF (by show ¬ ((6 : Nat) : Int) = 4; decide) ?_⟩
    refine ⟨_, rfl, l, _, rfl, .inl (.inl (.inl hl)), rfl, _, rfl, iteEF (by show ¬ ((6 : Nat) : Int) = 5; decide) ?_⟩
    exact ⟨_, rfl, f, fd, ps, sp, rfl, hF, hk, hb, _, rfl, l, _, _, _, rfl, rfl, .inl (.inl hl), atI_nat (j := 0) rfl, _, rfl, l, _, _, _, rfl, rfl, .inl (.inl hl), atI_nat (j := 1) rfl, _, rfl, l, _, _, _, rfl, rfl, .inl (.inl hl), atI_nat (j := 2) rfl, _, rfl, l, _, _, _, rfl, rfl, .inl (.inl hl), atI_nat (j := 3) rfl, _, rfl, l, _, _, _, rfl, rfl, .inl (.inl hl), atI_nat (j := 4) rfl, _, rfl, l, _, _, _, rfl, rfl, .inl (.inl hl), atI_nat (j := 5) rfl, q⟩
  · exact absurd h6 (by simp only [List.length_cons]; omega)
theorem asked_of (T : Top K mg) {k : Nat} {a : Addr} {us : List V} {H : Hp} {Q : VK} {E : XK} {kind : Nat} {x : V} (hl : H a = some (.lst us)) (h : Refuse K T.C_Guesser H k us kind x) (hE : EE H E (csT T kind) x) : sp_law_asked P w K mg base [.ref (doorF T k), .ref a] H Q E := by
  rcases h with ⟨rfl, d, w, m, n, rfl, h⟩ | ⟨rfl, d, w, m, rfl, h⟩ | ⟨rfl, g, d, w, m, n, r, rfl, h⟩ | ⟨rfl, g, d, w, r, rfl, h⟩ | ⟨rfl, d, w, rfl, h⟩ | ⟨rfl, d, w, rfl, h⟩ | ⟨rfl, d, rfl, h⟩ | ⟨rfl, o, t, d, rfl, h⟩
  · exact ⟨T.f_how_many, a, _, _, _, _, rfl, (G_how_many (P := P) T).mono (by decide), T.F_how_many.kp, T.b_how_many, hl, (by show 1 ≤ 4; decide), (by show 4 ≤ 6; decide), d, w, m, n, rfl, .inl ⟨kind, x, h, hE⟩⟩
  · exact ⟨T.f_size_bounds, a, _, _, _, _, rfl, (G_size_bounds (P := P) T).mono (by decide), T.F_size_bounds.kp, T.b_size_bounds, hl, (by show 1 ≤ 3; decide), (by show 3 ≤ 6; decide), d, w, m, rfl, kind, x, h, hE⟩
  · refine ⟨T.f_row_at, a, _, _, _, _, rfl, (G_row_at (P := P) T).mono (by decide), T.F_row_at.kp, T.b_row_at, hl, (by show 1 ≤ 6; decide), (by show 6 ≤ 6; decide), g, d, w, m, n, r, rfl, ?_⟩
    rcases h with ⟨h, rfl, rfl⟩ | ⟨hG, h | ⟨dd, h, hN, rfl, rfl⟩⟩
    · exact .inl ⟨h, hE⟩
    · exact .inr ⟨hG, .inl ⟨kind, x, h, hE⟩⟩
    · exact .inr ⟨hG, .inr ⟨dd, h, hN, hE⟩⟩
  · refine ⟨T.f_number_of, a, _, _, _, _, rfl, (G_number_of (P := P) T).mono (by decide), T.F_number_of.kp, T.b_number_of, hl, (by show 1 ≤ 4; decide), (by show 4 ≤ 6; decide), g, d, w, r, rfl, ?_⟩
    rcases h with ⟨h, rfl, rfl⟩ | ⟨hG, h | ⟨dd, ww, h, hN, rfl, rfl⟩⟩
    · exact .inl ⟨h, hE⟩
    · exact .inr ⟨hG, .inl ⟨kind, x, h, hE⟩⟩
    · exact .inr ⟨hG, .inr ⟨dd, ww, h, hN, hE⟩⟩
  · refine ⟨T.f_fair, a, _, _, _, _, rfl, (G_fair (P := P) T).mono (by decide), T.F_fair.kp, T.b_fair, hl, (by show 1 ≤ 2; decide), (by show 2 ≤ 6; decide), d, w, rfl, ?_⟩
    rcases h with h | ⟨dd, ww, h, h2, rfl, rfl⟩
    · exact .inl ⟨kind, x, h, hE⟩
    · exact .inr (.inl ⟨dd, ww, h, h2, hE⟩)
  · exact ⟨T.f_mean, a, _, _, _, _, rfl, (G_mean (P := P) T).mono (by decide), T.F_mean.kp, T.b_mean, hl, (by show 1 ≤ 2; decide), (by show 2 ≤ 6; decide), d, w, rfl, kind, x, h, hE⟩
  · exact ⟨T.f_least_means, a, _, _, _, _, rfl, (G_least_means (P := P) T).mono (by decide), T.F_least_means.kp, T.b_least_means, hl, (by show 1 ≤ 1; decide), (by show 1 ≤ 6; decide), d, rfl, kind, x, h, hE⟩
  · exact ⟨T.f_gap, a, _, _, _, _, rfl, (G_gap (P := P) T).mono (by decide), T.F_gap.kp, T.b_gap, hl, (by show 1 ≤ 3; decide), (by show 3 ≤ 6; decide), o, t, d, rfl, kind, x, h, hE⟩
def sp_law_caught (K : PySem.W.Frag) (C : Addr) : Sp := fun vs H Q _ => ∃ (k : Nat) (a : Addr) (us : List V), vs = [.int k, .ref a] ∧ H a = some (.lst us) ∧
  ((∃ (kind : Nat) (x : V) (t : Str), Refuse K C H k us kind x ∧ kind ≤ 4 ∧ Shw K H x t ∧ ∀ H' p, Same H H' → H p = none → H' p = some (.lst [.int kind, .str t]) → Q (.ref p) H') ∨ (k = 4 ∧ us = [.int 10, .int 0] ∧ ∀ H', Same H H' → Q .non H'))
theorem G_law_caught (T : Top K mg) : FnG P w K mg base CX0 15 T.f_law_caught T.fd_law_caught ["_law_door", "_law_values"] (sp_law_caught K T.C_Guesser) := by
  refine FnG.body T.F_law_caught sc_law_caught (fun vs H Q E h => by obtain ⟨k, a, us, rfl, _⟩ := h; rfl) (fun cdv A outer s H vs Q E gd hr h => ?_)
  obtain ⟨k, a, us, rfl, hl, h⟩ := h
  refine ⟨_, PSs.nox (pss_cons (ps_set (i := 2) sc_law_caught.nd rfl (by first | exact Or.inl rfl | exact Or.inr rfl) pe_non)
  (pss_cons (ps_try_keep (i := 3) rfl rfl rfl sc_law_caught.nd rfl rfl takes_none5 (fun W pn xe tk po => (pss_cons (ps_set (i := 5) sc_law_caught.nd rfl (by first | exact Or.inl rfl | exact Or.inr rfl) (pe_lst (pa_cons (pe_glob (v := .ref T.f_how_many) rfl T.g_how_many rfl) (pa_cons (pe_glob (v := .ref T.f_size_bounds) rfl T.g_size_bounds rfl) (pa_cons (pe_glob (v := .ref T.f_row_at) rfl T.g_row_at rfl) (pa_cons (pe_glob (v := .ref T.f_number_of) rfl T.g_number_of rfl) (pa_cons (pe_glob (v := .ref T.f_fair) rfl T.g_fair rfl) (pa_cons (pe_glob (v := .ref T.f_mean) rfl T.g_mean rfl) (pa_cons (pe_glob (v := .ref T.f_least_means) rfl T.g_least_means rfl) (pa_cons (pe_glob (v := .ref T.f_gap) rfl T.g_gap rfl) pa_nil))))))))))
  (pss_one (ps_expr (pe_callS (G_law_asked (P := P) (w := w) (base := base) T) (hr.mono (by decide)) (by rfl) T.g_law_asked T.F_law_asked.kp T.b_law_asked (fun σ => passAt tk σ) (pa_cons (pe_ix (k_ixL K rfl) (pv 5) (pv 0) (fun _ _ => rfl)) (pa_cons (pv 1) pa_nil)))))))
    (HdsAs.cons ⟨by rfl, by decide, .inl T.gc_SoundError⟩ (fun a oe cls d pn hz hf => (pss_one (ps_set (i := 2) sc_law_caught.nd rfl (by first | exact Or.inl rfl | exact Or.inr rfl) (pv 3)))) HdsAs.nil))
  (pss_cons (ps_if (pt_cmpR op_isN (pv 2) pe_non (nomark _))
    (pss_one (ps_ret pe_non))
    pss_nil)
  (pss_cons (ps_set (i := 4) sc_law_caught.nd rfl (by first | exact Or.inl rfl | exact Or.inr rfl) (pe_lst (pa_cons (pe_callB (k_isiE K rfl) (by rfl) T.n_isinstance (by decide +kernel) (pa_cons (pv 2) (pa_cons (pe_glob (v := .ref T.C_InvalidGuesser) rfl T.gc_InvalidGuesser rfl) pa_nil))) (pa_cons (pe_callB (k_isiE K rfl) (by rfl) T.n_isinstance (by decide +kernel) (pa_cons (pv 2) (pa_cons (pe_glob (v := .ref T.C_InvalidDepth) rfl T.gc_InvalidDepth rfl) pa_nil))) (pa_cons (pe_callB (k_isiE K rfl) (by rfl) T.n_isinstance (by decide +kernel) (pa_cons (pv 2) (pa_cons (pe_glob (v := .ref T.C_InvalidWidth) rfl T.gc_InvalidWidth rfl) pa_nil))) pa_nil)))))
  (pss_cons (ps_set (i := 4) sc_law_caught.nd rfl (by first | exact Or.inl rfl | exact Or.inr rfl) (pe_op op_cat (pv 4) (pe_lst (pa_cons (pe_callB (k_isiE K rfl) (by rfl) T.n_isinstance (by decide +kernel) (pa_cons (pv 2) (pa_cons (pe_glob (v := .ref T.C_InvalidNumber) rfl T.gc_InvalidNumber rfl) pa_nil))) (pa_cons (pe_callB (k_isiE K rfl) (by rfl) T.n_isinstance (by decide +kernel) (pa_cons (pv 2) (pa_cons (pe_glob (v := .ref T.C_InvalidRow) rfl T.gc_InvalidRow rfl) pa_nil))) pa_nil)))))
  (pss_one (ps_ret (pe_lst (pa_cons (pe_bm PySem.F.plainAttrs_list PySem.F.slot_list_index PySem.F.type_list_index (k_index K rfl) (pv 4) (pa_cons pe_bl pa_nil)) (pa_cons (pe_callB (k_reprX K rfl gd (hu65 hr)) (by rfl) T.n_repr (by decide +kernel) (pa_cons (pe_xfK (pv 2)) pa_nil)) pa_nil)))))))))), ?_⟩
  have no0 : ∀ (m : Nat) (z' : V), m < 0 → [V.bl true, .bl false, .bl false, .bl false, .bl false][m]? = some z' → eqV z' (.bl true) = false := fun m z' h e =>
    match m, h, e with
    | m + 0, h, _ => absurd h (by omega)
  have no1 : ∀ (m : Nat) (z' : V), m < 1 → [V.bl false, .bl true, .bl false, .bl false, .bl false][m]? = some z' → eqV z' (.bl true) = false := fun m z' h e =>
    match m, h, e with
    | 0, _, e => by cases e; rfl
    | m + 1, h, _ => absurd h (by omega)
  have no2 : ∀ (m : Nat) (z' : V), m < 2 → [V.bl false, .bl false, .bl true, .bl false, .bl false][m]? = some z' → eqV z' (.bl true) = false := fun m z' h e =>
    match m, h, e with
    | 0, _, e => by cases e; rfl
    | 1, _, e => by cases e; rfl
    | m + 2, h, _ => absurd h (by omega)
  have no3 : ∀ (m : Nat) (z' : V), m < 3 → [V.bl false, .bl false, .bl false, .bl true, .bl false][m]? = some z' → eqV z' (.bl true) = false := fun m z' h e =>
    match m, h, e with
    | 0, _, e => by cases e; rfl
    | 1, _, e => by cases e; rfl
    | 2, _, e => by cases e; rfl
    | m + 3, h, _ => absurd h (by omega)
  have no4 : ∀ (m : Nat) (z' : V), m < 4 → [V.bl false, .bl false, .bl false, .bl false, .bl true][m]? = some z' → eqV z' (.bl true) = false := fun m z' h e =>
    match m, h, e with
    | 0, _, e => by cases e; rfl
    | 1, _, e => by cases e; rfl
    | 2, _, e => by cases e; rfl
    | 3, _, e => by cases e; rfl
    | m + 4, h, _ => absurd h (by omega)
  refine ⟨(by show 8 ≤ sizeLine; decide), fun dl ndl => ?_⟩
  obtain ⟨H1, e1, s1, hdl⟩ := fresh (.lst [V.ref T.f_how_many, .ref T.f_size_bounds, .ref T.f_row_at, .ref T.f_number_of, .ref T.f_fair, .ref T.f_mean, .ref T.f_least_means, .ref T.f_gap]) ndl
  rw [e1]
  rcases h with ⟨kind, x, t, hR, hk, hS, q⟩ | ⟨rfl, rfl, q⟩
  · have hdoor : ([.ref T.f_how_many, .ref T.f_size_bounds, .ref T.f_row_at, .ref T.f_number_of, .ref T.f_fair, .ref T.f_mean, .ref T.f_least_means, .ref T.f_gap] : List V)[k]? = some (.ref (doorF T k)) := by
      have := hR.lt
      rcases (show k = 0 ∨ k = 1 ∨ k = 2 ∨ k = 3 ∨ k = 4 ∨ k = 5 ∨ k = 6 ∨ k = 7 by omega) with rfl | rfl | rfl | rfl | rfl | rfl | rfl | rfl <;> rfl
    refine ⟨_, rfl, _, rfl, dl, _, _, _, rfl, rfl, .inl (.inl hdl), atI_nat hdoor, _, rfl, ?_⟩
    refine asked_of T (s1 _ _ hl) (hR.same s1) fun H2 dd s2 nd => ?_
    rcases (show kind = 0 ∨ kind = 1 ∨ kind = 2 ∨ kind = 3 ∨ kind = 4 by omega) with rfl | rfl | rfl | rfl | rfl
    · refine ⟨true, T.em_InvalidGuesser_SoundError, fun _ ae nae => ?_, fun z => nomatch z⟩
      have hdd : upd (upd H2 dd (.xd [(Str.ofString "value", x)])) ae (ExK (.ref T.C_InvalidGuesser) (some dd) ae) dd = some (.xd [(Str.ofString "value", x)]) := by
        rw [upd_ne (ne_of_none upd_same nae), upd_same]
      have hae : upd (upd H2 dd (.xd [(Str.ofString "value", x)])) ae (ExK (.ref T.C_InvalidGuesser) (some dd) ae) ae = some (ExK (.ref T.C_InvalidGuesser) (some dd) ae) := upd_same
      have s3 := (s2.trans (same_upd (o := .xd [(Str.ofString "value", x)]) nd)).trans (same_upd (o := ExK (.ref T.C_InvalidGuesser) (some dd) ae) nae)
      refine ⟨_, rfl, _, rfl, rfl, _, rfl, iteDF (fun z => nomatch z) ⟨_, rfl, .inr ⟨ae, _, dd, _, _, _, _, rfl, hae, hdd, T.ei_InvalidGuesser, .own _, T.ki_InvalidGuesser_InvalidGuesser, _, rfl, .inr ⟨ae, _, dd, _, _, _, _, rfl, hae, hdd, T.ei_InvalidGuesser, .own _, T.ki_InvalidGuesser_InvalidDepth, _, rfl, .inr ⟨ae, _, dd, _, _, _, _, rfl, hae, hdd, T.ei_InvalidGuesser, .own _, T.ki_InvalidGuesser_InvalidWidth, (by show 3 ≤ sizeLine; decide), fun L nL => ?_⟩⟩⟩⟩⟩
      obtain ⟨H3, e3, s4, hL⟩ := fresh (.lst [V.bl true, .bl false, .bl false]) nL
      rw [e3]
      refine ⟨_, rfl, _, rfl, .inr ⟨ae, _, dd, _, _, _, _, rfl, s4 _ _ hae, s4 _ _ hdd, T.ei_InvalidGuesser, .own _, T.ki_InvalidGuesser_InvalidNumber, _, rfl, .inr ⟨ae, _, dd, _, _, _, _, rfl, s4 _ _ hae, s4 _ _ hdd, T.ei_InvalidGuesser, .own _, T.ki_InvalidGuesser_InvalidRow, (by show 2 ≤ sizeLine; decide), fun L2 nL2 => ?_⟩⟩⟩
      obtain ⟨H4, e4, s5, hL2⟩ := fresh (.lst [V.bl false, .bl false]) nL2
      rw [e4]
      refine ⟨L, L2, _, _, rfl, rfl, s5 _ _ hL, hL2, by decide, fun L3 nL3 => ?_⟩
      obtain ⟨H5, e5, s6, hL3⟩ := fresh (.lst [V.bl true, .bl false, .bl false, .bl false, .bl false]) nL3
      rw [show upd H4 L3 (.lst ([V.bl true, .bl false, .bl false] ++ [V.bl false, .bl false])) = H5 from e5]
      have s36 := (s4.trans s5).trans s6
      have s06 := (s1.trans s3).trans s36
      refine ⟨_, rfl, .inl ⟨rfl, _, .inl (.inl hL3)⟩, L3, _, .bl true, 0, .bl true, rfl, rfl, .inl (.inl hL3), rfl, rfl, rfl, rfl, no0, _, rfl, ae, _, dd, _, x, rfl, s36 _ _ hae, s36 _ _ hdd, T.er_InvalidGuesser.xf, T.er_InvalidGuesser.sup.nov, rfl, (hS.same s06).repr ⟨(by show 2 ≤ sizeLine; decide), fun p np => ?_⟩⟩
      exact q _ p (s06.trans (same_upd np)) (s06.free np) upd_same
    · refine ⟨true, T.em_InvalidDepth_SoundError, fun _ ae nae => ?_, fun z => nomatch z⟩
      have hdd : upd (upd H2 dd (.xd [(Str.ofString "value", x)])) ae (ExK (.ref T.C_InvalidDepth) (some dd) ae) dd = some (.xd [(Str.ofString "value", x)]) := by
        rw [upd_ne (ne_of_none upd_same nae), upd_same]
      have hae : upd (upd H2 dd (.xd [(Str.ofString "value", x)])) ae (ExK (.ref T.C_InvalidDepth) (some dd) ae) ae = some (ExK (.ref T.C_InvalidDepth) (some dd) ae) := upd_same
      have s3 := (s2.trans (same_upd (o := .xd [(Str.ofString "value", x)]) nd)).trans (same_upd (o := ExK (.ref T.C_InvalidDepth) (some dd) ae) nae)
      refine ⟨_, rfl, _, rfl, rfl, _, rfl, iteDF (fun z => nomatch z) ⟨_, rfl, .inr ⟨ae, _, dd, _, _, _, _, rfl, hae, hdd, T.ei_InvalidDepth, .own _, T.ki_InvalidDepth_InvalidGuesser, _, rfl, .inr ⟨ae, _, dd, _, _, _, _, rfl, hae, hdd, T.ei_InvalidDepth, .own _, T.ki_InvalidDepth_InvalidDepth, _, rfl, .inr ⟨ae, _, dd, _, _, _, _, rfl, hae, hdd, T.ei_InvalidDepth, .own _, T.ki_InvalidDepth_InvalidWidth, (by show 3 ≤ sizeLine; decide), fun L nL => ?_⟩⟩⟩⟩⟩
      obtain ⟨H3, e3, s4, hL⟩ := fresh (.lst [V.bl false, .bl true, .bl false]) nL
      rw [e3]
      refine ⟨_, rfl, _, rfl, .inr ⟨ae, _, dd, _, _, _, _, rfl, s4 _ _ hae, s4 _ _ hdd, T.ei_InvalidDepth, .own _, T.ki_InvalidDepth_InvalidNumber, _, rfl, .inr ⟨ae, _, dd, _, _, _, _, rfl, s4 _ _ hae, s4 _ _ hdd, T.ei_InvalidDepth, .own _, T.ki_InvalidDepth_InvalidRow, (by show 2 ≤ sizeLine; decide), fun L2 nL2 => ?_⟩⟩⟩
      obtain ⟨H4, e4, s5, hL2⟩ := fresh (.lst [V.bl false, .bl false]) nL2
      rw [e4]
      refine ⟨L, L2, _, _, rfl, rfl, s5 _ _ hL, hL2, by decide, fun L3 nL3 => ?_⟩
      obtain ⟨H5, e5, s6, hL3⟩ := fresh (.lst [V.bl false, .bl true, .bl false, .bl false, .bl false]) nL3
      rw [show upd H4 L3 (.lst ([V.bl false, .bl true, .bl false] ++ [V.bl false, .bl false])) = H5 from e5]
      have s36 := (s4.trans s5).trans s6
      have s06 := (s1.trans s3).trans s36
      refine ⟨_, rfl, .inl ⟨rfl, _, .inl (.inl hL3)⟩, L3, _, .bl true, 1, .bl true, rfl, rfl, .inl (.inl hL3), rfl, rfl, rfl, rfl, no1, _, rfl, ae, _, dd, _, x, rfl, s36 _ _ hae, s36 _ _ hdd, T.er_InvalidDepth.xf, T.er_InvalidDepth.sup.nov, rfl, (hS.same s06).repr ⟨(by show 2 ≤ sizeLine; decide), fun p np => ?_⟩⟩
      exact q _ p (s06.trans (same_upd np)) (s06.free np) upd_same
    · refine ⟨true, T.em_InvalidWidth_SoundError, fun _ ae nae => ?_, fun z => nomatch z⟩
      have hdd : upd (upd H2 dd (.xd [(Str.ofString "value", x)])) ae (ExK (.ref T.C_InvalidWidth) (some dd) ae) dd = some (.xd [(Str.ofString "value", x)]) := by
        rw [upd_ne (ne_of_none upd_same nae), upd_same]
      have hae : upd (upd H2 dd (.xd [(Str.ofString "value", x)])) ae (ExK (.ref T.C_InvalidWidth) (some dd) ae) ae = some (ExK (.ref T.C_InvalidWidth) (some dd) ae) := upd_same
      have s3 := (s2.trans (same_upd (o := .xd [(Str.ofString "value", x)]) nd)).trans (same_upd (o := ExK (.ref T.C_InvalidWidth) (some dd) ae) nae)
      refine ⟨_, rfl, _, rfl, rfl, _, rfl, iteDF (fun z => nomatch z) ⟨_, rfl, .inr ⟨ae, _, dd, _, _, _, _, rfl, hae, hdd, T.ei_InvalidWidth, .own _, T.ki_InvalidWidth_InvalidGuesser, _, rfl, .inr ⟨ae, _, dd, _, _, _, _, rfl, hae, hdd, T.ei_InvalidWidth, .own _, T.ki_InvalidWidth_InvalidDepth, _, rfl, .inr ⟨ae, _, dd, _, _, _, _, rfl, hae, hdd, T.ei_InvalidWidth, .own _, T.ki_InvalidWidth_InvalidWidth, (by show 3 ≤ sizeLine; decide), fun L nL => ?_⟩⟩⟩⟩⟩
      obtain ⟨H3, e3, s4, hL⟩ := fresh (.lst [V.bl false, .bl false, .bl true]) nL
      rw [e3]
      refine ⟨_, rfl, _, rfl, .inr ⟨ae, _, dd, _, _, _, _, rfl, s4 _ _ hae, s4 _ _ hdd, T.ei_InvalidWidth, .own _, T.ki_InvalidWidth_InvalidNumber, _, rfl, .inr ⟨ae, _, dd, _, _, _, _, rfl, s4 _ _ hae, s4 _ _ hdd, T.ei_InvalidWidth, .own _, T.ki_InvalidWidth_InvalidRow, (by show 2 ≤ sizeLine; decide), fun L2 nL2 => ?_⟩⟩⟩
      obtain ⟨H4, e4, s5, hL2⟩ := fresh (.lst [V.bl false, .bl false]) nL2
      rw [e4]
      refine ⟨L, L2, _, _, rfl, rfl, s5 _ _ hL, hL2, by decide, fun L3 nL3 => ?_⟩
      obtain ⟨H5, e5, s6, hL3⟩ := fresh (.lst [V.bl false, .bl false, .bl true, .bl false, .bl false]) nL3
      rw [show upd H4 L3 (.lst ([V.bl false, .bl false, .bl true] ++ [V.bl false, .bl false])) = H5 from e5]
      have s36 := (s4.trans s5).trans s6
      have s06 := (s1.trans s3).trans s36
      refine ⟨_, rfl, .inl ⟨rfl, _, .inl (.inl hL3)⟩, L3, _, .bl true, 2, .bl true, rfl, rfl, .inl (.inl hL3), rfl, rfl, rfl, rfl, no2, _, rfl, ae, _, dd, _, x, rfl, s36 _ _ hae, s36 _ _ hdd, T.er_InvalidWidth.xf, T.er_InvalidWidth.sup.nov, rfl, (hS.same s06).repr ⟨(by show 2 ≤ sizeLine; decide), fun p np => ?_⟩⟩
      exact q _ p (s06.trans (same_upd np)) (s06.free np) upd_same
    · refine ⟨true, T.em_InvalidNumber_SoundError, fun _ ae nae => ?_, fun z => nomatch z⟩
      have hdd : upd (upd H2 dd (.xd [(Str.ofString "value", x)])) ae (ExK (.ref T.C_InvalidNumber) (some dd) ae) dd = some (.xd [(Str.ofString "value", x)]) := by
        rw [upd_ne (ne_of_none upd_same nae), upd_same]
      have hae : upd (upd H2 dd (.xd [(Str.ofString "value", x)])) ae (ExK (.ref T.C_InvalidNumber) (some dd) ae) ae = some (ExK (.ref T.C_InvalidNumber) (some dd) ae) := upd_same
      have s3 := (s2.trans (same_upd (o := .xd [(Str.ofString "value", x)]) nd)).trans (same_upd (o := ExK (.ref T.C_InvalidNumber) (some dd) ae) nae)
      refine ⟨_, rfl, _, rfl, rfl, _, rfl, iteDF (fun z => nomatch z) ⟨_, rfl, .inr ⟨ae, _, dd, _, _, _, _, rfl, hae, hdd, T.ei_InvalidNumber, .own _, T.ki_InvalidNumber_InvalidGuesser, _, rfl, .inr ⟨ae, _, dd, _, _, _, _, rfl, hae, hdd, T.ei_InvalidNumber, .own _, T.ki_InvalidNumber_InvalidDepth, _, rfl, .inr ⟨ae, _, dd, _, _, _, _, rfl, hae, hdd, T.ei_InvalidNumber, .own _, T.ki_InvalidNumber_InvalidWidth, (by show 3 ≤ sizeLine; decide), fun L nL => ?_⟩⟩⟩⟩⟩
      obtain ⟨H3, e3, s4, hL⟩ := fresh (.lst [V.bl false, .bl false, .bl false]) nL
      rw [e3]
      refine ⟨_, rfl, _, rfl, .inr ⟨ae, _, dd, _, _, _, _, rfl, s4 _ _ hae, s4 _ _ hdd, T.ei_InvalidNumber, .own _, T.ki_InvalidNumber_InvalidNumber, _, rfl, .inr ⟨ae, _, dd, _, _, _, _, rfl, s4 _ _ hae, s4 _ _ hdd, T.ei_InvalidNumber, .own _, T.ki_InvalidNumber_InvalidRow, (by show 2 ≤ sizeLine; decide), fun L2 nL2 => ?_⟩⟩⟩
      obtain ⟨H4, e4, s5, hL2⟩ := fresh (.lst [V.bl true, .bl false]) nL2
      rw [e4]
      refine ⟨L, L2, _, _, rfl, rfl, s5 _ _ hL, hL2, by decide, fun L3 nL3 => ?_⟩
      obtain ⟨H5, e5, s6, hL3⟩ := fresh (.lst [V.bl false, .bl false, .bl false, .bl true, .bl false]) nL3
      rw [show upd H4 L3 (.lst ([V.bl false, .bl false, .bl false] ++ [V.bl true, .bl false])) = H5 from e5]
      have s36 := (s4.trans s5).trans s6
      have s06 := (s1.trans s3).trans s36
      refine ⟨_, rfl, .inl ⟨rfl, _, .inl (.inl hL3)⟩, L3, _, .bl true, 3, .bl true, rfl, rfl, .inl (.inl hL3), rfl, rfl, rfl, rfl, no3, _, rfl, ae, _, dd, _, x, rfl, s36 _ _ hae, s36 _ _ hdd, T.er_InvalidNumber.xf, T.er_InvalidNumber.sup.nov, rfl, (hS.same s06).repr ⟨(by show 2 ≤ sizeLine; decide), fun p np => ?_⟩⟩
      exact q _ p (s06.trans (same_upd np)) (s06.free np) upd_same
    · refine ⟨true, T.em_InvalidRow_SoundError, fun _ ae nae => ?_, fun z => nomatch z⟩
      have hdd : upd (upd H2 dd (.xd [(Str.ofString "value", x)])) ae (ExK (.ref T.C_InvalidRow) (some dd) ae) dd = some (.xd [(Str.ofString "value", x)]) := by
        rw [upd_ne (ne_of_none upd_same nae), upd_same]
      have hae : upd (upd H2 dd (.xd [(Str.ofString "value", x)])) ae (ExK (.ref T.C_InvalidRow) (some dd) ae) ae = some (ExK (.ref T.C_InvalidRow) (some dd) ae) := upd_same
      have s3 := (s2.trans (same_upd (o := .xd [(Str.ofString "value", x)]) nd)).trans (same_upd (o := ExK (.ref T.C_InvalidRow) (some dd) ae) nae)
      refine ⟨_, rfl, _, rfl, rfl, _, rfl, iteDF (fun z => nomatch z) ⟨_, rfl, .inr ⟨ae, _, dd, _, _, _, _, rfl, hae, hdd, T.ei_InvalidRow, .own _, T.ki_InvalidRow_InvalidGuesser, _, rfl, .inr ⟨ae, _, dd, _, _, _, _, rfl, hae, hdd, T.ei_InvalidRow, .own _, T.ki_InvalidRow_InvalidDepth, _, rfl, .inr ⟨ae, _, dd, _, _, _, _, rfl, hae, hdd, T.ei_InvalidRow, .own _, T.ki_InvalidRow_InvalidWidth, (by show 3 ≤ sizeLine; decide), fun L nL => ?_⟩⟩⟩⟩⟩
      obtain ⟨H3, e3, s4, hL⟩ := fresh (.lst [V.bl false, .bl false, .bl false]) nL
      rw [e3]
      refine ⟨_, rfl, _, rfl, .inr ⟨ae, _, dd, _, _, _, _, rfl, s4 _ _ hae, s4 _ _ hdd, T.ei_InvalidRow, .own _, T.ki_InvalidRow_InvalidNumber, _, rfl, .inr ⟨ae, _, dd, _, _, _, _, rfl, s4 _ _ hae, s4 _ _ hdd, T.ei_InvalidRow, .own _, T.ki_InvalidRow_InvalidRow, (by show 2 ≤ sizeLine; decide), fun L2 nL2 => ?_⟩⟩⟩
      obtain ⟨H4, e4, s5, hL2⟩ := fresh (.lst [V.bl false, .bl true]) nL2
      rw [e4]
      refine ⟨L, L2, _, _, rfl, rfl, s5 _ _ hL, hL2, by decide, fun L3 nL3 => ?_⟩
      obtain ⟨H5, e5, s6, hL3⟩ := fresh (.lst [V.bl false, .bl false, .bl false, .bl false, .bl true]) nL3
      rw [show upd H4 L3 (.lst ([V.bl false, .bl false, .bl false] ++ [V.bl false, .bl true])) = H5 from e5]
      have s36 := (s4.trans s5).trans s6
      have s06 := (s1.trans s3).trans s36
      refine ⟨_, rfl, .inl ⟨rfl, _, .inl (.inl hL3)⟩, L3, _, .bl true, 4, .bl true, rfl, rfl, .inl (.inl hL3), rfl, rfl, rfl, rfl, no4, _, rfl, ae, _, dd, _, x, rfl, s36 _ _ hae, s36 _ _ hdd, T.er_InvalidRow.xf, T.er_InvalidRow.sup.nov, rfl, (hS.same s06).repr ⟨(by show 2 ≤ sizeLine; decide), fun p np => ?_⟩⟩
      exact q _ p (s06.trans (same_upd np)) (s06.free np) upd_same
  · refine ⟨_, rfl, _, rfl, dl, _, _, _, rfl, rfl, .inl (.inl hdl), atI_nat (j := 4) rfl, _, rfl, ?_⟩
    refine ⟨T.f_fair, a, _, _, _, _, rfl, (G_fair (P := P) T).mono (by decide), T.F_fair.kp, T.b_fair, s1 _ _ hl, (by show 1 ≤ 2; decide), (by show 2 ≤ 6; decide), _, _, rfl, .inr (.inr ⟨rfl, rfl, fun H2 v s2 => ?_⟩)⟩
    exact ⟨_, rfl, rfl, _, rfl, iteDT rfl (q _ (s1.trans s2))⟩
end
end My

namespace My
open PySem PySem.Spec PyProof.Rows L2 Pre
/-! ### counts refused: all odd values of a door; depths, widths -/
theorem rep_non (m : Nat) : (List.replicate m [V.non]).flatten = List.replicate m V.non := by
  induction m with
  | zero => rfl
  | succ m ih => rw [List.replicate_succ, List.flatten_cons, ih, List.replicate_succ]; rfl
theorem kind_shaped {i : Int} {t : Str} (ht : PyData.strOk t = true) : SeqAt.shaped (.list [.int i, .str t]) = true := by
  simp [SeqAt.shaped, PyData.canLay0, PyData.canLayAll0, PyData.depth, PyData.depthAll, ht]
theorem kind_eqv (i : Int) (t : Str) : PyData.eqv (.list [.int i, .str t]) (.list [.int i, .str t]) = true := by
  simp [PyData.eqv, PyData.eqvAll]
/-- what a door refuses of a list of odd values -/
def Odds (K : PySem.W.Frag) (C : Addr) (H : Hp) (k : Nat) (A B D : List V) (kind : Nat) : Prop := ∀ x ∈ B, Refuse K C H k (A ++ [x] ++ D) kind x ∧ ∃ t, Shw K H x t ∧ PyData.strOk t = true
local macro_rules | `(tactic| walk_at "go") => `(tactic| repeat (first | (with_reducible first | refine iteT ?_ | refine iteF ?_ | refine iteNtt ?_ | refine iteNff ?_ | refine iteET (by omega) ?_ | refine iteEF (by omega) ?_ | refine iteENT (by omega) ?_ | refine iteENF (by omega) ?_ | refine iteDT (by omega) ?_ | refine iteDF (by omega) ?_ | refine iteNT (by omega) ?_ | refine iteNF (by omega) ?_) | refine ⟨_, rfl, ?_⟩ | refine ⟨_, _, rfl, rfl, ?_⟩ | refine ⟨_, _, rfl, ?_⟩ | refine ⟨rfl, ?_⟩ | refine .inl ⟨_, rfl, ?_⟩ | refine .inr ⟨_, rfl, ?_⟩))
local macro_rules | `(tactic| walk_at "b") => `(tactic| try dsimp (config := { proj := false, iota := false, eta := false, zeta := false }) only)
section
variable {P : Program} {w : World} {K : PySem.W.Frag} {mg : Str → Option Value} {base : Heap} [pf : Sup.PF P fileS]
def sp_law_all_refused (K : PySem.W.Frag) (C : Addr) : Sp := fun vs H Q _ => ∃ (k kind : Nat) (a b c : Addr) (A B D : List V), vs = [.int k, .ref a, .ref b, .ref c, .int kind] ∧ H a = some (.lst A) ∧ H b = some (.lst B) ∧ H c = some (.lst D) ∧ A.length ≤ 10 ∧ B.length ≤ 10 ∧ D.length ≤ 10 ∧ kind ≤ 4 ∧ Odds K C H k A B D kind ∧ ∀ H', Same H H' → Q (.bl true) H'
theorem G_law_all_refused (T : Top K mg) : FnG P w K mg base CX0 16 T.f_law_all_refused T.fd_law_all_refused ["_law_door", "_law_ahead", "_law_bads", "_law_behind", "_law_kind"] (sp_law_all_refused K T.C_Guesser) := by
  refine FnG.body T.F_law_all_refused sc_law_all_refused (fun vs H Q E h => by obtain ⟨k, kind, a, b, c, A, B, D, rfl, _⟩ := h; rfl) (fun cdv A outer s H vs Q E gd hr h => ?_)
  obtain ⟨k, kind, a, b, c, A, B, D, rfl, ha, hb, hc, lA, lB, lD, hk, hO, q⟩ := h
  refine ⟨_, PSs.nox (pss_cons (ps_for PassesOwn.never rfl (k_piL K rfl (pv 2)) (pg_name (i := 5) sc_law_all_refused.nd rfl (by first | exact Or.inl rfl | exact Or.inr rfl))
    (pss_one (ps_if (pt_cmpR (k_neD K rfl hr.units) (pe_callG (G_law_caught (P := P) T) gd (hr.mono (by decide)) (by rfl) T.g_law_caught T.F_law_caught.kp T.b_law_caught .nil pass0 (pa_cons (pv 0) (pa_cons (pe_op op_cat (pe_op op_cat (pv 1) (pe_lst (pa_cons (pv 5) pa_nil))) (pv 3)) pa_nil))) (pe_lst (pa_cons (pv 4) (pa_cons (pe_callB (k_reprX K rfl gd (hu65 hr)) (by rfl) T.n_repr (by decide +kernel) (pa_cons (pv 5) pa_nil)) pa_nil))) (nomark _))
    (pss_one (ps_ret pe_bl))
    pss_nil)))
  (pss_one (ps_ret pe_bl))), ?_⟩
  refine ⟨_, rfl, b, rfl, ⟨_, .inl (.inl hb)⟩, for_list (K := K) (a := b) (fun i σ H1 => ∃ v5 : Option V, σ = [some (.int k), some (.ref a), some (.ref b), some (.ref c), some (.int kind), v5] ∧ Same H H1) ⟨none, rfl, Same.refl _⟩ (fun i σ H1 _ ⟨_, _, s⟩ => .inl (.inl (s _ _ hb))) ?_ ?_⟩
  · rintro i x σ H1 hx ⟨v5, rfl, s1⟩
    obtain ⟨hR, t, hS, hok⟩ := hO x (List.mem_of_getElem? hx)
    refine ⟨_, rfl, _, rfl, _, rfl, (by show 1 ≤ sizeLine; decide), fun p1 np1 => ?_⟩
    obtain ⟨H2, e2, s2, hp1⟩ := fresh (.lst [x]) np1
    rw [e2]
    refine ⟨a, p1, _, _, rfl, rfl, s2 _ _ (s1 _ _ ha), hp1, by rw [sizeLine_eq]; show _ + 1 ≤ _; omega, fun p2 np2 => ?_⟩
    obtain ⟨H3, e3, s3, hp2⟩ := fresh (.lst (A ++ [x])) np2
    rw [e3]
    refine ⟨_, rfl, p2, c, _, _, rfl, rfl, hp2, s3 _ _ (s2 _ _ (s1 _ _ hc)), by rw [sizeLine_eq, List.length_append]; show _ + 1 + _ ≤ _; omega, fun p3 np3 => ?_⟩
    obtain ⟨H4, e4, s4, hp3⟩ := fresh (.lst (A ++ [x] ++ D)) np3
    rw [e4]
    have s04 := ((s1.trans s2).trans s3).trans s4
    refine ⟨k, p3, _, rfl, hp3, .inl ⟨kind, x, t, hR.same s04, hk, hS.same s04, fun H5 p s5 np hp => ?_⟩⟩
    have s05 := s04.trans s5
    refine ⟨_, rfl, _, rfl, (hS.same s05).repr ⟨(by show 2 ≤ sizeLine; decide), fun M nM => ?_⟩⟩
    obtain ⟨H6, e6, s6, hM⟩ := fresh (.lst [.int kind, .str t]) nM
    rw [e6]
    refine ⟨_, _, .lst (.inl (.inl (s6 _ _ hp))) (.cons (.int _) (.cons (.str _) .nil)), .lst (.inl (.inl hM)) (.cons (.int _) (.cons (.str _) .nil)), kind_shaped hok, kind_shaped hok, _, rfl, ?_⟩
    rw [kind_eqv]
    exact iteF ⟨_, rfl, s05.trans s6⟩
  · rintro σ H1 ⟨v5, rfl, s1⟩
    exact q _ s1
def sp_law_depths_right (C : Addr) : Sp := fun vs H Q _ => ∃ ga : Addr, vs = [.ref ga] ∧ IsG C H (.ref ga) ∧ ∀ H', Same H H' → Q (.bl true) H'
theorem G_law_depths_right (T : Top K mg) : FnG P w K mg base CX0 17 T.f_law_depths_right T.fd_law_depths_right ["_law_guesser"] (sp_law_depths_right T.C_Guesser) := by
  refine FnG.body T.F_law_depths_right sc_law_depths_right (fun vs H Q E h => by obtain ⟨ga, rfl, _⟩ := h; rfl) (fun cdv A outer s H vs Q E gd hr h => ?_)
  obtain ⟨ga, rfl, hG, q⟩ := h
  refine ⟨_, PSs.nox (pss_cons (ps_set (i := 1) sc_law_depths_right.nd rfl (by first | exact Or.inl rfl | exact Or.inr rfl) (pe_lst (pa_cons pe_non (pa_cons pe_int (pa_cons pe_int (pa_cons pe_bl (pa_cons (pe_un un_neg pe_int) (pa_cons pe_str (pa_cons (pe_lst (pa_cons pe_int pa_nil)) pa_nil)))))))))
  (pss_cons (ps_for PassesOwn.never rfl (k_piL K rfl (pe_lst (pa_cons (pe_tup (pa_cons pe_int (pa_cons (pe_lst pa_nil) (pa_cons pe_int pa_nil)))) (pa_cons (pe_tup (pa_cons pe_int (pa_cons (pe_lst pa_nil) (pa_cons pe_int pa_nil)))) (pa_cons (pe_tup (pa_cons pe_int (pa_cons (pe_lst (pa_cons (pv 0) pa_nil)) (pa_cons pe_int pa_nil)))) (pa_cons (pe_tup (pa_cons pe_int (pa_cons (pe_lst (pa_cons (pv 0) pa_nil)) (pa_cons pe_int pa_nil)))) (pa_cons (pe_tup (pa_cons pe_int (pa_cons (pe_lst pa_nil) (pa_cons pe_int pa_nil)))) (pa_cons (pe_tup (pa_cons pe_int (pa_cons (pe_lst pa_nil) (pa_cons pe_int pa_nil)))) (pa_cons (pe_tup (pa_cons pe_int (pa_cons (pe_lst pa_nil) (pa_cons pe_int pa_nil)))) pa_nil))))))))) (k_pgT K rfl (by rfl) (pgs_cons (pg_name (i := 2) sc_law_depths_right.nd rfl (by first | exact Or.inl rfl | exact Or.inr rfl)) (pgs_cons (pg_name (i := 3) sc_law_depths_right.nd rfl (by first | exact Or.inl rfl | exact Or.inr rfl)) (pgs_cons (pg_name (i := 4) sc_law_depths_right.nd rfl (by first | exact Or.inl rfl | exact Or.inr rfl)) pgs_nil))))
    (pss_one (ps_if (pt_not (pt_val (pe_callG (G_law_all_refused (P := P) T) gd (hr.mono (by decide)) (by rfl) T.g_law_all_refused T.F_law_all_refused.kp T.b_law_all_refused .nil pass0 (pa_cons (pv 2) (pa_cons (pv 3) (pa_cons (pv 1) (pa_cons (pe_op op_rep (pe_lst (pa_cons pe_non pa_nil)) (pv 4)) (pa_cons pe_int pa_nil))))))))
    (pss_one (ps_ret pe_bl))
    pss_nil)))
  (pss_one (ps_ret (pe_callG (G_law_all_refused (P := P) T) gd (hr.mono (by decide)) (by rfl) T.g_law_all_refused T.F_law_all_refused.kp T.b_law_all_refused .nil pass0 (pa_cons pe_int (pa_cons (pe_lst (pa_cons pe_non (pa_cons pe_non pa_nil))) (pa_cons (pv 1) (pa_cons (pe_lst pa_nil) (pa_cons pe_int pa_nil)))))))))), ?_⟩
  refine ⟨_, rfl, (by show 1 ≤ sizeLine; decide), fun z1 nz1 => ?_⟩
  obtain ⟨Hz1, ez1, sz1, hz1⟩ := fresh (.lst [V.int 4]) nz1
  rw [ez1]
  refine ⟨(by show 7 ≤ sizeLine; decide), fun z2 nz2 => ?_⟩
  obtain ⟨Hz2, ez2, sz2, hz2⟩ := fresh (.lst [V.non, .int 0, .int 25, .bl true, .int (-3), .str (("4" : String) : Str), .ref z1]) nz2
  rw [ez2]
  have f1 : ∀ x ∈ [V.non, .int 0, .int 25, .bl true, .int (-3), .str (("4" : String) : Str), .ref z1], (NumV K Hz2 x 1 (some 24) false) ∧ ∃ t, Shw K Hz2 x t ∧ PyData.strOk t = true := by
    intro x hx
    simp only [List.mem_cons, List.not_mem_nil, or_false] at hx
    rcases hx with rfl | rfl | rfl | rfl | rfl | rfl | rfl
    · exact ⟨.inr ⟨.inr ⟨_, .base .non, by decide +kernel⟩, rfl⟩, shw_ok .non (by decide +kernel)⟩
    · exact ⟨.inl ⟨0, rfl, (decide_eq_false fun z => absurd z.1 (by decide)).symm⟩, shw_ok (.int _) (by decide +kernel)⟩
    · exact ⟨.inl ⟨25, rfl, (decide_eq_false fun z => absurd (z.2 _ rfl) (by decide)).symm⟩, shw_ok (.int _) (by decide +kernel)⟩
    · exact ⟨.inr ⟨.inl ⟨_, rfl⟩, rfl⟩, shw_ok (.bl _) (by decide +kernel)⟩
    · exact ⟨.inl ⟨-3, rfl, (decide_eq_false fun z => absurd z.1 (by decide)).symm⟩, shw_ok (.int _) (by decide +kernel)⟩
    · exact ⟨.inr ⟨.inr ⟨_, .base (.str _), by decide +kernel⟩, rfl⟩, shw_ok (.str _) (by decide +kernel)⟩
    · exact ⟨.inr ⟨.inr ⟨_, .base (.lst (sz2 _ _ hz1)), by decide +kernel⟩, rfl⟩, shw_ok (dp_row (ns := ([4] : List Int)) (.inl (.inl (sz2 _ _ hz1)))) (by decide +kernel)⟩
  have kG := hG
  refine ⟨(by show 0 ≤ sizeLine; decide), fun z3 nz3 => ?_⟩
  obtain ⟨Hz3, ez3, sz3, hz3⟩ := fresh (.lst ([] : List V)) nz3
  rw [ez3]
  refine ⟨(by show 3 ≤ sizeLine; decide), fun z4 nz4 => ?_⟩
  obtain ⟨Hz4, ez4, sz4, hz4⟩ := fresh (.tup [V.int 0, .ref z3, .int 3]) nz4
  rw [ez4]
  refine ⟨(by show 0 ≤ sizeLine; decide), fun z5 nz5 => ?_⟩
  obtain ⟨Hz5, ez5, sz5, hz5⟩ := fresh (.lst ([] : List V)) nz5
  rw [ez5]
  refine ⟨(by show 3 ≤ sizeLine; decide), fun z6 nz6 => ?_⟩
  obtain ⟨Hz6, ez6, sz6, hz6⟩ := fresh (.tup [V.int 1, .ref z5, .int 2]) nz6
  rw [ez6]
  refine ⟨_, rfl, (by show 1 ≤ sizeLine; decide), fun z7 nz7 => ?_⟩
  obtain ⟨Hz7, ez7, sz7, hz7⟩ := fresh (.lst [V.ref ga]) nz7
  rw [ez7]
  refine ⟨(by show 3 ≤ sizeLine; decide), fun z8 nz8 => ?_⟩
  obtain ⟨Hz8, ez8, sz8, hz8⟩ := fresh (.tup [V.int 2, .ref z7, .int 4]) nz8
  rw [ez8]
  refine ⟨_, rfl, (by show 1 ≤ sizeLine; decide), fun z9 nz9 => ?_⟩
  obtain ⟨Hz9, ez9, sz9, hz9⟩ := fresh (.lst [V.ref ga]) nz9
  rw [ez9]
  refine ⟨(by show 3 ≤ sizeLine; decide), fun z10 nz10 => ?_⟩
  obtain ⟨Hz10, ez10, sz10, hz10⟩ := fresh (.tup [V.int 3, .ref z9, .int 2]) nz10
  rw [ez10]
  refine ⟨(by show 0 ≤ sizeLine; decide), fun z11 nz11 => ?_⟩
  obtain ⟨Hz11, ez11, sz11, hz11⟩ := fresh (.lst ([] : List V)) nz11
  rw [ez11]
  refine ⟨(by show 3 ≤ sizeLine; decide), fun z12 nz12 => ?_⟩
  obtain ⟨Hz12, ez12, sz12, hz12⟩ := fresh (.tup [V.int 4, .ref z11, .int 1]) nz12
  rw [ez12]
  refine ⟨(by show 0 ≤ sizeLine; decide), fun z13 nz13 => ?_⟩
  obtain ⟨Hz13, ez13, sz13, hz13⟩ := fresh (.lst ([] : List V)) nz13
  rw [ez13]
  refine ⟨(by show 3 ≤ sizeLine; decide), fun z14 nz14 => ?_⟩
  obtain ⟨Hz14, ez14, sz14, hz14⟩ := fresh (.tup [V.int 5, .ref z13, .int 1]) nz14
  rw [ez14]
  refine ⟨(by show 0 ≤ sizeLine; decide), fun z15 nz15 => ?_⟩
  obtain ⟨Hz15, ez15, sz15, hz15⟩ := fresh (.lst ([] : List V)) nz15
  rw [ez15]
  refine ⟨(by show 3 ≤ sizeLine; decide), fun z16 nz16 => ?_⟩
  obtain ⟨Hz16, ez16, sz16, hz16⟩ := fresh (.tup [V.int 6, .ref z15, .int 0]) nz16
  rw [ez16]
  refine ⟨(by show 7 ≤ sizeLine; decide), fun z17 nz17 => ?_⟩
  obtain ⟨Hz17, ez17, sz17, hz17⟩ := fresh (.lst [V.ref z4, .ref z6, .ref z8, .ref z10, .ref z12, .ref z14, .ref z16]) nz17
  rw [ez17]
  have f2 : ∀ e ∈ [V.ref z4, .ref z6, .ref z8, .ref z10, .ref z12, .ref z14, .ref z16], ∃ (t ab : Addr) (k m : Nat) (A : List V), e = .ref t ∧ Hz17 t = some (.tup [.int k, .ref ab, .int m]) ∧ Hz17 ab = some (.lst A) ∧ A.length ≤ 3 ∧ m ≤ 5 ∧ ∀ H x, Same Hz17 H → x ∈ [V.non, .int 0, .int 25, .bl true, .int (-3), .str (("4" : String) : Str), .ref z1] → Refuse K T.C_Guesser H k (A ++ [x] ++ List.replicate m .non) 1 x := by
    intro e he
    simp only [List.mem_cons, List.not_mem_nil, or_false] at he
    rcases he with rfl | rfl | rfl | rfl | rfl | rfl | rfl
    · exact ⟨z4, z3, 0, 3, _, rfl, (sz17 _ _ (sz16 _ _ (sz15 _ _ (sz14 _ _ (sz13 _ _ (sz12 _ _ (sz11 _ _ (sz10 _ _ (sz9 _ _ (sz8 _ _ (sz7 _ _ (sz6 _ _ (sz5 _ _ hz4))))))))))))), (sz17 _ _ (sz16 _ _ (sz15 _ _ (sz14 _ _ (sz13 _ _ (sz12 _ _ (sz11 _ _ (sz10 _ _ (sz9 _ _ (sz8 _ _ (sz7 _ _ (sz6 _ _ (sz5 _ _ (sz4 _ _ hz3)))))))))))))), by simp, by decide, fun H x s hx => .inl ⟨rfl, _, _, _, _, rfl, .inl (.inl (.inl ⟨rfl, rfl, ((f1 x hx).1.same ((((((((((((((((sz3.trans sz4).trans sz5).trans sz6).trans sz7).trans sz8).trans sz9).trans sz10).trans sz11).trans sz12).trans sz13).trans sz14).trans sz15).trans sz16).trans sz17)).trans s))⟩))⟩⟩
    · exact ⟨z6, z5, 1, 2, _, rfl, (sz17 _ _ (sz16 _ _ (sz15 _ _ (sz14 _ _ (sz13 _ _ (sz12 _ _ (sz11 _ _ (sz10 _ _ (sz9 _ _ (sz8 _ _ (sz7 _ _ hz6))))))))))), (sz17 _ _ (sz16 _ _ (sz15 _ _ (sz14 _ _ (sz13 _ _ (sz12 _ _ (sz11 _ _ (sz10 _ _ (sz9 _ _ (sz8 _ _ (sz7 _ _ (sz6 _ _ hz5)))))))))))), by simp, by decide, fun H x s hx => .inr (.inl ⟨rfl, _, _, _, rfl, .inl (.inl ⟨rfl, rfl, ((f1 x hx).1.same ((((((((((((((((sz3.trans sz4).trans sz5).trans sz6).trans sz7).trans sz8).trans sz9).trans sz10).trans sz11).trans sz12).trans sz13).trans sz14).trans sz15).trans sz16).trans sz17)).trans s))⟩)⟩)⟩
    · exact ⟨z8, z7, 2, 4, _, rfl, (sz17 _ _ (sz16 _ _ (sz15 _ _ (sz14 _ _ (sz13 _ _ (sz12 _ _ (sz11 _ _ (sz10 _ _ (sz9 _ _ hz8))))))))), (sz17 _ _ (sz16 _ _ (sz15 _ _ (sz14 _ _ (sz13 _ _ (sz12 _ _ (sz11 _ _ (sz10 _ _ (sz9 _ _ (sz8 _ _ hz7)))))))))), by simp, by decide, fun H x s hx => .inr (.inr (.inl ⟨rfl, _, _, _, _, _, _, rfl, .inr ⟨(hG.same ((((((((((((((((((sz1.trans sz2).trans sz3).trans sz4).trans sz5).trans sz6).trans sz7).trans sz8).trans sz9).trans sz10).trans sz11).trans sz12).trans sz13).trans sz14).trans sz15).trans sz16).trans sz17)).trans s)), .inl (.inl (.inl (.inl ⟨rfl, rfl, ((f1 x hx).1.same ((((((((((((((((sz3.trans sz4).trans sz5).trans sz6).trans sz7).trans sz8).trans sz9).trans sz10).trans sz11).trans sz12).trans sz13).trans sz14).trans sz15).trans sz16).trans sz17)).trans s))⟩)))⟩⟩))⟩
    · exact ⟨z10, z9, 3, 2, _, rfl, (sz17 _ _ (sz16 _ _ (sz15 _ _ (sz14 _ _ (sz13 _ _ (sz12 _ _ (sz11 _ _ hz10))))))), (sz17 _ _ (sz16 _ _ (sz15 _ _ (sz14 _ _ (sz13 _ _ (sz12 _ _ (sz11 _ _ (sz10 _ _ hz9)))))))), by simp, by decide, fun H x s hx => .inr (.inr (.inr (.inl ⟨rfl, _, _, _, _, rfl, .inr ⟨(hG.same ((((((((((((((((((sz1.trans sz2).trans sz3).trans sz4).trans sz5).trans sz6).trans sz7).trans sz8).trans sz9).trans sz10).trans sz11).trans sz12).trans sz13).trans sz14).trans sz15).trans sz16).trans sz17)).trans s)), .inl (.inl ⟨rfl, rfl, ((f1 x hx).1.same ((((((((((((((((sz3.trans sz4).trans sz5).trans sz6).trans sz7).trans sz8).trans sz9).trans sz10).trans sz11).trans sz12).trans sz13).trans sz14).trans sz15).trans sz16).trans sz17)).trans s))⟩)⟩⟩)))⟩
    · exact ⟨z12, z11, 4, 1, _, rfl, (sz17 _ _ (sz16 _ _ (sz15 _ _ (sz14 _ _ (sz13 _ _ hz12))))), (sz17 _ _ (sz16 _ _ (sz15 _ _ (sz14 _ _ (sz13 _ _ (sz12 _ _ hz11)))))), by simp, by decide, fun H x s hx => .inr (.inr (.inr (.inr (.inl ⟨rfl, _, _, rfl, .inl (.inl ⟨rfl, rfl, ((f1 x hx).1.same ((((((((((((((((sz3.trans sz4).trans sz5).trans sz6).trans sz7).trans sz8).trans sz9).trans sz10).trans sz11).trans sz12).trans sz13).trans sz14).trans sz15).trans sz16).trans sz17)).trans s))⟩)⟩))))⟩
    · exact ⟨z14, z13, 5, 1, _, rfl, (sz17 _ _ (sz16 _ _ (sz15 _ _ hz14))), (sz17 _ _ (sz16 _ _ (sz15 _ _ (sz14 _ _ hz13)))), by simp, by decide, fun H x s hx => .inr (.inr (.inr (.inr (.inr (.inl ⟨rfl, _, _, rfl, .inl ⟨rfl, rfl, ((f1 x hx).1.same ((((((((((((((((sz3.trans sz4).trans sz5).trans sz6).trans sz7).trans sz8).trans sz9).trans sz10).trans sz11).trans sz12).trans sz13).trans sz14).trans sz15).trans sz16).trans sz17)).trans s))⟩⟩)))))⟩
    · exact ⟨z16, z15, 6, 0, _, rfl, (sz17 _ _ hz16), (sz17 _ _ (sz16 _ _ hz15)), by simp, by decide, fun H x s hx => .inr (.inr (.inr (.inr (.inr (.inr (.inl ⟨rfl, _, rfl, rfl, rfl, ((f1 x hx).1.same ((((((((((((((((sz3.trans sz4).trans sz5).trans sz6).trans sz7).trans sz8).trans sz9).trans sz10).trans sz11).trans sz12).trans sz13).trans sz14).trans sz15).trans sz16).trans sz17)).trans s))⟩))))))⟩
  refine ⟨z17, rfl, ⟨_, .inl (.inl hz17)⟩, for_list (K := K) (a := z17) (fun i σ HE => ∃ v2 v3 v4 : Option V, σ = [some (.ref ga), some (.ref z2), v2, v3, v4] ∧ Same Hz17 HE) ⟨none, none, none, rfl, Same.refl _⟩ (fun i σ HE _ ⟨_, _, _, _, s⟩ => .inl (.inl (s _ _ hz17))) ?_ ?_⟩
  · rintro i e σ HE he ⟨v2, v3, v4, rfl, sE⟩
    obtain ⟨t, ab, k, m, A, rfl, ht, hab, lA, hm, hR⟩ := f2 e (List.mem_of_getElem? he)
    refine ⟨t, _, rfl, .inl (.inl (sE _ _ ht)), rfl, _, _, rfl, _, _, rfl, _, _, rfl, rfl, ?_⟩
    refine ⟨_, rfl, _, rfl, _, rfl, (by show 1 ≤ sizeLine; decide), fun n1 nn1 => ?_⟩
    obtain ⟨HF, eF, sF, hn1⟩ := fresh (.lst [V.non]) nn1
    rw [eF]
    refine ⟨_, rfl, n1, _, _, rfl, rfl, hn1, by omega, by omega, by rw [Int.toNat_natCast, sizeLine_eq]; show 1 * _ ≤ _; omega, fun n2 nn2 => ?_⟩
    rw [Int.toNat_natCast, rep_non]
    obtain ⟨HG, eG, sG, hn2⟩ := fresh (.lst (List.replicate m V.non)) nn2
    rw [eG]
    have sEG := (sE.trans sF).trans sG
    refine ⟨k, 1, ab, z2, n2, A, _, _, rfl, sEG _ _ hab, sEG _ _ (sz17 _ _ (sz16 _ _ (sz15 _ _ (sz14 _ _ (sz13 _ _ (sz12 _ _ (sz11 _ _ (sz10 _ _ (sz9 _ _ (sz8 _ _ (sz7 _ _ (sz6 _ _ (sz5 _ _ (sz4 _ _ (sz3 _ _ hz2))))))))))))))), hn2, by omega, (by simp), by rw [List.length_replicate]; omega, by decide, fun x hx => ⟨hR _ x sEG hx, ?_⟩, fun HI sI => ?_⟩
    · obtain ⟨_, t, hS, hok⟩ := f1 x hx
      exact ⟨t, hS.same (((((((((((((((sz3.trans sz4).trans sz5).trans sz6).trans sz7).trans sz8).trans sz9).trans sz10).trans sz11).trans sz12).trans sz13).trans sz14).trans sz15).trans sz16).trans sz17).trans sEG), hok⟩
    · exact ⟨_, rfl, iteF ⟨_, _, _, rfl, sEG.trans sI⟩⟩
  · rintro σ HE ⟨v2, v3, v4, rfl, sE⟩
    refine ⟨(by show 2 ≤ sizeLine; decide), fun y1 ny1 => ?_⟩
    obtain ⟨Hy1, ey1, sy1, hy1⟩ := fresh (.lst [V.non, .non]) ny1
    rw [ey1]
    refine ⟨_, rfl, (by show 0 ≤ sizeLine; decide), fun y2 ny2 => ?_⟩
    obtain ⟨Hy2, ey2, sy2, hy2⟩ := fresh (.lst ([] : List V)) ny2
    rw [ey2]
    refine ⟨7, 1, y1, z2, y2, _, _, _, rfl, (sy2 _ _ hy1), sy2 _ _ (sy1 _ _ (sE _ _ (sz17 _ _ (sz16 _ _ (sz15 _ _ (sz14 _ _ (sz13 _ _ (sz12 _ _ (sz11 _ _ (sz10 _ _ (sz9 _ _ (sz8 _ _ (sz7 _ _ (sz6 _ _ (sz5 _ _ (sz4 _ _ (sz3 _ _ hz2))))))))))))))))), hy2, by simp, by simp, by simp, by decide, fun x hx => ⟨.inr (.inr (.inr (.inr (.inr (.inr (.inr ⟨rfl, _, _, _, rfl, .inl (.inl ⟨rfl, rfl, (f1 x hx).1.same (((((((((((((((((sz3.trans sz4).trans sz5).trans sz6).trans sz7).trans sz8).trans sz9).trans sz10).trans sz11).trans sz12).trans sz13).trans sz14).trans sz15).trans sz16).trans sz17)).trans sE).trans (sy1.trans sy2))⟩)⟩)))))), ?_⟩, fun HI sI => ?_⟩
    · obtain ⟨_, t, hS, hok⟩ := f1 x hx
      exact ⟨t, hS.same (((((((((((((((((sz3.trans sz4).trans sz5).trans sz6).trans sz7).trans sz8).trans sz9).trans sz10).trans sz11).trans sz12).trans sz13).trans sz14).trans sz15).trans sz16).trans sz17)).trans sE).trans (sy1.trans sy2)), hok⟩
    · exact q _ (((((((((((((((((((sz1.trans sz2).trans sz3).trans sz4).trans sz5).trans sz6).trans sz7).trans sz8).trans sz9).trans sz10).trans sz11).trans sz12).trans sz13).trans sz14).trans sz15).trans sz16).trans sz17)).trans sE).trans ((sy1.trans sy2).trans sI))
theorem small_shw {K : PySem.W.Frag} {H : Hp} (d : Nat) (h : d ≤ 24) : ∃ t, Shw K H (.int ((d : Int) + 1)) t ∧ PyData.strOk t = true := by
  have key : ∀ d < 25, (((PyData.int ((d : Nat) + 1 : Int)).showable && SeqAt.shaped (.int ((d : Nat) + 1 : Int)) && decide ((PyData.int ((d : Nat) + 1 : Int)).shown.length ≤ sizeLine) && PyData.strOk (PyData.int ((d : Nat) + 1 : Int)).shown)) = true := by decide +kernel
  exact shw_ok (.int _) (key d (by omega))
def sp_law_widths_right (C : Addr) : Sp := fun vs H Q _ => ∃ (ga : Addr) (d : Nat), vs = [.ref ga, .int d] ∧ IsG C H (.ref ga) ∧ 1 ≤ d ∧ d ≤ 24 ∧ ∀ H', Same H H' → Q (.bl true) H'
theorem G_law_widths_right (T : Top K mg) : FnG P w K mg base CX0 17 T.f_law_widths_right T.fd_law_widths_right ["_law_guesser", "_law_depth"] (sp_law_widths_right T.C_Guesser) := by
  refine FnG.body T.F_law_widths_right sc_law_widths_right (fun vs H Q E h => by obtain ⟨ga, d, rfl, _⟩ := h; rfl) (fun cdv A outer s H vs Q E gd hr h => ?_)
  obtain ⟨ga, d, rfl, hG, d1, d2, q⟩ := h
  refine ⟨_, PSs.nox (pss_cons (ps_set (i := 2) sc_law_widths_right.nd rfl (by first | exact Or.inl rfl | exact Or.inr rfl) (pe_lst (pa_cons pe_non (pa_cons (pe_un un_neg pe_int) (pa_cons (pe_op op_add (pv 1) pe_int) (pa_cons pe_bl (pa_cons pe_str (pa_cons (pe_lst (pa_cons pe_int pa_nil)) pa_nil))))))))
  (pss_cons (ps_for PassesOwn.never rfl (k_piL K rfl (pe_lst (pa_cons (pe_tup (pa_cons pe_int (pa_cons (pe_lst (pa_cons (pv 1) pa_nil)) (pa_cons pe_int pa_nil)))) (pa_cons (pe_tup (pa_cons pe_int (pa_cons (pe_lst (pa_cons (pv 1) pa_nil)) (pa_cons pe_int pa_nil)))) (pa_cons (pe_tup (pa_cons pe_int (pa_cons (pe_lst (pa_cons (pv 0) (pa_cons (pv 1) pa_nil))) (pa_cons pe_int pa_nil)))) (pa_cons (pe_tup (pa_cons pe_int (pa_cons (pe_lst (pa_cons (pv 0) (pa_cons (pv 1) pa_nil))) (pa_cons pe_int pa_nil)))) pa_nil)))))) (k_pgT K rfl (by rfl) (pgs_cons (pg_name (i := 3) sc_law_widths_right.nd rfl (by first | exact Or.inl rfl | exact Or.inr rfl)) (pgs_cons (pg_name (i := 4) sc_law_widths_right.nd rfl (by first | exact Or.inl rfl | exact Or.inr rfl)) (pgs_cons (pg_name (i := 5) sc_law_widths_right.nd rfl (by first | exact Or.inl rfl | exact Or.inr rfl)) pgs_nil))))
    (pss_one (ps_if (pt_not (pt_val (pe_callG (G_law_all_refused (P := P) T) gd (hr.mono (by decide)) (by rfl) T.g_law_all_refused T.F_law_all_refused.kp T.b_law_all_refused .nil pass0 (pa_cons (pv 3) (pa_cons (pv 4) (pa_cons (pv 2) (pa_cons (pe_op op_rep (pe_lst (pa_cons pe_non pa_nil)) (pv 5)) (pa_cons pe_int pa_nil))))))))
    (pss_one (ps_ret pe_bl))
    pss_nil)))
  (pss_cons (ps_for PassesOwn.never rfl (k_piL K rfl (pe_lst (pa_cons pe_int (pa_cons pe_int pa_nil)))) (pg_name (i := 3) sc_law_widths_right.nd rfl (by first | exact Or.inl rfl | exact Or.inr rfl))
    (pss_one (ps_if (pt_not (pt_val (pe_callG (G_law_all_refused (P := P) T) gd (hr.mono (by decide)) (by rfl) T.g_law_all_refused T.F_law_all_refused.kp T.b_law_all_refused .nil pass0 (pa_cons (pv 3) (pa_cons (pe_lst (pa_cons (pv 1) pa_nil)) (pa_cons (pv 2) (pa_cons (pe_lst pa_nil) (pa_cons pe_int pa_nil))))))))
    (pss_one (ps_ret pe_bl))
    pss_nil)))
  (pss_one (ps_ret (pe_and (pe_callG (G_law_all_refused (P := P) T) gd (hr.mono (by decide)) (by rfl) T.g_law_all_refused T.F_law_all_refused.kp T.b_law_all_refused .nil pass0 (pa_cons pe_int (pa_cons (pe_lst pa_nil) (pa_cons (pv 2) (pa_cons (pe_lst (pa_cons pe_non (pa_cons (pv 1) pa_nil))) (pa_cons pe_int pa_nil)))))) (pe_one (pe_callG (G_law_all_refused (P := P) T) gd (hr.mono (by decide)) (by rfl) T.g_law_all_refused T.F_law_all_refused.kp T.b_law_all_refused .nil pass0 (pa_cons pe_int (pa_cons (pe_lst (pa_cons pe_int pa_nil)) (pa_cons (pv 2) (pa_cons (pe_lst (pa_cons (pv 1) pa_nil)) (pa_cons pe_int pa_nil))))))))))))), ?_⟩
  refine ⟨_, rfl, _, rfl, _, _, rfl, rfl, (by show 1 ≤ sizeLine; decide), fun z1 nz1 => ?_⟩
  obtain ⟨Hz1, ez1, sz1, hz1⟩ := fresh (.lst [V.int 0]) nz1
  rw [ez1]
  refine ⟨(by show 6 ≤ sizeLine; decide), fun z2 nz2 => ?_⟩
  obtain ⟨Hz2, ez2, sz2, hz2⟩ := fresh (.lst [V.non, .int (-1), .int ((d : Int) + 1), .bl true, .str (("0" : String) : Str), .ref z1]) nz2
  rw [ez2]
  have f1 : ∀ x ∈ [V.non, .int (-1), .int ((d : Int) + 1), .bl true, .str (("0" : String) : Str), .ref z1], (NumV K Hz2 x 0 (some (d : Int)) false) ∧ ∃ t, Shw K Hz2 x t ∧ PyData.strOk t = true := by
    intro x hx
    simp only [List.mem_cons, List.not_mem_nil, or_false] at hx
    rcases hx with rfl | rfl | rfl | rfl | rfl | rfl
    · exact ⟨.inr ⟨.inr ⟨_, .base .non, by decide +kernel⟩, rfl⟩, shw_ok .non (by decide +kernel)⟩
    · exact ⟨.inl ⟨-1, rfl, (decide_eq_false fun z => absurd z.1 (by decide)).symm⟩, shw_ok (.int _) (by decide +kernel)⟩
    · exact ⟨.inl ⟨_, rfl, (decide_eq_false fun z => absurd (z.2 _ rfl) (by omega)).symm⟩, small_shw d d2⟩
    · exact ⟨.inr ⟨.inl ⟨_, rfl⟩, rfl⟩, shw_ok (.bl _) (by decide +kernel)⟩
    · exact ⟨.inr ⟨.inr ⟨_, .base (.str _), by decide +kernel⟩, rfl⟩, shw_ok (.str _) (by decide +kernel)⟩
    · exact ⟨.inr ⟨.inr ⟨_, .base (.lst (sz2 _ _ hz1)), by decide +kernel⟩, rfl⟩, shw_ok (dp_row (ns := ([0] : List Int)) (.inl (.inl (sz2 _ _ hz1)))) (by decide +kernel)⟩
  refine ⟨_, rfl, (by show 1 ≤ sizeLine; decide), fun z3 nz3 => ?_⟩
  obtain ⟨Hz3, ez3, sz3, hz3⟩ := fresh (.lst [V.int d]) nz3
  rw [ez3]
  refine ⟨(by show 3 ≤ sizeLine; decide), fun z4 nz4 => ?_⟩
  obtain ⟨Hz4, ez4, sz4, hz4⟩ := fresh (.tup [V.int 0, .ref z3, .int 2]) nz4
  rw [ez4]
  refine ⟨_, rfl, (by show 1 ≤ sizeLine; decide), fun z5 nz5 => ?_⟩
  obtain ⟨Hz5, ez5, sz5, hz5⟩ := fresh (.lst [V.int d]) nz5
  rw [ez5]
  refine ⟨(by show 3 ≤ sizeLine; decide), fun z6 nz6 => ?_⟩
  obtain ⟨Hz6, ez6, sz6, hz6⟩ := fresh (.tup [V.int 1, .ref z5, .int 1]) nz6
  rw [ez6]
  refine ⟨_, rfl, _, rfl, (by show 2 ≤ sizeLine; decide), fun z7 nz7 => ?_⟩
  obtain ⟨Hz7, ez7, sz7, hz7⟩ := fresh (.lst [V.ref ga, .int d]) nz7
  rw [ez7]
  refine ⟨(by show 3 ≤ sizeLine; decide), fun z8 nz8 => ?_⟩
  obtain ⟨Hz8, ez8, sz8, hz8⟩ := fresh (.tup [V.int 2, .ref z7, .int 3]) nz8
  rw [ez8]
  refine ⟨_, rfl, _, rfl, (by show 2 ≤ sizeLine; decide), fun z9 nz9 => ?_⟩
  obtain ⟨Hz9, ez9, sz9, hz9⟩ := fresh (.lst [V.ref ga, .int d]) nz9
  rw [ez9]
  refine ⟨(by show 3 ≤ sizeLine; decide), fun z10 nz10 => ?_⟩
  obtain ⟨Hz10, ez10, sz10, hz10⟩ := fresh (.tup [V.int 3, .ref z9, .int 1]) nz10
  rw [ez10]
  refine ⟨(by show 4 ≤ sizeLine; decide), fun z11 nz11 => ?_⟩
  obtain ⟨Hz11, ez11, sz11, hz11⟩ := fresh (.lst [V.ref z4, .ref z6, .ref z8, .ref z10]) nz11
  rw [ez11]
  have f2 : ∀ e ∈ [V.ref z4, .ref z6, .ref z8, .ref z10], ∃ (t ab : Addr) (k m : Nat) (A : List V), e = .ref t ∧ Hz11 t = some (.tup [.int k, .ref ab, .int m]) ∧ Hz11 ab = some (.lst A) ∧ A.length ≤ 3 ∧ m ≤ 5 ∧ ∀ H x, Same Hz11 H → x ∈ [V.non, .int (-1), .int ((d : Int) + 1), .bl true, .str (("0" : String) : Str), .ref z1] → Refuse K T.C_Guesser H k (A ++ [x] ++ List.replicate m .non) 2 x := by
    intro e he
    simp only [List.mem_cons, List.not_mem_nil, or_false] at he
    rcases he with rfl | rfl | rfl | rfl
    · exact ⟨z4, z3, 0, 2, _, rfl, (sz11 _ _ (sz10 _ _ (sz9 _ _ (sz8 _ _ (sz7 _ _ (sz6 _ _ (sz5 _ _ hz4))))))), (sz11 _ _ (sz10 _ _ (sz9 _ _ (sz8 _ _ (sz7 _ _ (sz6 _ _ (sz5 _ _ (sz4 _ _ hz3)))))))), by simp, by decide, fun H x s hx => .inl ⟨rfl, _, _, _, _, rfl, .inl (.inl (.inr ⟨d, rfl, d1, d2, rfl, rfl, ((f1 x hx).1.same ((((((((((sz3.trans sz4).trans sz5).trans sz6).trans sz7).trans sz8).trans sz9).trans sz10).trans sz11)).trans s))⟩))⟩⟩
    · exact ⟨z6, z5, 1, 1, _, rfl, (sz11 _ _ (sz10 _ _ (sz9 _ _ (sz8 _ _ (sz7 _ _ hz6))))), (sz11 _ _ (sz10 _ _ (sz9 _ _ (sz8 _ _ (sz7 _ _ (sz6 _ _ hz5)))))), by simp, by decide, fun H x s hx => .inr (.inl ⟨rfl, _, _, _, rfl, .inl (.inr ⟨d, rfl, d1, d2, rfl, rfl, ((f1 x hx).1.same ((((((((((sz3.trans sz4).trans sz5).trans sz6).trans sz7).trans sz8).trans sz9).trans sz10).trans sz11)).trans s))⟩)⟩)⟩
    · exact ⟨z8, z7, 2, 3, _, rfl, (sz11 _ _ (sz10 _ _ (sz9 _ _ hz8))), (sz11 _ _ (sz10 _ _ (sz9 _ _ (sz8 _ _ hz7)))), by simp, by decide, fun H x s hx => .inr (.inr (.inl ⟨rfl, _, _, _, _, _, _, rfl, .inr ⟨(hG.same ((((((((((((sz1.trans sz2).trans sz3).trans sz4).trans sz5).trans sz6).trans sz7).trans sz8).trans sz9).trans sz10).trans sz11)).trans s)), .inl (.inl (.inl (.inr ⟨d, rfl, d1, d2, rfl, rfl, ((f1 x hx).1.same ((((((((((sz3.trans sz4).trans sz5).trans sz6).trans sz7).trans sz8).trans sz9).trans sz10).trans sz11)).trans s))⟩)))⟩⟩))⟩
    · exact ⟨z10, z9, 3, 1, _, rfl, (sz11 _ _ hz10), (sz11 _ _ (sz10 _ _ hz9)), by simp, by decide, fun H x s hx => .inr (.inr (.inr (.inl ⟨rfl, _, _, _, _, rfl, .inr ⟨(hG.same ((((((((((((sz1.trans sz2).trans sz3).trans sz4).trans sz5).trans sz6).trans sz7).trans sz8).trans sz9).trans sz10).trans sz11)).trans s)), .inl (.inr ⟨d, rfl, d1, d2, rfl, rfl, ((f1 x hx).1.same ((((((((((sz3.trans sz4).trans sz5).trans sz6).trans sz7).trans sz8).trans sz9).trans sz10).trans sz11)).trans s))⟩)⟩⟩)))⟩
  refine ⟨z11, rfl, ⟨_, .inl (.inl hz11)⟩, for_list (K := K) (a := z11) (fun i σ HE => ∃ v2 v3 v4 : Option V, σ = [some (.ref ga), some (.int d), some (.ref z2), v2, v3, v4] ∧ Same Hz11 HE) ⟨none, none, none, rfl, Same.refl _⟩ (fun i σ HE _ ⟨_, _, _, _, s⟩ => .inl (.inl (s _ _ hz11))) ?_ ?_⟩
  · rintro i e σ HE he ⟨v2, v3, v4, rfl, sE⟩
    obtain ⟨t, ab, k, m, A, rfl, ht, hab, lA, hm, hR⟩ := f2 e (List.mem_of_getElem? he)
    refine ⟨t, _, rfl, .inl (.inl (sE _ _ ht)), rfl, _, _, rfl, _, _, rfl, _, _, rfl, rfl, ?_⟩
    refine ⟨_, rfl, _, rfl, _, rfl, (by show 1 ≤ sizeLine; decide), fun n1 nn1 => ?_⟩
    obtain ⟨HF, eF, sF, hn1⟩ := fresh (.lst [V.non]) nn1
    rw [eF]
    refine ⟨_, rfl, n1, _, _, rfl, rfl, hn1, by omega, by omega, by rw [Int.toNat_natCast, sizeLine_eq]; show 1 * _ ≤ _; omega, fun n2 nn2 => ?_⟩
    rw [Int.toNat_natCast, rep_non]
    obtain ⟨HG, eG, sG, hn2⟩ := fresh (.lst (List.replicate m V.non)) nn2
    rw [eG]
    have sEG := (sE.trans sF).trans sG
    refine ⟨k, 2, ab, z2, n2, A, _, _, rfl, sEG _ _ hab, sEG _ _ (sz11 _ _ (sz10 _ _ (sz9 _ _ (sz8 _ _ (sz7 _ _ (sz6 _ _ (sz5 _ _ (sz4 _ _ (sz3 _ _ hz2))))))))), hn2, by omega, (by simp), by rw [List.length_replicate]; omega, by decide, fun x hx => ⟨hR _ x sEG hx, ?_⟩, fun HI sI => ?_⟩
    · obtain ⟨_, t, hS, hok⟩ := f1 x hx
      exact ⟨t, hS.same (((((((((sz3.trans sz4).trans sz5).trans sz6).trans sz7).trans sz8).trans sz9).trans sz10).trans sz11).trans sEG), hok⟩
    · exact ⟨_, rfl, iteF ⟨_, _, _, rfl, sEG.trans sI⟩⟩
  · rintro σ HE ⟨v2, v3, v4, rfl, sE⟩
    have sE0 := ((((((((sz3.trans sz4).trans sz5).trans sz6).trans sz7).trans sz8).trans sz9).trans sz10).trans sz11).trans sE
    refine ⟨(by show 2 ≤ sizeLine; decide), fun r nr => ?_⟩
    obtain ⟨HR, eR, sR, hr⟩ := fresh (.lst [V.int 4, .int 5]) nr
    rw [eR]
    refine ⟨r, rfl, ⟨_, .inl (.inl hr)⟩, for_list (K := K) (a := r) (fun i σ HJ => ∃ v3' : Option V, σ = [some (.ref ga), some (.int d), some (.ref z2), v3', v3, v4] ∧ Same HR HJ) ⟨_, rfl, Same.refl _⟩ (fun i σ HJ _ ⟨_, _, s⟩ => .inl (.inl (s _ _ hr))) ?_ ?_⟩
    · rintro i e σ HJ he ⟨v3', rfl, sJ⟩
      have he2 : ∃ k : Nat, e = .int k ∧ (k = 4 ∨ k = 5) := by
        rcases i with _ | _ | i
        · cases he; exact ⟨4, rfl, .inl rfl⟩
        · cases he; exact ⟨5, rfl, .inr rfl⟩
        · cases he
      obtain ⟨k, rfl, hk⟩ := he2
      refine ⟨_, rfl, _, rfl, (by show 1 ≤ sizeLine; decide), fun n1 nn1 => ?_⟩
      obtain ⟨HF, eF, sF, hn1⟩ := fresh (.lst [V.int (d : Int)]) nn1
      rw [eF]
      refine ⟨_, rfl, (by show 0 ≤ sizeLine; decide), fun n2 nn2 => ?_⟩
      obtain ⟨HG, eG, sG, hn2⟩ := fresh (.lst ([] : List V)) nn2
      rw [eG]
      have sEG := ((sE0.trans sR).trans (sJ.trans sF)).trans sG
      refine ⟨k, 2, n1, z2, n2, _, _, _, rfl, sG _ _ hn1, sG _ _ (sF _ _ (sJ _ _ (sR _ _ (sE _ _ (sz11 _ _ (sz10 _ _ (sz9 _ _ (sz8 _ _ (sz7 _ _ (sz6 _ _ (sz5 _ _ (sz4 _ _ (sz3 _ _ hz2))))))))))))), hn2, by simp, by simp, by simp, by decide, fun x hx => ⟨?_, ?_⟩, fun HI sI => ?_⟩
      · rcases hk with rfl | rfl
        · exact .inr (.inr (.inr (.inr (.inl ⟨rfl, _, _, rfl, .inl (.inr ⟨d, rfl, d1, d2, rfl, rfl, (f1 x hx).1.same (sEG)⟩)⟩))))
        · exact .inr (.inr (.inr (.inr (.inr (.inl ⟨rfl, _, _, rfl, .inr ⟨d, rfl, d1, d2, rfl, rfl, (f1 x hx).1.same (sEG)⟩⟩)))))
      · obtain ⟨_, t, hS, hok⟩ := f1 x hx
        exact ⟨t, hS.same sEG, hok⟩
      · exact ⟨_, rfl, iteF ⟨_, rfl, ((sJ.trans sF).trans sG).trans sI⟩⟩
    · rintro σ HJ ⟨v3', rfl, sJ⟩
      have sJ0 := (sE0.trans sR).trans sJ
      refine ⟨(by show 0 ≤ sizeLine; decide), fun n1 nn1 => ?_⟩
      obtain ⟨HF, eF, sF, hn1⟩ := fresh (.lst ([] : List V)) nn1
      rw [eF]
      refine ⟨_, rfl, _, rfl, (by show 2 ≤ sizeLine; decide), fun n2 nn2 => ?_⟩
      obtain ⟨HG, eG, sG, hn2⟩ := fresh (.lst [V.non, .int (d : Int)]) nn2
      rw [eG]
      have sEG := (sJ0.trans sF).trans sG
      refine ⟨7, 2, n1, z2, n2, _, _, _, rfl, sG _ _ hn1, sG _ _ (sF _ _ (sJ _ _ (sR _ _ (sE _ _ (sz11 _ _ (sz10 _ _ (sz9 _ _ (sz8 _ _ (sz7 _ _ (sz6 _ _ (sz5 _ _ (sz4 _ _ (sz3 _ _ hz2))))))))))))), hn2, by simp, by simp, by simp, by decide, fun x hx => ⟨.inr (.inr (.inr (.inr (.inr (.inr (.inr ⟨rfl, _, _, _, rfl, .inl (.inr ⟨d, rfl, d1, d2, rfl, rfl, (f1 x hx).1.same (sEG)⟩)⟩)))))), ?_⟩, fun HI sI => ?_⟩
      · obtain ⟨_, t, hS, hok⟩ := f1 x hx
        exact ⟨t, hS.same sEG, hok⟩
      refine ⟨_, rfl, iteT ?_⟩
      have sI0 := sEG.trans sI
      refine ⟨(by show 1 ≤ sizeLine; decide), fun m1 nm1 => ?_⟩
      obtain ⟨HL, eL, sL, hm1⟩ := fresh (.lst [V.int 0]) nm1
      rw [eL]
      refine ⟨_, rfl, _, rfl, (by show 1 ≤ sizeLine; decide), fun m2 nm2 => ?_⟩
      obtain ⟨HM, eM, sM, hm2⟩ := fresh (.lst [V.int (d : Int)]) nm2
      rw [eM]
      have sIM := (sI0.trans sL).trans sM
      refine ⟨7, 2, m1, z2, m2, _, _, _, rfl, sM _ _ hm1, sM _ _ (sL _ _ (sI _ _ (sG _ _ (sF _ _ (sJ _ _ (sR _ _ (sE _ _ (sz11 _ _ (sz10 _ _ (sz9 _ _ (sz8 _ _ (sz7 _ _ (sz6 _ _ (sz5 _ _ (sz4 _ _ (sz3 _ _ hz2)))))))))))))))), hm2, by simp, by simp, by simp, by decide, fun x hx => ⟨.inr (.inr (.inr (.inr (.inr (.inr (.inr ⟨rfl, _, _, _, rfl, .inr ⟨d, 0, ⟨rfl, rfl, d1, d2, Nat.zero_le _⟩, rfl, rfl, (f1 x hx).1.same sIM⟩⟩)))))), ?_⟩, fun HN sN => ?_⟩
      · obtain ⟨_, t, hS, hok⟩ := f1 x hx
        exact ⟨t, hS.same sIM, hok⟩
      · exact q _ ((sz1.trans sz2).trans (sIM.trans sN))
end
end My

namespace My
open PySem PySem.Spec PyProof.Rows L2 Pre
/-! ### the law of counts refused -/
theorem iteC {c : Bool} {A B : Prop} (h : c = true) (k : A) : if c = true then A else B := by rw [h]; exact iteT k
theorem bl_true {Q : VK} {c : Bool} {H : Hp} (h : c = true) (q : Q (.bl true) H) : Q (.bl c) H := by rw [h]; exact q
theorem keep_same {H0 H' : Hp} {x dx C : Addr} (nx : H0 x = none) (ndx : H0 dx = none) (kp : ∀ b o, b ≠ x → (upd (upd H0 dx (.own x)) x (.ins C dx [])) b = some o → H' b = some o) : Same H0 H' := fun b o e => by
  refine kp b o (ne_of_none e nx) ?_
  rw [upd_ne (ne_of_none e nx), upd_ne (ne_of_none e ndx)]
  exact e
theorem halfs : ∀ d < 25, 1 ≤ d → ((((PyData.list [.int (1 * 2 ^ ((d : Nat) - 1 : Int).toNat)]).showable && SeqAt.shaped (.list [.int (1 * 2 ^ ((d : Nat) - 1 : Int).toNat)]) && decide ((PyData.list [.int (1 * 2 ^ ((d : Nat) - 1 : Int).toNat)]).shown.length ≤ sizeLine) && PyData.strOk (PyData.list [.int (1 * 2 ^ ((d : Nat) - 1 : Int).toNat)]).shown) = true) ∧ ([V.int (1 * 2 ^ ((d : Nat) - 1 : Int).toNat)].all (isS d) = false)) := by decide +kernel
theorem halfs2 : ∀ d < 25, 1 ≤ d → ((((PyData.list [.int (-1 - 1 * 2 ^ ((d : Nat) - 1 : Int).toNat)]).showable && SeqAt.shaped (.list [.int (-1 - 1 * 2 ^ ((d : Nat) - 1 : Int).toNat)]) && decide ((PyData.list [.int (-1 - 1 * 2 ^ ((d : Nat) - 1 : Int).toNat)]).shown.length ≤ sizeLine) && PyData.strOk (PyData.list [.int (-1 - 1 * 2 ^ ((d : Nat) - 1 : Int).toNat)]).shown) = true) ∧ ([V.int (-1 - 1 * 2 ^ ((d : Nat) - 1 : Int).toNat)].all (isS d) = false)) := by decide +kernel
theorem zeros_shw : ((PyData.list ((List.replicate 201 (0 : Int)).map PyData.int)).showable && SeqAt.shaped (.list ((List.replicate 201 (0 : Int)).map PyData.int)) && decide ((PyData.list ((List.replicate 201 (0 : Int)).map PyData.int)).shown.length ≤ sizeLine) && PyData.strOk (PyData.list ((List.replicate 201 (0 : Int)).map PyData.int)).shown) = true := by decide +kernel
theorem one_odd {K : PySem.W.Frag} {C : Addr} {H : Hp} {k : Nat} {A D : List V} {kind : Nat} {x : V} {t : Str} (h : Refuse K C H k (A ++ [x] ++ D) kind x) (hS : Shw K H x t) (ho : PyData.strOk t = true) : Odds K C H k A [x] D kind := fun y hy => by
  rw [List.mem_singleton.mp hy]
  exact ⟨h, t, hS, ho⟩
local macro_rules | `(tactic| walk_at "go") => `(tactic| repeat (first | (with_reducible first | refine iteT ?_ | refine iteF ?_ | refine iteNtt ?_ | refine iteNff ?_ | refine iteET (by omega) ?_ | refine iteEF (by omega) ?_ | refine iteENT (by omega) ?_ | refine iteENF (by omega) ?_ | refine iteDT (by omega) ?_ | refine iteDF (by omega) ?_ | refine iteNT (by omega) ?_ | refine iteNF (by omega) ?_) | refine ⟨_, rfl, ?_⟩ | refine ⟨_, _, rfl, rfl, ?_⟩ | refine ⟨_, _, rfl, ?_⟩ | refine ⟨rfl, ?_⟩ | refine .inl ⟨_, rfl, ?_⟩ | refine .inr ⟨_, rfl, ?_⟩))
local macro_rules | `(tactic| walk_at "b") => `(tactic| try dsimp (config := { proj := false, iota := false, eta := false, zeta := false }) only)
section
variable {P : Program} {w : World} {K : PySem.W.Frag} {mg : Str → Option Value} {base : Heap} [pf : Sup.PF P fileS]
def sp_law (K : PySem.W.Frag) : Sp := fun vs H Q _ => ∃ (a : Addr) (ns : List Int), vs = [.ref a] ∧ SqL K H a (ns.map V.int) ∧ ns.length ≤ 63 ∧ ∀ H', Q (.bl true) H'
theorem G_law (T : Top K mg) : FnG P w K mg base CX0 18 T.f_law T.fd_law ["_law_script"] (sp_law K) := by
  refine FnG.body T.F_law sc_law (fun vs H Q E h => by obtain ⟨a, ns, rfl, _⟩ := h; rfl) (fun cdv A outer s H vs Q E gd hr h => ?_)
  obtain ⟨a, ns, rfl, hS, hz, q⟩ := h
  refine ⟨_, PSs.nox (pss_cons (ps_set (i := 1) sc_law.nd rfl (by first | exact Or.inl rfl | exact Or.inr rfl) (pe_call (G_law_generator (P := P) T) (hr.mono (by decide)) (by rfl) T.g_law_generator T.F_law_generator.kp T.b_law_generator .nil pass0 (pa_cons (pv 0) (pa_cons pe_int pa_nil))))
  (pss_cons (ps_asg (pe_tup (pa_cons (pe_make T.mk_Guesser (G_Guesser___init__ (P := P) T) (hr.mono (by decide)) (by rfl) T.gc_Guesser T.b_Guesser___init__ .nil pass0 (pa_cons (pe_call (G_law_weights (P := P) T) (hr.mono (by decide)) (by rfl) T.g_law_weights T.F_law_weights.kp T.b_law_weights .nil pass0 (pa_cons (pv 1) (pa_cons pe_int pa_nil))) (pa_cons pe_int pa_nil))) (pa_cons (pe_op op_add pe_int (pe_call (G_law_random (P := P) T) (hr.mono (by decide)) (by rfl) T.g_law_random T.F_law_random.kp T.b_law_random .nil pass0 (pa_cons (pv 1) (pa_cons pe_int pa_nil)))) pa_nil))) (k_pgT K rfl (by rfl) (pgs_cons (pg_name (i := 5) sc_law.nd rfl (by first | exact Or.inl rfl | exact Or.inr rfl)) (pgs_cons (pg_name (i := 6) sc_law.nd rfl (by first | exact Or.inl rfl | exact Or.inr rfl)) pgs_nil))))
  (pss_cons (ps_for PassesOwn.never rfl (k_piL K rfl (pe_lst (pa_cons pe_int (pa_cons pe_int pa_nil)))) (pg_name (i := 2) sc_law.nd rfl (by first | exact Or.inl rfl | exact Or.inr rfl))
    (pss_one (ps_if (pt_not (pt_val (pe_callG (G_law_all_refused (P := P) T) gd (hr.mono (by decide)) (by rfl) T.g_law_all_refused T.F_law_all_refused.kp T.b_law_all_refused .nil pass0 (pa_cons (pv 2) (pa_cons (pe_lst pa_nil) (pa_cons (pe_lst (pa_cons pe_non (pa_cons pe_int (pa_cons (pe_lst (pa_cons pe_int pa_nil)) (pa_cons pe_str (pa_cons pe_bl pa_nil)))))) (pa_cons (pe_op op_rep (pe_lst (pa_cons pe_non pa_nil)) (pe_ix (k_ixL K rfl) (pe_lst (pa_cons pe_int (pa_cons pe_int pa_nil))) (pe_op op_sub (pv 2) pe_int) (fun _ _ => rfl))) (pa_cons pe_int pa_nil))))))))
    (pss_one (ps_ret pe_bl))
    pss_nil)))
  (pss_cons (ps_if (PW.pt (pw_or (pt_not (pt_val (pe_callG (G_law_depths_right (P := P) T) gd (hr.mono (by decide)) (by rfl) T.g_law_depths_right T.F_law_depths_right.kp T.b_law_depths_right .nil pass0 (pa_cons (pv 5) pa_nil)))) (pw_or1 (pt_not (pt_val (pe_callG (G_law_widths_right (P := P) T) gd (hr.mono (by decide)) (by rfl) T.g_law_widths_right T.F_law_widths_right.kp T.b_law_widths_right .nil pass0 (pa_cons (pv 5) (pa_cons (pv 6) pa_nil))))))))
    (pss_one (ps_ret pe_bl))
    pss_nil)
  (pss_cons (ps_for PassesOwn.never rfl (k_piL K rfl (pe_lst (pa_cons pe_non (pa_cons (pe_un un_neg pe_int) (pa_cons pe_int (pa_cons pe_bl (pa_cons pe_str (pa_cons (pe_lst (pa_cons pe_int pa_nil)) pa_nil)))))))) (pg_name (i := 3) sc_law.nd rfl (by first | exact Or.inl rfl | exact Or.inr rfl))
    (pss_cons (ps_if (pt_cmpR (k_neD K rfl hr.units) (pe_lc (own := [("_law_door", 2)]) (g := gName 2) (by rfl) sc_law.nd (k_piL K rfl (pe_lst (pa_cons pe_int (pa_cons pe_int pa_nil)))) (blkOk_by (own := [("_law_door", 2)]) (N := N_law) (sc := defScope s_law) (by decide +kernel)) (fun _ _ _ _ _ => (pg_name (i := 2) sc_law.nd rfl (by first | exact Or.inl rfl | exact Or.inr rfl))) (fun _ _ _ _ _ => (pts_one (pt_not (pt_val (pe_callG (G_law_all_refused (P := P) T) gd (hr.mono (by decide)) (by rfl) T.g_law_all_refused T.F_law_all_refused.kp T.b_law_all_refused .nil pass0 (pa_cons (pv 2) (pa_cons (pe_lst (pa_cons (pv 6) (pa_cons pe_int pa_nil))) (pa_cons (pe_lst (pa_cons (pv 3) pa_nil)) (pa_cons (pe_op op_rep (pe_lst (pa_cons pe_non pa_nil)) (pe_op op_sub pe_int (pv 2))) (pa_cons pe_int pa_nil)))))))))) (fun _ _ _ _ _ => (pv 2))) (pe_lst pa_nil) (nomark _))
    (pss_one (ps_ret pe_bl))
    pss_nil)
  (pss_one (ps_if (pt_not (pt_val (pe_callG (G_law_all_refused (P := P) T) gd (hr.mono (by decide)) (by rfl) T.g_law_all_refused T.F_law_all_refused.kp T.b_law_all_refused .nil pass0 (pa_cons pe_int (pa_cons (pe_lst (pa_cons (pv 5) (pa_cons (pv 6) (pa_cons pe_int pa_nil)))) (pa_cons (pe_lst (pa_cons (pv 3) pa_nil)) (pa_cons (pe_lst (pa_cons pe_non (pa_cons pe_non pa_nil))) (pa_cons pe_int pa_nil))))))))
    (pss_one (ps_ret pe_bl))
    pss_nil))))
  (pss_cons (ps_for PassesOwn.never rfl (k_piL K rfl (pe_lst (pa_cons pe_non (pa_cons (pe_un un_neg pe_int) (pa_cons pe_bl (pa_cons pe_str (pa_cons (pe_lst (pa_cons pe_int pa_nil)) pa_nil))))))) (pg_name (i := 3) sc_law.nd rfl (by first | exact Or.inl rfl | exact Or.inr rfl))
    (pss_cons (ps_if (pt_not (pt_val (pe_callG (G_law_all_refused (P := P) T) gd (hr.mono (by decide)) (by rfl) T.g_law_all_refused T.F_law_all_refused.kp T.b_law_all_refused .nil pass0 (pa_cons pe_int (pa_cons (pe_lst (pa_cons (pv 6) (pa_cons pe_int (pa_cons pe_int pa_nil)))) (pa_cons (pe_lst (pa_cons (pv 3) pa_nil)) (pa_cons (pe_lst pa_nil) (pa_cons pe_int pa_nil))))))))
    (pss_one (ps_ret pe_bl))
    pss_nil)
  (pss_cons (ps_if (pt_not (pt_val (pe_callG (G_law_all_refused (P := P) T) gd (hr.mono (by decide)) (by rfl) T.g_law_all_refused T.F_law_all_refused.kp T.b_law_all_refused .nil pass0 (pa_cons pe_int (pa_cons (pe_lst (pa_cons (pv 5) (pa_cons (pv 6) (pa_cons pe_int (pa_cons pe_int pa_nil))))) (pa_cons (pe_lst (pa_cons (pv 3) pa_nil)) (pa_cons (pe_lst (pa_cons pe_non pa_nil)) (pa_cons pe_int pa_nil))))))))
    (pss_one (ps_ret pe_bl))
    pss_nil)
  (pss_one (ps_if (pt_not (pt_val (pe_callG (G_law_all_refused (P := P) T) gd (hr.mono (by decide)) (by rfl) T.g_law_all_refused T.F_law_all_refused.kp T.b_law_all_refused .nil pass0 (pa_cons pe_int (pa_cons (pe_lst (pa_cons (pv 5) (pa_cons (pv 6) (pa_cons (pv 6) (pa_cons pe_int (pa_cons (pe_op op_add (pv 6) pe_int) pa_nil)))))) (pa_cons (pe_lst (pa_cons (pv 3) pa_nil)) (pa_cons (pe_lst pa_nil) (pa_cons pe_int pa_nil))))))))
    (pss_one (ps_ret pe_bl))
    pss_nil)))))
  (pss_cons (ps_set (i := 4) sc_law.nd rfl (by first | exact Or.inl rfl | exact Or.inr rfl) (pe_lst (pa_cons pe_non (pa_cons pe_int (pa_cons (pe_tup pa_nil) (pa_cons pe_str (pa_cons (pe_lst (pa_cons pe_non pa_nil)) (pa_cons (pe_lst (pa_cons pe_bl pa_nil)) (pa_cons (pe_lst (pa_cons (pe_op op_shl pe_int (pe_op op_sub (pv 6) pe_int)) pa_nil)) (pa_cons (pe_lst (pa_cons (pe_op op_sub (pe_un un_neg pe_int) (pe_op op_shl pe_int (pe_op op_sub (pv 6) pe_int))) pa_nil)) (pa_cons (pe_op op_rep (pe_lst (pa_cons pe_int pa_nil)) pe_int) pa_nil)))))))))))
  (pss_cons (ps_if (pt_not (pt_val (pe_callG (G_law_all_refused (P := P) T) gd (hr.mono (by decide)) (by rfl) T.g_law_all_refused T.F_law_all_refused.kp T.b_law_all_refused .nil pass0 (pa_cons pe_int (pa_cons (pe_lst (pa_cons (pv 5) (pa_cons (pv 6) (pa_cons pe_int pa_nil)))) (pa_cons (pv 4) (pa_cons (pe_lst pa_nil) (pa_cons pe_int pa_nil))))))))
    (pss_one (ps_ret pe_bl))
    pss_nil)
  (pss_one (ps_ret (pe_and (pe_cmpR (k_eqD K rfl hr.units) (pe_callG (G_law_caught (P := P) T) gd (hr.mono (by decide)) (by rfl) T.g_law_caught T.F_law_caught.kp T.b_law_caught .nil pass0 (pa_cons pe_int (pa_cons (pe_lst (pa_cons pe_int (pa_cons pe_int pa_nil))) pa_nil))) (pe_lst (pa_cons pe_int (pa_cons pe_str pa_nil))) (nomark _)) (pe_and (pe_cmpR op_isN (pe_callG (G_law_caught (P := P) T) gd (hr.mono (by decide)) (by rfl) T.g_law_caught T.F_law_caught.kp T.b_law_caught .nil pass0 (pa_cons pe_int (pa_cons (pe_lst (pa_cons pe_int (pa_cons pe_int pa_nil))) pa_nil))) pe_non (nomark _)) (pe_one (pe_cmpR (k_eqD K rfl hr.units) (pe_callG (G_law_caught (P := P) T) gd (hr.mono (by decide)) (by rfl) T.g_law_caught T.F_law_caught.kp T.b_law_caught .nil pass0 (pa_cons pe_int (pa_cons (pe_lst (pa_cons pe_int (pa_cons pe_int pa_nil))) pa_nil))) (pe_lst (pa_cons pe_int (pa_cons pe_str pa_nil))) (nomark _))))))))))))))), ?_⟩
  refine ⟨_, rfl, a, ns, 0, rfl, hS, fun H1 g s1 ng gG => ?_⟩
  refine ⟨_, rfl, g, 2, _, rfl, gG, by decide, by decide, fun H2 wa ws b2 nw hw g2 hW lw => ?_⟩
  intro x dx nx ndx nex
  have s2' : Same H2 (upd (upd H2 dx (.own x)) x (.ins T.C_Guesser dx [])) := fun b o e => by
    rw [upd_ne (ne_of_none e nx), upd_ne (ne_of_none e ndx)]
    exact e
  refine ⟨x, wa, dx, ws, 1, rfl, upd_same, s2' _ _ hw, hW, by decide, fun H3 kp3 hI => ⟨rfl, ?_⟩⟩
  have s23 : Same H2 H3 := keep_same nx ndx kp3
  have xg : x ≠ g := g2.ne nx
  obtain ⟨dx', fs, hx3⟩ := hI
  refine ⟨_, rfl, g, _, _, rfl, g2.same s23, by decide, by decide, by decide +kernel, fun r H4 r0 r1 g4 b4 => ?_⟩
  obtain ⟨d, hd, d1, d2⟩ : ∃ d : Nat, 1 + r = (d : Int) ∧ 1 ≤ d ∧ d ≤ 24 := ⟨(1 + r).toNat, by omega, by omega, by omega⟩
  refine ⟨_, _, rfl, rfl, ?_⟩
  dsimp only
  rw [hd]
  have hG4 : IsG T.C_Guesser H4 (.ref x) := ⟨x, dx', fs, rfl, b4 _ _ xg hx3⟩
  refine ⟨(by show 2 ≤ sizeLine; decide), fun tp ntp => ⟨tp, _, rfl, .inl (.inl upd_same), rfl, _, _, rfl, _, _, rfl, rfl, ?_⟩⟩
  obtain ⟨HB, eB, sB, _⟩ := fresh (.tup [V.ref x, V.int (d : Int)]) ntp
  rw [eB]
  have hG := hG4.same sB
  clear hG4 hx3 kp3 nx ndx nex
  generalize x = gx at *
  refine ⟨(by show 2 ≤ sizeLine; decide), fun r nr => ?_⟩
  obtain ⟨HR, eR, sR, hr⟩ := fresh (.lst [V.int 2, .int 3]) nr
  rw [eR]
  refine ⟨r, rfl, ⟨_, .inl (.inl hr)⟩, for_list (K := K) (a := r) (fun i σ HE => ∃ v2 : Option V, σ = [some (.ref a), some (.ref g), v2, none, none, some (.ref gx), some (.int d)] ∧ Same HR HE) ⟨none, rfl, Same.refl _⟩ (fun i σ HE _ ⟨_, _, s⟩ => .inl (.inl (s _ _ hr))) ?_ ?_⟩
  · rintro i e σ HE he ⟨v2, rfl, sE⟩
    have he2 : e = .int 2 ∨ e = .int 3 := by
      rcases i with _ | _ | i
      · cases he; exact .inl rfl
      · cases he; exact .inr rfl
      · cases he
    rcases he2 with rfl | rfl
    · refine ⟨_, rfl, (by show 0 ≤ sizeLine; decide), fun u21 nu21 => ?_⟩
      obtain ⟨Hu21, eu21, su21, hu21⟩ := fresh (.lst ([] : List V)) nu21
      rw [eu21]
      refine ⟨(by show 1 ≤ sizeLine; decide), fun u22 nu22 => ?_⟩
      obtain ⟨Hu22, eu22, su22, hu22⟩ := fresh (.lst [V.int 1]) nu22
      rw [eu22]
      refine ⟨(by show 5 ≤ sizeLine; decide), fun u23 nu23 => ?_⟩
      obtain ⟨Hu23, eu23, su23, hu23⟩ := fresh (.lst [V.non, .int 3, .ref u22, .str (("g" : String) : Str), .bl true]) nu23
      rw [eu23]
      refine ⟨(by show 1 ≤ sizeLine; decide), fun u24 nu24 => ?_⟩
      obtain ⟨Hu24, eu24, su24, hu24⟩ := fresh (.lst [V.non]) nu24
      rw [eu24]
      refine ⟨(by show 2 ≤ sizeLine; decide), fun u25 nu25 => ?_⟩
      obtain ⟨Hu25, eu25, su25, hu25⟩ := fresh (.lst [V.int 5, .int 3]) nu25
      rw [eu25]
      refine ⟨_, rfl, _, _, rfl, rfl, u25, _, _, _, rfl, rfl, .inl (.inl hu25), (show atI [V.int 5, .int 3] (2 - 2) = some (.int 5) from rfl), u24, _, _, rfl, rfl, (su25 _ _ hu24), by decide, by decide, (by show 1 * 5 ≤ sizeLine; decide), fun nn nnn => ?_⟩
      rw [rep_non]
      obtain ⟨HN, eN, sN, hnn⟩ := fresh (.lst (List.replicate (Int.toNat 5) V.non)) nnn
      rw [eN]
      refine ⟨2, 0, u21, u23, nn, _, _, _, rfl, (sN _ _ (su25 _ _ (su24 _ _ (su23 _ _ (su22 _ _ hu21))))), (sN _ _ (su25 _ _ (su24 _ _ hu23))), hnn, by simp, by simp, by decide, by decide, ?_, fun HI sI => ?_⟩
      · intro y hy
        simp only [List.mem_cons, List.not_mem_nil, or_false] at hy
        rcases hy with rfl | rfl | rfl | rfl | rfl
        · exact ⟨.inr (.inr (.inl ⟨rfl, _, _, _, _, _, _, rfl, .inl ⟨⟨_, (by simp [notTys]), .base .non⟩, rfl, rfl⟩⟩)), shw_ok .non (by decide +kernel)⟩
        · exact ⟨.inr (.inr (.inl ⟨rfl, _, _, _, _, _, _, rfl, .inl ⟨⟨_, (by simp [notTys]), .base (.int _)⟩, rfl, rfl⟩⟩)), shw_ok (.int _) (by decide +kernel)⟩
        · exact ⟨.inr (.inr (.inl ⟨rfl, _, _, _, _, _, _, rfl, .inl ⟨⟨_, (by simp [notTys]), .base (.lst (sN _ _ (su25 _ _ (su24 _ _ (su23 _ _ hu22)))))⟩, rfl, rfl⟩⟩)), shw_ok (dp_row (ns := ([1] : List Int)) (.inl (.inl (sN _ _ (su25 _ _ (su24 _ _ (su23 _ _ hu22))))))) (by decide +kernel)⟩
        · exact ⟨.inr (.inr (.inl ⟨rfl, _, _, _, _, _, _, rfl, .inl ⟨⟨_, (by simp [notTys]), .base (.str _)⟩, rfl, rfl⟩⟩)), shw_ok (.str _) (by decide +kernel)⟩
        · exact ⟨.inr (.inr (.inl ⟨rfl, _, _, _, _, _, _, rfl, .inl ⟨⟨_, (by simp [notTys]), .base (.bl _)⟩, rfl, rfl⟩⟩)), shw_ok (.bl _) (by decide +kernel)⟩
      · exact ⟨_, rfl, iteF ⟨_, rfl, (sE.trans (((((su21.trans su22).trans su23).trans su24).trans su25).trans sN)).trans sI⟩⟩
    · refine ⟨_, rfl, (by show 0 ≤ sizeLine; decide), fun u31 nu31 => ?_⟩
      obtain ⟨Hu31, eu31, su31, hu31⟩ := fresh (.lst ([] : List V)) nu31
      rw [eu31]
      refine ⟨(by show 1 ≤ sizeLine; decide), fun u32 nu32 => ?_⟩
      obtain ⟨Hu32, eu32, su32, hu32⟩ := fresh (.lst [V.int 1]) nu32
      rw [eu32]
      refine ⟨(by show 5 ≤ sizeLine; decide), fun u33 nu33 => ?_⟩
      obtain ⟨Hu33, eu33, su33, hu33⟩ := fresh (.lst [V.non, .int 3, .ref u32, .str (("g" : String) : Str), .bl true]) nu33
      rw [eu33]
      refine ⟨(by show 1 ≤ sizeLine; decide), fun u34 nu34 => ?_⟩
      obtain ⟨Hu34, eu34, su34, hu34⟩ := fresh (.lst [V.non]) nu34
      rw [eu34]
      refine ⟨(by show 2 ≤ sizeLine; decide), fun u35 nu35 => ?_⟩
      obtain ⟨Hu35, eu35, su35, hu35⟩ := fresh (.lst [V.int 5, .int 3]) nu35
      rw [eu35]
      refine ⟨_, rfl, _, _, rfl, rfl, u35, _, _, _, rfl, rfl, .inl (.inl hu35), (show atI [V.int 5, .int 3] (3 - 2) = some (.int 3) from rfl), u34, _, _, rfl, rfl, (su35 _ _ hu34), by decide, by decide, (by show 1 * 3 ≤ sizeLine; decide), fun nn nnn => ?_⟩
      rw [rep_non]
      obtain ⟨HN, eN, sN, hnn⟩ := fresh (.lst (List.replicate (Int.toNat 3) V.non)) nnn
      rw [eN]
      refine ⟨3, 0, u31, u33, nn, _, _, _, rfl, (sN _ _ (su35 _ _ (su34 _ _ (su33 _ _ (su32 _ _ hu31))))), (sN _ _ (su35 _ _ (su34 _ _ hu33))), hnn, by simp, by simp, by decide, by decide, ?_, fun HI sI => ?_⟩
      · intro y hy
        simp only [List.mem_cons, List.not_mem_nil, or_false] at hy
        rcases hy with rfl | rfl | rfl | rfl | rfl
        · exact ⟨.inr (.inr (.inr (.inl ⟨rfl, _, _, _, _, rfl, .inl ⟨⟨_, (by simp [notTys]), .base .non⟩, rfl, rfl⟩⟩))), shw_ok .non (by decide +kernel)⟩
        · exact ⟨.inr (.inr (.inr (.inl ⟨rfl, _, _, _, _, rfl, .inl ⟨⟨_, (by simp [notTys]), .base (.int _)⟩, rfl, rfl⟩⟩))), shw_ok (.int _) (by decide +kernel)⟩
        · exact ⟨.inr (.inr (.inr (.inl ⟨rfl, _, _, _, _, rfl, .inl ⟨⟨_, (by simp [notTys]), .base (.lst (sN _ _ (su35 _ _ (su34 _ _ (su33 _ _ hu32)))))⟩, rfl, rfl⟩⟩))), shw_ok (dp_row (ns := ([1] : List Int)) (.inl (.inl (sN _ _ (su35 _ _ (su34 _ _ (su33 _ _ hu32))))))) (by decide +kernel)⟩
        · exact ⟨.inr (.inr (.inr (.inl ⟨rfl, _, _, _, _, rfl, .inl ⟨⟨_, (by simp [notTys]), .base (.str _)⟩, rfl, rfl⟩⟩))), shw_ok (.str _) (by decide +kernel)⟩
        · exact ⟨.inr (.inr (.inr (.inl ⟨rfl, _, _, _, _, rfl, .inl ⟨⟨_, (by simp [notTys]), .base (.bl _)⟩, rfl, rfl⟩⟩))), shw_ok (.bl _) (by decide +kernel)⟩
      · exact ⟨_, rfl, iteF ⟨_, rfl, (sE.trans (((((su31.trans su32).trans su33).trans su34).trans su35).trans sN)).trans sI⟩⟩
  · rintro σ HE ⟨v2, rfl, sE⟩
    have sE0 := sR.trans sE
    refine ⟨_, rfl, gx, rfl, hG.same sE0, fun HC sC => ⟨_, rfl, iteF ?_⟩⟩
    have sC0 := sE0.trans sC
    refine ⟨_, rfl, _, rfl, gx, d, rfl, hG.same sC0, d1, d2, fun HD sD => ⟨_, rfl, iteF ?_⟩⟩
    have sD0 := sC0.trans sD
    refine ⟨_, rfl, (by show 1 ≤ sizeLine; decide), fun p1 np1 => ?_⟩
    obtain ⟨Hp1, ep1, sp1, hp1⟩ := fresh (.lst [V.int 1]) np1
    rw [ep1]
    refine ⟨(by show 6 ≤ sizeLine; decide), fun p2 np2 => ?_⟩
    obtain ⟨Hp2, ep2, sp2, hp2⟩ := fresh (.lst [V.non, .int (-1), .int 201, .bl true, .str (("1" : String) : Str), .ref p1]) np2
    rw [ep2]
    have fA : ∀ x ∈ [V.non, .int (-1), .int 201, .bl true, .str (("1" : String) : Str), .ref p1], (NumV K Hp2 x 0 (some 200) false) ∧ ∃ t, Shw K Hp2 x t ∧ PyData.strOk t = true := by
      intro x hx
      simp only [List.mem_cons, List.not_mem_nil, or_false] at hx
      rcases hx with rfl | rfl | rfl | rfl | rfl | rfl
      · exact ⟨.inr ⟨.inr ⟨_, .base .non, by decide +kernel⟩, rfl⟩, shw_ok .non (by decide +kernel)⟩
      · exact ⟨.inl ⟨-1, rfl, (decide_eq_false fun z => absurd z.1 (by decide)).symm⟩, shw_ok (.int _) (by decide +kernel)⟩
      · exact ⟨.inl ⟨201, rfl, (decide_eq_false fun z => absurd (z.2 _ rfl) (by decide)).symm⟩, shw_ok (.int _) (by decide +kernel)⟩
      · exact ⟨.inr ⟨.inl ⟨_, rfl⟩, rfl⟩, shw_ok (.bl _) (by decide +kernel)⟩
      · exact ⟨.inr ⟨.inr ⟨_, .base (.str _), by decide +kernel⟩, rfl⟩, shw_ok (.str _) (by decide +kernel)⟩
      · exact ⟨.inr ⟨.inr ⟨_, .base (.lst (sp2 _ _ hp1)), by decide +kernel⟩, rfl⟩, shw_ok (dp_row (ns := ([1] : List Int)) (.inl (.inl (sp2 _ _ hp1)))) (by decide +kernel)⟩
    have sA0 := sD0.trans (sp1.trans sp2)
    refine ⟨p2, rfl, ⟨_, .inl (.inl hp2)⟩, for_list (K := K) (a := p2) (fun i σ HE => ∃ v2 v3 : Option V, σ = [some (.ref a), some (.ref g), v2, v3, none, some (.ref gx), some (.int d)] ∧ Same Hp2 HE) ⟨v2, none, rfl, Same.refl _⟩ (fun i σ HE _ ⟨_, _, _, s⟩ => .inl (.inl (s _ _ hp2))) ?_ ?_⟩
    · rintro i x σ HE hx ⟨v2, v3, rfl, sE⟩
      obtain ⟨hN, t, hS, hok⟩ := fA x (List.mem_of_getElem? hx)
      refine ⟨(by show 2 ≤ sizeLine; decide), fun r2 nr2 => ?_⟩
      obtain ⟨HS, eS, sS, hr2⟩ := fresh (.lst [V.int 0, .int 1]) nr2
      rw [eS]
      refine ⟨r2, rfl, ⟨_, .inl (.inl hr2)⟩, fun DD nDD => ?_⟩
      refine lc_selL (K := K) (xs := [V.int 0, .int 1]) [none, none] nDD (.inl (.inl hr2)) rfl (by show 2 < sizeLine; decide) (fun x => rfl) ?_ ?_
      · intro j y oo HJ hy ho sJ Qt qt
        have hy2 : (y = .int 0 ∨ y = .int 1) ∧ oo = none := by
          rcases j with _ | _ | j
          · cases hy; cases ho; exact ⟨.inl rfl, rfl⟩
          · cases hy; cases ho; exact ⟨.inr rfl, rfl⟩
          · cases hy
        obtain ⟨rfl | rfl, rfl⟩ := hy2
        · refine ⟨_, rfl, _, rfl, (by show 2 ≤ sizeLine; decide), fun w01 nw01 => ?_⟩
          obtain ⟨Hw01, ew01, sw01, hw01⟩ := fresh (.lst [V.int (d : Int), .int 0]) nw01
          rw [ew01]
          refine ⟨_, rfl, (by show 1 ≤ sizeLine; decide), fun w02 nw02 => ?_⟩
          obtain ⟨Hw02, ew02, sw02, hw02⟩ := fresh (.lst [x]) nw02
          rw [ew02]
          refine ⟨(by show 1 ≤ sizeLine; decide), fun w03 nw03 => ?_⟩
          obtain ⟨Hw03, ew03, sw03, hw03⟩ := fresh (.lst [V.non]) nw03
          rw [ew03]
          refine ⟨_, rfl, _, _, rfl, rfl, w03, _, _, rfl, rfl, hw03, by decide, by decide, (by show 1 * 1 ≤ sizeLine; decide), fun nn nnn => ?_⟩
          rw [rep_non]
          obtain ⟨HN, eN, sN, hnn⟩ := fresh (.lst (List.replicate (Int.toNat (1 - 0)) V.non)) nnn
          rw [eN]
          have s0 : Same Hp2 HN := ((sE.trans sS).trans sJ).trans (((sw01.trans sw02).trans sw03).trans sN)
          refine ⟨0, 3, w01, w02, nn, _, _, _, rfl, (sN _ _ (sw03 _ _ (sw02 _ _ hw01))), (sN _ _ (sw03 _ _ hw02)), hnn, by simp, by simp, by decide, by decide, one_odd (.inl ⟨rfl, _, _, _, _, rfl, .inl (.inr ⟨d, 0, ⟨rfl, rfl, d1, d2, Nat.zero_le _⟩, rfl, rfl, hN.same s0⟩)⟩) (hS.same s0) hok, fun HI sI => ?_⟩
          exact ⟨_, rfl, iteF (qt _ ((((sw01.trans sw02).trans sw03).trans sN).trans sI))⟩
        · refine ⟨_, rfl, _, rfl, (by show 2 ≤ sizeLine; decide), fun w11 nw11 => ?_⟩
          obtain ⟨Hw11, ew11, sw11, hw11⟩ := fresh (.lst [V.int (d : Int), .int 0]) nw11
          rw [ew11]
          refine ⟨_, rfl, (by show 1 ≤ sizeLine; decide), fun w12 nw12 => ?_⟩
          obtain ⟨Hw12, ew12, sw12, hw12⟩ := fresh (.lst [x]) nw12
          rw [ew12]
          refine ⟨(by show 1 ≤ sizeLine; decide), fun w13 nw13 => ?_⟩
          obtain ⟨Hw13, ew13, sw13, hw13⟩ := fresh (.lst [V.non]) nw13
          rw [ew13]
          refine ⟨_, rfl, _, _, rfl, rfl, w13, _, _, rfl, rfl, hw13, by decide, by decide, (by show 1 * 0 ≤ sizeLine; decide), fun nn nnn => ?_⟩
          rw [rep_non]
          obtain ⟨HN, eN, sN, hnn⟩ := fresh (.lst (List.replicate (Int.toNat (1 - 1)) V.non)) nnn
          rw [eN]
          have s0 : Same Hp2 HN := ((sE.trans sS).trans sJ).trans (((sw11.trans sw12).trans sw13).trans sN)
          refine ⟨1, 3, w11, w12, nn, _, _, _, rfl, (sN _ _ (sw13 _ _ (sw12 _ _ hw11))), (sN _ _ (sw13 _ _ hw12)), hnn, by simp, by simp, by decide, by decide, one_odd (.inr (.inl ⟨rfl, _, _, _, rfl, .inr ⟨d, 0, ⟨rfl, rfl, d1, d2, Nat.zero_le _⟩, rfl, rfl, hN.same s0⟩⟩)) (hS.same s0) hok, fun HI sI => ?_⟩
          exact ⟨_, rfl, iteF (qt _ ((((sw11.trans sw12).trans sw13).trans sN).trans sI))⟩
      · intro HK sK hDD
        refine ⟨Nat.zero_le _, fun em nem => ?_⟩
        obtain ⟨HL, eL, sL, hem⟩ := fresh (.lst ([] : List V)) nem
        rw [eL]
        refine ne_lst (ns := []) (.inl (.inl (sL _ _ hDD))) (.inl (.inl hem)) ⟨_, rfl, iteF ?_⟩
        have sEL := ((sE.trans sS).trans sK).trans sL
        refine ⟨_, rfl, _, rfl, (by show 3 ≤ sizeLine; decide), fun k11 nk11 => ?_⟩
        obtain ⟨Hk11, ek11, sk11, hk11⟩ := fresh (.lst [V.ref gx, .int (d : Int), .int 0]) nk11
        rw [ek11]
        refine ⟨_, rfl, (by show 1 ≤ sizeLine; decide), fun k12 nk12 => ?_⟩
        obtain ⟨Hk12, ek12, sk12, hk12⟩ := fresh (.lst [x]) nk12
        rw [ek12]
        refine ⟨(by show 2 ≤ sizeLine; decide), fun k13 nk13 => ?_⟩
        obtain ⟨Hk13, ek13, sk13, hk13⟩ := fresh (.lst [V.non, .non]) nk13
        rw [ek13]
        have s0k1 : Same Hp2 Hk13 := (sEL).trans ((sk11.trans sk12).trans sk13)
        refine ⟨2, 3, k11, k12, k13, _, _, _, rfl, (sk13 _ _ (sk12 _ _ hk11)), (sk13 _ _ hk12), hk13, by simp, by simp, by simp, by decide, one_odd (.inr (.inr (.inl ⟨rfl, _, _, _, _, _, _, rfl, .inr ⟨(hG.same (sA0.trans s0k1)), .inl (.inl (.inr ⟨d, 0, ⟨rfl, rfl, d1, d2, Nat.zero_le _⟩, rfl, rfl, hN.same s0k1⟩))⟩⟩))) (hS.same s0k1) hok, fun HIk1 sIk1 => ?_⟩
        refine ⟨_, rfl, iteF ?_⟩
        exact ⟨_, _, rfl, (sEL).trans (((sk11.trans sk12).trans sk13).trans sIk1)⟩
    · rintro σ HE ⟨v2, v3, rfl, sE⟩
      have sE1 := sA0.trans sE
      refine ⟨_, rfl, (by show 1 ≤ sizeLine; decide), fun o1 no1 => ?_⟩
      obtain ⟨Ho1, eo1, so1, ho1⟩ := fresh (.lst [V.int 1]) no1
      rw [eo1]
      refine ⟨(by show 5 ≤ sizeLine; decide), fun o2 no2 => ?_⟩
      obtain ⟨Ho2, eo2, so2, ho2⟩ := fresh (.lst [V.non, .int (-1), .bl true, .str (("1" : String) : Str), .ref o1]) no2
      rw [eo2]
      have fB : ∀ x ∈ [V.non, .int (-1), .bl true, .str (("1" : String) : Str), .ref o1], (NumV K Ho2 x 0 none false) ∧ ∃ t, Shw K Ho2 x t ∧ PyData.strOk t = true := by
        intro x hx
        simp only [List.mem_cons, List.not_mem_nil, or_false] at hx
        rcases hx with rfl | rfl | rfl | rfl | rfl
        · exact ⟨.inr ⟨.inr ⟨_, .base .non, by decide +kernel⟩, rfl⟩, shw_ok .non (by decide +kernel)⟩
        · exact ⟨.inl ⟨-1, rfl, (decide_eq_false fun z => absurd z.1 (by decide)).symm⟩, shw_ok (.int _) (by decide +kernel)⟩
        · exact ⟨.inr ⟨.inl ⟨_, rfl⟩, rfl⟩, shw_ok (.bl _) (by decide +kernel)⟩
        · exact ⟨.inr ⟨.inr ⟨_, .base (.str _), by decide +kernel⟩, rfl⟩, shw_ok (.str _) (by decide +kernel)⟩
        · exact ⟨.inr ⟨.inr ⟨_, .base (.lst (so2 _ _ ho1)), by decide +kernel⟩, rfl⟩, shw_ok (dp_row (ns := ([1] : List Int)) (.inl (.inl (so2 _ _ ho1)))) (by decide +kernel)⟩
      have sB0 := sE1.trans (so1.trans so2)
      refine ⟨o2, rfl, ⟨_, .inl (.inl ho2)⟩, for_list (K := K) (a := o2) (fun i σ HF => ∃ v2 v3 : Option V, σ = [some (.ref a), some (.ref g), v2, v3, none, some (.ref gx), some (.int d)] ∧ Same Ho2 HF) ⟨v2, v3, rfl, Same.refl _⟩ (fun i σ HF _ ⟨_, _, _, s⟩ => .inl (.inl (s _ _ ho2))) ?_ ?_⟩
      · rintro i x σ HF hx ⟨v2, v3, rfl, sF⟩
        obtain ⟨hN, t, hS, hok⟩ := fB x (List.mem_of_getElem? hx)
        refine ⟨_, rfl, (by show 3 ≤ sizeLine; decide), fun m11 nm11 => ?_⟩
        obtain ⟨Hm11, em11, sm11, hm11⟩ := fresh (.lst [V.int (d : Int), .int 0, .int 2]) nm11
        rw [em11]
        refine ⟨_, rfl, (by show 1 ≤ sizeLine; decide), fun m12 nm12 => ?_⟩
        obtain ⟨Hm12, em12, sm12, hm12⟩ := fresh (.lst [x]) nm12
        rw [em12]
        refine ⟨(by show 0 ≤ sizeLine; decide), fun m13 nm13 => ?_⟩
        obtain ⟨Hm13, em13, sm13, hm13⟩ := fresh (.lst ([] : List V)) nm13
        rw [em13]
        have s0m1 : Same Ho2 Hm13 := (sF).trans ((sm11.trans sm12).trans sm13)
        refine ⟨0, 3, m11, m12, m13, _, _, _, rfl, (sm13 _ _ (sm12 _ _ hm11)), (sm13 _ _ hm12), hm13, by simp, by simp, by simp, by decide, one_odd (.inl ⟨rfl, _, _, _, _, rfl, .inr ⟨d, 0, 2, ⟨rfl, rfl, d1, d2, Nat.zero_le _⟩, rfl, by decide, rfl, rfl, hN.same s0m1⟩⟩) (hS.same s0m1) hok, fun HIm1 sIm1 => ?_⟩
        refine ⟨_, rfl, iteF ?_⟩
        refine ⟨_, rfl, _, rfl, (by show 4 ≤ sizeLine; decide), fun m21 nm21 => ?_⟩
        obtain ⟨Hm21, em21, sm21, hm21⟩ := fresh (.lst [V.ref gx, .int (d : Int), .int 0, .int 2]) nm21
        rw [em21]
        refine ⟨_, rfl, (by show 1 ≤ sizeLine; decide), fun m22 nm22 => ?_⟩
        obtain ⟨Hm22, em22, sm22, hm22⟩ := fresh (.lst [x]) nm22
        rw [em22]
        refine ⟨(by show 1 ≤ sizeLine; decide), fun m23 nm23 => ?_⟩
        obtain ⟨Hm23, em23, sm23, hm23⟩ := fresh (.lst [V.non]) nm23
        rw [em23]
        have s0m2 : Same Ho2 Hm23 := ((sF).trans (((sm11.trans sm12).trans sm13).trans sIm1)).trans ((sm21.trans sm22).trans sm23)
        refine ⟨2, 3, m21, m22, m23, _, _, _, rfl, (sm23 _ _ (sm22 _ _ hm21)), (sm23 _ _ hm22), hm23, by simp, by simp, by simp, by decide, one_odd (.inr (.inr (.inl ⟨rfl, _, _, _, _, _, _, rfl, .inr ⟨(hG.same (sB0.trans s0m2)), .inl (.inr ⟨d, 0, 2, ⟨rfl, rfl, d1, d2, Nat.zero_le _⟩, rfl, by decide, rfl, rfl, hN.same s0m2⟩)⟩⟩))) (hS.same s0m2) hok, fun HIm2 sIm2 => ?_⟩
        refine ⟨_, rfl, iteF ?_⟩
        refine ⟨_, rfl, _, rfl, _, rfl, _, rfl, _, _, rfl, rfl, (by show 5 ≤ sizeLine; decide), fun m31 nm31 => ?_⟩
        obtain ⟨Hm31, em31, sm31, hm31⟩ := fresh (.lst [V.ref gx, .int (d : Int), .int (d : Int), .int 1, .int ((d : Int) + 1)]) nm31
        rw [em31]
        refine ⟨_, rfl, (by show 1 ≤ sizeLine; decide), fun m32 nm32 => ?_⟩
        obtain ⟨Hm32, em32, sm32, hm32⟩ := fresh (.lst [x]) nm32
        rw [em32]
        refine ⟨(by show 0 ≤ sizeLine; decide), fun m33 nm33 => ?_⟩
        obtain ⟨Hm33, em33, sm33, hm33⟩ := fresh (.lst ([] : List V)) nm33
        rw [em33]
        have s0m3 : Same Ho2 Hm33 := (((sF).trans (((sm11.trans sm12).trans sm13).trans sIm1)).trans (((sm21.trans sm22).trans sm23).trans sIm2)).trans ((sm31.trans sm32).trans sm33)
        refine ⟨2, 3, m31, m32, m33, _, _, _, rfl, (sm33 _ _ (sm32 _ _ hm31)), (sm33 _ _ hm32), hm33, by simp, by simp, by simp, by decide, one_odd (.inr (.inr (.inl ⟨rfl, _, _, _, _, _, _, rfl, .inr ⟨(hG.same (sB0.trans s0m3)), .inr ⟨d, ⟨rfl, rfl, rfl, rfl, d1, d2⟩, hN.same s0m3, rfl, rfl⟩⟩⟩))) (hS.same s0m3) hok, fun HIm3 sIm3 => ?_⟩
        refine ⟨_, rfl, iteF ?_⟩
        exact ⟨_, _, rfl, (((sF).trans (((sm11.trans sm12).trans sm13).trans sIm1)).trans (((sm21.trans sm22).trans sm23).trans sIm2)).trans (((sm31.trans sm32).trans sm33).trans sIm3)⟩
      · rintro σ HF ⟨v2, v3, rfl, sF⟩
        refine ⟨(by show 0 ≤ sizeLine; decide), fun y1 ny1 => ?_⟩
        obtain ⟨Hy1, ey1, sy1, hy1⟩ := fresh (.tup ([] : List V)) ny1
        rw [ey1]
        refine ⟨(by show 1 ≤ sizeLine; decide), fun y2 ny2 => ?_⟩
        obtain ⟨Hy2, ey2, sy2, hy2⟩ := fresh (.lst [V.non]) ny2
        rw [ey2]
        refine ⟨(by show 1 ≤ sizeLine; decide), fun y3 ny3 => ?_⟩
        obtain ⟨Hy3, ey3, sy3, hy3⟩ := fresh (.lst [V.bl true]) ny3
        rw [ey3]
        refine ⟨_, rfl, _, _, rfl, rfl, _, _, rfl, rfl, ⟨by omega, by omega, by decide⟩, (by show 1 ≤ sizeLine; decide), fun y4 ny4 => ?_⟩
        obtain ⟨Hy4, ey4, sy4, hy4⟩ := fresh (.lst [V.int (1 * 2 ^ ((d : Int) - 1).toNat)]) ny4
        rw [ey4]
        refine ⟨_, rfl, _, rfl, _, _, rfl, rfl, _, _, rfl, rfl, ⟨by omega, by omega, by decide⟩, _, _, rfl, rfl, (by show 1 ≤ sizeLine; decide), fun y5 ny5 => ?_⟩
        obtain ⟨Hy5, ey5, sy5, hy5⟩ := fresh (.lst [V.int (-1 - 1 * 2 ^ ((d : Int) - 1).toNat)]) ny5
        rw [ey5]
        refine ⟨(by show 1 ≤ sizeLine; decide), fun y6 ny6 => ?_⟩
        obtain ⟨Hy6, ey6, sy6, hy6⟩ := fresh (.lst [V.int 0]) ny6
        rw [ey6]
        refine ⟨y6, _, _, rfl, rfl, hy6, by decide, by decide, by decide, fun y7 ny7 => ?_⟩
        obtain ⟨Hy7, ey7, sy7, hy7⟩ := fresh (.lst (List.replicate (Int.toNat 201) [V.int 0]).flatten) ny7
        rw [ey7]
        have hy7 : Hy7 y7 = some (.lst ((List.replicate 201 (0 : Int)).map V.int)) := hy7
        refine ⟨(by show 9 ≤ sizeLine; decide), fun y8 ny8 => ?_⟩
        obtain ⟨Hy8, ey8, sy8, hy8⟩ := fresh (.lst [V.non, .int 3, .ref y1, .str (("0" : String) : Str), .ref y2, .ref y3, .ref y4, .ref y5, .ref y7]) ny8
        rw [ey8]
        have sF0 := sB0.trans sF
        have fC : ∀ x ∈ [V.non, .int 3, .ref y1, .str (("0" : String) : Str), .ref y2, .ref y3, .ref y4, .ref y5, .ref y7], (BadRw K Hy8 d x) ∧ ∃ t, Shw K Hy8 x t ∧ PyData.strOk t = true := by
          intro x hx
          simp only [List.mem_cons, List.not_mem_nil, or_false] at hx
          rcases hx with rfl | rfl | rfl | rfl | rfl | rfl | rfl | rfl | rfl
          · exact ⟨.inl (.inl ⟨_, .base .non, by decide +kernel⟩), shw_ok .non (by decide +kernel)⟩
          · exact ⟨.inl (.inl ⟨_, .base (.int _), by decide +kernel⟩), shw_ok (.int _) (by decide +kernel)⟩
          · exact ⟨.inl (.inl ⟨_, .base (.tup (sy8 _ _ (sy7 _ _ (sy6 _ _ (sy5 _ _ (sy4 _ _ (sy3 _ _ (sy2 _ _ hy1)))))))), by decide +kernel⟩), shw_ok (.tup (.inl (.inl (sy8 _ _ (sy7 _ _ (sy6 _ _ (sy5 _ _ (sy4 _ _ (sy3 _ _ (sy2 _ _ hy1))))))))) .nil) (by decide +kernel)⟩
          · exact ⟨.inl (.inl ⟨_, .base (.str _), by decide +kernel⟩), shw_ok (.str _) (by decide +kernel)⟩
          · exact ⟨.inl (.inr ⟨y2, _, rfl, (sy8 _ _ (sy7 _ _ (sy6 _ _ (sy5 _ _ (sy4 _ _ (sy3 _ _ hy2)))))), by decide, (items1 (item_non)), rfl⟩), shw_ok (.lst (.inl (.inl (sy8 _ _ (sy7 _ _ (sy6 _ _ (sy5 _ _ (sy4 _ _ (sy3 _ _ hy2)))))))) (.cons .non .nil)) (by decide +kernel)⟩
          · exact ⟨.inl (.inr ⟨y3, _, rfl, (sy8 _ _ (sy7 _ _ (sy6 _ _ (sy5 _ _ (sy4 _ _ hy3))))), by decide, (items1 (item_bl _)), rfl⟩), shw_ok (.lst (.inl (.inl (sy8 _ _ (sy7 _ _ (sy6 _ _ (sy5 _ _ (sy4 _ _ hy3))))))) (.cons (.bl _) .nil)) (by decide +kernel)⟩
          · exact ⟨.inl (.inr ⟨y4, _, rfl, (sy8 _ _ (sy7 _ _ (sy6 _ _ (sy5 _ _ hy4)))), by simp, items1 (.inl ⟨_, rfl⟩), (halfs d (by omega) d1).2⟩), shw_ok (.lst (.inl (.inl (sy8 _ _ (sy7 _ _ (sy6 _ _ (sy5 _ _ hy4)))))) (.cons (.int _) .nil)) (halfs d (by omega) d1).1⟩
          · exact ⟨.inl (.inr ⟨y5, _, rfl, (sy8 _ _ (sy7 _ _ (sy6 _ _ hy5))), by simp, items1 (.inl ⟨_, rfl⟩), (halfs2 d (by omega) d1).2⟩), shw_ok (.lst (.inl (.inl (sy8 _ _ (sy7 _ _ (sy6 _ _ hy5))))) (.cons (.int _) .nil)) (halfs2 d (by omega) d1).1⟩
          · exact ⟨.inr ⟨y7, List.replicate 201 0, rfl, (sy8 _ _ hy7), (fun y hy => by rw [(List.mem_replicate.mp hy).2]; have := half_pos d; omega), by rw [List.length_replicate]; decide, by rw [List.length_replicate]; decide⟩, shw_ok (dp_row (.inl (.inl (sy8 _ _ hy7)))) zeros_shw⟩
        refine ⟨_, rfl, _, rfl, (by show 3 ≤ sizeLine; decide), fun i1 ni1 => ?_⟩
        obtain ⟨Hi1, ei1, si1, hi1⟩ := fresh (.lst [V.ref gx, .int (d : Int), .int 0]) ni1
        rw [ei1]
        refine ⟨_, rfl, (by show 0 ≤ sizeLine; decide), fun i2 ni2 => ?_⟩
        obtain ⟨Hi2, ei2, si2, hi2⟩ := fresh (.lst ([] : List V)) ni2
        rw [ei2]
        have sI0 : Same Hy8 Hi2 := (si1.trans si2)
        refine ⟨3, 4, i1, y8, i2, _, _, _, rfl, (si2 _ _ hi1), sI0 _ _ hy8, hi2, by simp, by simp, by simp, by decide, fun x hx => ⟨.inr (.inr (.inr (.inl ⟨rfl, _, _, _, _, rfl, .inr ⟨hG.same (sF0.trans ((((((((sy1.trans sy2).trans sy3).trans sy4).trans sy5).trans sy6).trans sy7).trans sy8).trans sI0)), .inr ⟨d, 0, ⟨rfl, rfl, d1, d2, Nat.zero_le _⟩, (fC x hx).1.same sI0, rfl, rfl⟩⟩⟩))), ?_⟩, fun HG sG => ?_⟩
        · obtain ⟨_, t, hS, hok⟩ := fC x hx
          exact ⟨t, hS.same sI0, hok⟩
        refine ⟨_, rfl, iteF ?_⟩
        refine ⟨(by show 2 ≤ sizeLine; decide), fun c1 nc1 => ?_⟩
        obtain ⟨Hc1, ec1, sc1, hc1⟩ := fresh (.lst [V.int 11, .int 0]) nc1
        rw [ec1]
        refine ⟨4, c1, _, rfl, hc1, .inl ⟨2, .int 0, _, .inr (.inr (.inr (.inr (.inl ⟨rfl, _, _, rfl, .inr ⟨11, 0, ⟨rfl, rfl, by decide, by decide, by decide⟩, by decide, rfl, rfl⟩⟩)))), by decide, ⟨.int 0, .int _, by decide +kernel, by decide +kernel, by decide +kernel, rfl⟩, fun HcX pc scX npc hpc => ?_⟩⟩
        refine ⟨(by show 2 ≤ sizeLine; decide), fun c2 nc2 => ?_⟩
        obtain ⟨Hc2, ec2, sc2, hc2⟩ := fresh (.lst [V.int 2, .str (("0" : String) : Str)]) nc2
        rw [ec2]
        refine ⟨_, _, .lst (.inl (.inl (sc2 _ _ hpc))) (.cons (.int _) (.cons (.str _) .nil)), .lst (.inl (.inl hc2)) (.cons (.int _) (.cons (.str _) .nil)), (by decide +kernel), (by decide +kernel), ?_⟩
        refine ⟨_, rfl, iteC (by decide +kernel) ?_⟩
        refine ⟨(by show 2 ≤ sizeLine; decide), fun cc1 ncc1 => ?_⟩
        obtain ⟨Hcc1, ecc1, scc1, hcc1⟩ := fresh (.lst [V.int 10, .int 0]) ncc1
        rw [ecc1]
        refine ⟨4, cc1, _, rfl, hcc1, .inr ⟨rfl, rfl, fun HX sX => ⟨rfl, _, rfl, iteDT rfl ?_⟩⟩⟩
        refine ⟨(by show 2 ≤ sizeLine; decide), fun e1 ne1 => ?_⟩
        obtain ⟨He1, ee1, se1, he1⟩ := fresh (.lst [V.int 24, .int 13]) ne1
        rw [ee1]
        refine ⟨4, e1, _, rfl, he1, .inl ⟨2, .int 13, _, .inr (.inr (.inr (.inr (.inl ⟨rfl, _, _, rfl, .inr ⟨24, 13, ⟨rfl, rfl, by decide, by decide, by decide⟩, by decide, rfl, rfl⟩⟩)))), by decide, ⟨.int 13, .int _, by decide +kernel, by decide +kernel, by decide +kernel, rfl⟩, fun HeX pe seX npe hpe => ?_⟩⟩
        refine ⟨(by show 2 ≤ sizeLine; decide), fun e2 ne2 => ?_⟩
        obtain ⟨He2, ee2, se2, he2⟩ := fresh (.lst [V.int 2, .str (("13" : String) : Str)]) ne2
        rw [ee2]
        refine ⟨_, _, .lst (.inl (.inl (se2 _ _ hpe))) (.cons (.int _) (.cons (.str _) .nil)), .lst (.inl (.inl he2)) (.cons (.int _) (.cons (.str _) .nil)), (by decide +kernel), (by decide +kernel), ?_⟩
        exact bl_true (by decide +kernel) (q _)
end
end My

open PySem PySem.W PySem.Calls PyProof.Rows
set_option maxRecDepth 100000 in
set_option maxHeartbeats 0 in
theorem PySem.Challenge.cw_wholesound_k53_counts_refused_holds : PySem.Challenge.rw_wholesound_k53_counts_refused.Holds := by
  w_on; o_law
  refine HandSHeadRun.head_any (r := OpenLaw.row PySem.Challenge.rw_wholesound_k53_counts_refused) (q := view (OpenLaw.row PySem.Challenge.rw_wholesound_k53_counts_refused).prog [65]) (H := My.hk) (ob := My.ob) (M := 8000) (loose := My.loose) (d := HandSHeadRun.topDef (OpenLaw.row PySem.Challenge.rw_wholesound_k53_counts_refused).prog 65) (kwd := []) My.ob_eq
    (by kernel_rfl) (fun s => by kernel_rfl) My.run (by kernel_rfl) (by kernel_rfl) (by kernel_rfl) (by rfl) (by first | assumption | decide +kernel) (by decide +kernel) ⟨rfl, rfl, rfl, rfl, rfl, by decide +kernel⟩ ?hw ?hc
  case hw => w_witness2
  case hc =>
    refine My.end_g (l := PySem.Challenge.rw_wholesound_k53_counts_refused) (n := 63) (k := 18) (x := "_law_script") rfl (by decide) (by kernel_rfl) ⟨rfl, by decide, by decide⟩ ?F
    intro w mg fa h Y G hmg0
    obtain ⟨K, KX, c⟩ := Y
    have hmg : mg ("law" : PySem.Str) = some (.ref fa) := by
      have e : (HandSHeadRun.topDef (OpenLaw.row PySem.Challenge.rw_wholesound_k53_counts_refused).prog 65).name = ("law" : PySem.Str) := by kernel_rfl
      rw [← e]
      exact hmg0
    have T : My.Top K mg := My.top_mk KX G c
    have e := hmg.symm.trans T.g_law
    cases e
    have b := L2.FunD.bindsA (ps := ["_law_script"]) T.F_law fun _ _ _ _ _ _ us hl => match us, hl with | [_], _ => rfl
    exact ⟨K, T.fd_law, My.sp_law K, KX, fun s v => b s [v] rfl, fun H a ns hl hS => ⟨a, ns, rfl, hS, hl, fun _ => rfl⟩, fun base _ _ => My.G_law (pf := ⟨by kernel_rfl, by kernel_rfl⟩) T⟩


