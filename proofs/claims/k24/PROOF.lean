import PyProof.Rows.All
import Wide.All
import OpenK.AllK
import Wide.FinOn
import KE.KStateDown
import Lean
import HandS.ForMost
import HandS.Exc
import HandS.Flow
import HandS.DictComp
import HandS.Style
import HandS.Wide
import HandS.WideBits
import HandS.IsInst
import HandS.Codes
import HandS.Walk
import HandS.Words
import HandS.WordsExc
import HandS.Defaults
import HandS.Head0
import HandS.Head1
import HandS.Head2
import HandS.HeadEnd
import HandS.HeadHook1
import HandS.HeadHook2
import HandS.SortInts
import PyProof.Rows.SortShellAny
import PyProof.InstNe
import KE.DataMinMax
import KE.SortData
import KE.IntBitsLaws
import KE.BitLaws
import HandS.Deep
import HandS.SetKeys
import PyProof.Rows.StrMul
import HandS.TupLe
import HandS.Property
import HandS.Conv
import HandS.NoneIn
import HandS.SetFor
import HandS.Strs
import HandS.Sort
import HandS.StrMore
import HandS.ExcInit
import HandS.ExcSuper
import HandS.Nested
import KE.KExcSuper
import HandS.ExcField
import HandS.TryMany
import HandS.ExcIs
import HandS.TryOnly
import HandS.CallSlots
import KE.KDictDisplayH
import PyProof.StrLawsFirst
import KE.GoesZip
import KE.GoesMore
import HandS.Zip
import PyProof.CallType
import PyProof.ZipIter
import PyProof.TupleIter
import PyProof.Rows.CallKwBuiltin
import HandS.Star
import PySem.Challenge.RW_wholesound_k24_rules_that_lead_all
set_option Elab.async false
set_option linter.all false
set_option maxRecDepth 100000
set_option maxHeartbeats 4000000
set_option exponentiation.threshold 100000
namespace Pre
open PySem PySem.Spec PyProof.Rows L2
/-! ### heaps -/
theorem same_upd {H : Hp} {p : Addr} {o : HO} (h : H p = none) : Same H (upd H p o) := fun b x e => by
  rw [upd_ne (ne_of_none e h)]
  exact e
/-- a fresh thing that is then changed is no change of what was -/
theorem same_over {H H' : Hp} {p : Addr} {o : HO} (n : H p = none) (s : Same H H') : Same H (upd H' p o) := fun b x e => by
  rw [upd_ne (ne_of_none e n)]
  exact s b x e
theorem Same.tup {K : PySem.W.Frag} {H H' : Hp} {a : Addr} {xs : List V} (e : Same H H') (h : SqT K H a xs) : SqT K H' a xs := by
  rcases h with (h | ⟨o, h⟩) | h
  · exact .inl (.inl (e _ _ h))
  · exact .inl (.inr ⟨o, e _ _ h⟩)
  · exact .inr h
mutual
theorem dp_same {K : PySem.W.Frag} {H H' : Hp} (s : Same H H') : ∀ (d : PyData) (v : V), Dp K H v d → Dp K H' v d
  | .none, _, h => by cases h; exact .non
  | .bool _, _, h => by cases h; exact .bl _
  | .int _, _, h => by cases h; exact .int _
  | .str _, _, h => by cases h; exact .str _
  | .list ds, _, h => by cases h with | lst a b => exact .lst (s.seq a) (dps_same s ds _ b)
  | .tuple ds, _, h => by cases h with | tup a b => exact .tup (Same.tup s a) (dps_same s ds _ b)
  | .dict _, _, h => nomatch h
theorem dps_same {K : PySem.W.Frag} {H H' : Hp} (s : Same H H') : ∀ (ds : List PyData) (vs : List V), DpAll K H vs ds → DpAll K H' vs ds
  | [], _, h => by cases h; exact .nil
  | d :: ds, _, h => by cases h with | cons a b => exact .cons (dp_same s d _ a) (dps_same s ds _ b)
end
theorem dp_ints {K : PySem.W.Frag} {H : Hp} : ∀ ns : List Int, DpAll K H (ns.map V.int) (ns.map PyData.int)
  | [] => .nil
  | n :: r => .cons (.int n) (dp_ints r)
theorem eqv_ints : ∀ ns ms : List Int, PyData.eqvAll (ns.map PyData.int) (ms.map PyData.int) = decide (ns = ms)
  | [], [] => rfl
  | [], _ :: _ => rfl
  | _ :: _, [] => rfl
  | n :: r, m :: q => by
    show (PyData.eqv (.int n) (.int m) && PyData.eqvAll (r.map PyData.int) (q.map PyData.int)) = decide (n :: r = m :: q)
    rw [eqv_ints r q]
    show ((n == m) && decide (r = q)) = decide (n :: r = m :: q)
    by_cases h : n = m
    · subst h; simp
    · simp [h]
theorem lay_ints : ∀ ns : List Int, PyData.canLayAll0 (ns.map PyData.int) = true
  | [] => rfl
  | n :: r => by
    show (PyData.canLay0 (.int n) && PyData.canLayAll0 (r.map PyData.int)) = true
    rw [lay_ints r]
    rfl
theorem depth_ints : ∀ ns : List Int, PyData.depthAll (ns.map PyData.int) = 0
  | [] => by simp [PyData.depthAll]
  | n :: r => by
    show PyData.depthAll (.int n :: r.map PyData.int) = 0
    rw [PyData.depthAll, depth_ints r]
    simp [PyData.depth]
theorem shaped_ints (ns : List Int) : SeqAt.shaped (.list (ns.map PyData.int)) = true := by
  unfold SeqAt.shaped
  rw [PyData.canLay0, lay_ints, PyData.depth, depth_ints]
  rfl
theorem shaped_tup (ns : List Int) : SeqAt.shaped (.tuple (ns.map PyData.int)) = true := by
  unfold SeqAt.shaped
  rw [PyData.canLay0, lay_ints, PyData.depth, depth_ints]
  rfl
/-! ### comparisons of lists and tuples of whole numbers that are told alike -/
theorem ne_tup {K : PySem.W.Frag} {H : Hp} {a b : Addr} {ns : List Int} {Q : V → Hp → Prop} (ha : SqT K H a (ns.map V.int)) (hb : SqT K H b (ns.map V.int)) (q : Q (.bl false) H) : rNeD K (.ref a) (.ref b) H Q := by
  refine ⟨.tuple (ns.map PyData.int), .tuple (ns.map PyData.int), .tup ha (dp_ints ns), .tup hb (dp_ints ns), shaped_tup ns, shaped_tup ns, ?_⟩
  rw [PyData.eqv, eqv_ints, decide_eq_true rfl]
  exact q
theorem eq_tup {K : PySem.W.Frag} {H : Hp} {a b : Addr} {ns : List Int} {Q : V → Hp → Prop} (ha : SqT K H a (ns.map V.int)) (hb : SqT K H b (ns.map V.int)) (q : Q (.bl true) H) : rEqD K (.ref a) (.ref b) H Q := by
  refine ⟨.tuple (ns.map PyData.int), .tuple (ns.map PyData.int), .tup ha (dp_ints ns), .tup hb (dp_ints ns), shaped_tup ns, shaped_tup ns, ?_⟩
  rw [PyData.eqv, eqv_ints, decide_eq_true rfl]
  exact q
/-- lists of whole numbers, compared -/
theorem eqD_lst {K : PySem.W.Frag} {H : Hp} {a b : Addr} {ns ms : List Int} {Q : V → Hp → Prop} (ha : SqL K H a (ns.map V.int)) (hb : SqL K H b (ms.map V.int)) (q : Q (.bl (decide (ns = ms))) H) : rEqD K (.ref a) (.ref b) H Q := by
  refine ⟨.list (ns.map PyData.int), .list (ms.map PyData.int), .lst ha (dp_ints ns), .lst hb (dp_ints ms), shaped_ints ns, shaped_ints ms, ?_⟩
  rw [PyData.eqv, eqv_ints]
  exact q
theorem neD_lst {K : PySem.W.Frag} {H : Hp} {a b : Addr} {ns ms : List Int} {Q : V → Hp → Prop} (ha : SqL K H a (ns.map V.int)) (hb : SqL K H b (ms.map V.int)) (q : Q (.bl (!decide (ns = ms))) H) : rNeD K (.ref a) (.ref b) H Q := by
  refine ⟨.list (ns.map PyData.int), .list (ms.map PyData.int), .lst ha (dp_ints ns), .lst hb (dp_ints ms), shaped_ints ns, shaped_ints ms, ?_⟩
  rw [PyData.eqv, eqv_ints]
  exact q
theorem ne_lst {K : PySem.W.Frag} {H : Hp} {a b : Addr} {ns : List Int} {Q : V → Hp → Prop} (ha : SqL K H a (ns.map V.int)) (hb : SqL K H b (ns.map V.int)) (q : Q (.bl false) H) : rNeD K (.ref a) (.ref b) H Q :=
  neD_lst ha hb (by rw [decide_eq_true rfl]; exact q)
theorem eq_lst {K : PySem.W.Frag} {H : Hp} {a b : Addr} {ns : List Int} {Q : V → Hp → Prop} (ha : SqL K H a (ns.map V.int)) (hb : SqL K H b (ns.map V.int)) (q : Q (.bl true) H) : rEqD K (.ref a) (.ref b) H Q :=
  eqD_lst ha hb (by rw [decide_eq_true rfl]; exact q)
/-! ### powers -/
def CPowW (i j : Int) : Prop := 0 ≤ j ∧ (Builtin.Int.intBits i : Int) * j ≤ 2 ^ 27
theorem op_powW {X : Cx} : OpR X (binaryOp .Pow) (rI CPowW fun i j => .int (i ^ j.toNat)) := opI fun _ _ _ _ _ _ _ hc q => pow_int hc.1 hc.2 q
/-! ### comprehensions whose parts leave what is tracked as it is: sel tells of each item what comes of it -/
theorem take_fm {α : Type} {l : List (Option α)} {i : Nat} {o : Option α} (h : l[i]? = some o) : (l.take (i + 1)).filterMap id = (l.take i).filterMap id ++ o.toList := by
  rw [List.take_add_one, h, List.filterMap_append]
  cases o <;> rfl
theorem fm_len {α : Type} (l : List (Option α)) (i : Nat) : ((l.take i).filterMap id).length ≤ l.length :=
  Nat.le_trans (List.length_filterMap_le _ _) (by rw [List.length_take]; omega)
theorem lc_selL {K : PySem.W.Frag} {a : Addr} {xs : List V} {j : Nat} {tt : TT} {te : TE} {vs : List Nat} {σ : L2.St} {H1 : Hp} {D : Addr} {Qd : Hp → Prop} (sel : List (Option V)) (nD : H1 D = none) (hS : SqL K H1 a xs) (hlen : sel.length = xs.length) (hz : xs.length < sizeLine)
    (hw : ∀ x, wipe ((wipe σ vs).set j (some x)) vs = wipe σ vs)
    (hs : ∀ (i : Nat) (x : V) (o : Option V) (H' : Hp), xs[i]? = some x → sel[i]? = some o → Same H1 H' → ∀ Qt : Option V → Hp → Prop, (∀ H'', Same H' H'' → Qt o H'') →
      tt ((wipe σ vs).set j (some x)) H' fun b H3 => if b = true then te ((wipe σ vs).set j (some x)) H3 fun y H4 => Qt (some y) H4 else Qt none H3)
    (hd : ∀ H', Same H1 H' → H' D = some (.lst (sel.filterMap id)) → Qd H') :
    ∃ W : Nat → Nat → Hp → Prop, (∃ m, W 0 m (upd H1 D (.lst []))) ∧ ∀ i m H, W i m H →
      ((Itl K a).stop i H ∧ Qd H) ∨ ((Itl K a).go i H ∧ ∃ Nx : Hp → Prop, (∀ H', Nx H' → ∃ m', m' < m ∧ W (i + 1) m' H') ∧ ∀ x H', (Itl K a).yld i H x H' → gName j x (wipe σ vs) H' fun σ2 H2 => wipe σ2 vs = wipe σ vs ∧ tt σ2 H2 fun b H3 =>
        if b = true then te σ2 H3 fun y H4 => ∃ acc, H4 D = some (.lst acc) ∧ acc.length < sizeLine ∧ Nx (upd H4 D (.lst (acc ++ [y]))) else Nx H3) := by
  refine lc_list (K := K) (a := a) (xs := xs) (fun i H => Same H1 H ∧ H D = some (.lst ((sel.take i).filterMap id))) ⟨same_upd nD, upd_same⟩ (fun i H _ p => p.1.seq hS) ?_ ?_
  · rintro i x H hx ⟨s, hD⟩
    refine ⟨hw x, ?_⟩
    have hi : i < sel.length := by rw [hlen]; exact (List.getElem?_eq_some_iff.mp hx).1
    have ho : sel[i]? = some sel[i] := List.getElem?_eq_getElem hi
    have hl : ((sel.take i).filterMap id).length < sizeLine := Nat.lt_of_le_of_lt (fm_len sel i) (by omega)
    refine hs i x sel[i] H hx ho s (fun o H4 => match o with
      | some y => ∃ acc, H4 D = some (.lst acc) ∧ acc.length < sizeLine ∧ (Same H1 (upd H4 D (.lst (acc ++ [y]))) ∧ (upd H4 D (.lst (acc ++ [y]))) D = some (.lst ((sel.take (i + 1)).filterMap id)))
      | none => Same H1 H4 ∧ H4 D = some (.lst ((sel.take (i + 1)).filterMap id))) fun H4 s4 => ?_
    generalize sel[i] = o at ho ⊢
    cases o with
    | some y =>
      refine ⟨_, s4 _ _ hD, hl, same_over nD (s.trans s4), ?_⟩
      rw [upd_same, take_fm ho]
      rfl
    | none =>
      refine ⟨s.trans s4, ?_⟩
      rw [take_fm ho, s4 _ _ hD]
      simp
  · rintro H ⟨s, hD⟩
    refine hd H s ?_
    rw [hD, ← hlen, List.take_length]
theorem lc_selR {lo : Int} {n : Nat} {j : Nat} {tt : TT} {te : TE} {vs : List Nat} {σ : L2.St} {H1 : Hp} {D : Addr} {Qd : Hp → Prop} (sel : List (Option V)) (nD : H1 D = none) (hlen : sel.length = n) (hz : n < sizeLine)
    (hw : ∀ x, wipe ((wipe σ vs).set j (some x)) vs = wipe σ vs)
    (hs : ∀ (i : Nat) (o : Option V) (H' : Hp), i < n → sel[i]? = some o → Same H1 H' → ∀ Qt : Option V → Hp → Prop, (∀ H'', Same H' H'' → Qt o H'') →
      tt ((wipe σ vs).set j (some (.int (lo + (i : Int))))) H' fun b H3 => if b = true then te ((wipe σ vs).set j (some (.int (lo + (i : Int))))) H3 fun y H4 => Qt (some y) H4 else Qt none H3)
    (hd : ∀ H', Same H1 H' → H' D = some (.lst (sel.filterMap id)) → Qd H') :
    ∃ W : Nat → Nat → Hp → Prop, (∃ m, W 0 m (upd H1 D (.lst []))) ∧ ∀ i m H, W i m H →
      ((Itr lo n).stop i H ∧ Qd H) ∨ ((Itr lo n).go i H ∧ ∃ Nx : Hp → Prop, (∀ H', Nx H' → ∃ m', m' < m ∧ W (i + 1) m' H') ∧ ∀ x H', (Itr lo n).yld i H x H' → gName j x (wipe σ vs) H' fun σ2 H2 => wipe σ2 vs = wipe σ vs ∧ tt σ2 H2 fun b H3 =>
        if b = true then te σ2 H3 fun y H4 => ∃ acc, H4 D = some (.lst acc) ∧ acc.length < sizeLine ∧ Nx (upd H4 D (.lst (acc ++ [y]))) else Nx H3) := by
  refine lc_range (lo := lo) (n := n) (fun i H => Same H1 H ∧ H D = some (.lst ((sel.take i).filterMap id))) ⟨same_upd nD, upd_same⟩ ?_ ?_
  · rintro i H hi' ⟨s, hD⟩
    refine ⟨hw _, ?_⟩
    have hi : i < sel.length := by rw [hlen]; exact hi'
    have ho : sel[i]? = some sel[i] := List.getElem?_eq_getElem hi
    have hl : ((sel.take i).filterMap id).length < sizeLine := Nat.lt_of_le_of_lt (fm_len sel i) (by omega)
    refine hs i sel[i] H hi' ho s (fun o H4 => match o with
      | some y => ∃ acc, H4 D = some (.lst acc) ∧ acc.length < sizeLine ∧ (Same H1 (upd H4 D (.lst (acc ++ [y]))) ∧ (upd H4 D (.lst (acc ++ [y]))) D = some (.lst ((sel.take (i + 1)).filterMap id)))
      | none => Same H1 H4 ∧ H4 D = some (.lst ((sel.take (i + 1)).filterMap id))) fun H4 s4 => ?_
    generalize sel[i] = o at ho ⊢
    cases o with
    | some y =>
      refine ⟨_, s4 _ _ hD, hl, same_over nD (s.trans s4), ?_⟩
      rw [upd_same, take_fm ho]
      rfl
    | none =>
      refine ⟨s.trans s4, ?_⟩
      rw [take_fm ho, s4 _ _ hD]
      simp
  · rintro H ⟨s, hD⟩
    refine hd H s ?_
    rw [hD, ← hlen, List.take_length]
theorem fm_some {α : Type} (ys : List α) : (ys.map some).filterMap id = ys := by
  rw [List.filterMap_map]
  show List.filterMap (fun y => some y) ys = ys
  exact List.filterMap_some
/-- no test: ys tells what comes of each item -/
theorem lc_mapL {K : PySem.W.Frag} {a : Addr} {xs : List V} {j : Nat} {te : TE} {vs : List Nat} {σ : L2.St} {H1 : Hp} {D : Addr} {Qd : Hp → Prop} (ys : List V) (nD : H1 D = none) (hS : SqL K H1 a xs) (hlen : ys.length = xs.length) (hz : xs.length < sizeLine)
    (hw : ∀ x, wipe ((wipe σ vs).set j (some x)) vs = wipe σ vs)
    (hs : ∀ (i : Nat) (x y : V) (H' : Hp), xs[i]? = some x → ys[i]? = some y → Same H1 H' → ∀ Qt : V → Hp → Prop, (∀ H'', Same H' H'' → Qt y H'') → te ((wipe σ vs).set j (some x)) H' Qt)
    (hd : ∀ H', Same H1 H' → H' D = some (.lst ys) → Qd H') :
    ∃ W : Nat → Nat → Hp → Prop, (∃ m, W 0 m (upd H1 D (.lst []))) ∧ ∀ i m H, W i m H →
      ((Itl K a).stop i H ∧ Qd H) ∨ ((Itl K a).go i H ∧ ∃ Nx : Hp → Prop, (∀ H', Nx H' → ∃ m', m' < m ∧ W (i + 1) m' H') ∧ ∀ x H', (Itl K a).yld i H x H' → gName j x (wipe σ vs) H' fun σ2 H2 => wipe σ2 vs = wipe σ vs ∧ tYes σ2 H2 fun b H3 =>
        if b = true then te σ2 H3 fun y H4 => ∃ acc, H4 D = some (.lst acc) ∧ acc.length < sizeLine ∧ Nx (upd H4 D (.lst (acc ++ [y]))) else Nx H3) := by
  refine lc_selL (K := K) (a := a) (xs := xs) (tt := tYes) (ys.map some) nD hS (by rw [List.length_map]; exact hlen) hz hw ?_ ?_
  · intro i x o H' hx ho s Qt qt
    rw [List.getElem?_map] at ho
    obtain ⟨y, hy, rfl⟩ := Option.map_eq_some_iff.mp ho
    show if true = true then te ((wipe σ vs).set j (some x)) H' (fun y H4 => Qt (some y) H4) else Qt none H'
    exact iteT (hs i x y H' hx hy s (fun y H4 => Qt (some y) H4) qt)
  · intro H' s hD
    rw [fm_some] at hD
    exact hd H' s hD
theorem lc_mapR {lo : Int} {n : Nat} {j : Nat} {te : TE} {vs : List Nat} {σ : L2.St} {H1 : Hp} {D : Addr} {Qd : Hp → Prop} (ys : List V) (nD : H1 D = none) (hlen : ys.length = n) (hz : n < sizeLine)
    (hw : ∀ x, wipe ((wipe σ vs).set j (some x)) vs = wipe σ vs)
    (hs : ∀ (i : Nat) (y : V) (H' : Hp), i < n → ys[i]? = some y → Same H1 H' → ∀ Qt : V → Hp → Prop, (∀ H'', Same H' H'' → Qt y H'') → te ((wipe σ vs).set j (some (.int (lo + (i : Int))))) H' Qt)
    (hd : ∀ H', Same H1 H' → H' D = some (.lst ys) → Qd H') :
    ∃ W : Nat → Nat → Hp → Prop, (∃ m, W 0 m (upd H1 D (.lst []))) ∧ ∀ i m H, W i m H →
      ((Itr lo n).stop i H ∧ Qd H) ∨ ((Itr lo n).go i H ∧ ∃ Nx : Hp → Prop, (∀ H', Nx H' → ∃ m', m' < m ∧ W (i + 1) m' H') ∧ ∀ x H', (Itr lo n).yld i H x H' → gName j x (wipe σ vs) H' fun σ2 H2 => wipe σ2 vs = wipe σ vs ∧ tYes σ2 H2 fun b H3 =>
        if b = true then te σ2 H3 fun y H4 => ∃ acc, H4 D = some (.lst acc) ∧ acc.length < sizeLine ∧ Nx (upd H4 D (.lst (acc ++ [y]))) else Nx H3) := by
  refine lc_selR (lo := lo) (n := n) (tt := tYes) (ys.map some) nD (by rw [List.length_map]; exact hlen) hz hw ?_ ?_
  · intro i o H' hi ho s Qt qt
    rw [List.getElem?_map] at ho
    obtain ⟨y, hy, rfl⟩ := Option.map_eq_some_iff.mp ho
    show if true = true then te ((wipe σ vs).set j (some (.int (lo + (i : Int))))) H' (fun y H4 => Qt (some y) H4) else Qt none H'
    exact iteT (hs i y H' hi hy s (fun y H4 => Qt (some y) H4) qt)
  · intro H' s hD
    rw [fm_some] at hD
    exact hd H' s hD
/-- an item of a list of whole numbers -/
theorem int_at {ns : List Int} {i : Nat} {x : V} (h : (ns.map V.int)[i]? = some x) : ∃ n, ns[i]? = some n ∧ x = .int n := by
  rw [List.getElem?_map] at h
  obtain ⟨n, hn, e⟩ := Option.map_eq_some_iff.mp h
  exact ⟨n, hn, e.symm⟩
/-! ### rules with the written part named (within a comprehension Lean doesn't find it) -/
section
variable {X : Cx}
theorem k_len (K : PySem.W.Frag) (h : X.K = K) : CallR X (.builtin "len") (fun xs H Q => ∃ p ys, xs = [.ref p] ∧ (SqL K H p ys ∨ SqT K H p ys) ∧ Q (.int ys.length) H) := by subst h; exact call_len_seq
theorem k_sum (K : PySem.W.Frag) (h : X.K = K) (hc : X.calm = true) : CallR X (.builtin "sum") (rSum K) := by subst h; exact cr_sum hc
theorem k_max (K : PySem.W.Frag) (h : X.K = K) (hc : X.calm = true) : CallR X (.builtin "max") (rMax K) := by subst h; exact cr_max hc
theorem k_min (K : PySem.W.Frag) (h : X.K = K) (hc : X.calm = true) : CallR X (.builtin "min") (rMin K) := by subst h; exact cr_min hc
theorem k_isi (K : PySem.W.Frag) (h : X.K = K) : CallR X (.builtin "isinstance") (rIsi K) := by subst h; exact call_isi
theorem k_listOf (K : PySem.W.Frag) (h : X.K = K) : CallR X (.type "list") (fun xs H Q => ∃ p ys, xs = [.ref p] ∧ (SqL K H p ys ∨ SqT K H p ys) ∧ ∀ l, H l = none → Q (.ref l) (upd H l (.lst ys))) := by subst h; exact call_list_of
theorem k_tupleOf (K : PySem.W.Frag) (h : X.K = K) : CallR X (.type "tuple") (fun xs H Q => ∃ p ys, xs = [.ref p] ∧ ((SqL K H p ys ∧ ∀ l, H l = none → Q (.ref l) (upd H l (.tup ys))) ∨ (SqT K H p ys ∧ Q (.ref p) H))) := by subst h; exact call_tuple_of
theorem k_ixL (K : PySem.W.Frag) (h : X.K = K) : IxR X (rIxL K) := by subst h; exact ix_list
theorem k_ixT (K : PySem.W.Frag) (h : X.K = K) : IxR X (rIxT K) := by subst h; exact ix_tup
theorem k_slL (K : PySem.W.Frag) (h : X.K = K) : SlR X (rSlL K) := by subst h; exact sl_list
theorem k_slT (K : PySem.W.Frag) (h : X.K = K) : SlR X (rSlT K) := by subst h; exact sl_tup
theorem k_eqD (K : PySem.W.Frag) (h : X.K = K) (hu : X.A.units + 64 < cLine) : OpR X (compareOp .Eq) (rEqD K) := by subst h; exact op_eqD hu
theorem k_neD (K : PySem.W.Frag) (h : X.K = K) (hu : X.A.units + 64 < cLine) : OpR X (compareOp .NotEq) (rNeD K) := by subst h; exact op_neD hu
theorem k_in (K : PySem.W.Frag) (h : X.K = K) : OpR X (compareOp .In) (rIn K false) := by subst h; exact op_in_seq
theorem k_notIn (K : PySem.W.Frag) (h : X.K = K) : OpR X (compareOp .NotIn) (rIn K true) := by subst h; exact op_notIn_seq
theorem k_piL (K : PySem.W.Frag) (h : X.K = K) {tg l : Expr} {tl : TE} (hl : PE X l tl) : PI X tg l (iList K tl) := by subst h; exact pi_list hl
theorem k_piT (K : PySem.W.Frag) (h : X.K = K) {tg l : Expr} {tl : TE} (hl : PE X l tl) : PI X tg l (iTup K tl) := by subst h; exact pi_tup hl
theorem k_piE (K : PySem.W.Frag) (h : X.K = K) {e : Expr} {ta : TA} {p pos tpos : Pos} {elts : List Expr} {kk : Nat} (hg : Gl X "enumerate") (hm : X.mg "enumerate" = none) (ha : PA X [e] ta) (hs : starEach [e] X.env = [(false, eval e X.env)] := by rfl) : PI X (.Tuple elts kk tpos) (.Call (.Name "enumerate" p) [e] [] pos) (iEnum K ta) := by subst h; exact pi_enum hg hm ha hs
theorem k_pgT (K : PySem.W.Frag) (h : X.K = K) {es : List Expr} {k : Nat} {t : TGs} {n : Nat} {pos : Pos} (hc : X.calm = true) (hp : PGs X es t) (hn : (assignEach es X.env).length = n := by rfl) (hst : (assignEach es X.env).findIdx? (·.1) = none := by rfl) : PG X (.Tuple es k pos) (gTup K n t) := by subst h; exact pg_tup hc hp hn hst
theorem k_pgL (K : PySem.W.Frag) (h : X.K = K) {es : List Expr} {k : Nat} {t : TGs} {n : Nat} {pos : Pos} (hc : X.calm = true) (hp : PGs X es t) (hn : (assignEach es X.env).length = n := by rfl) (hst : (assignEach es X.env).findIdx? (·.1) = none := by rfl) : PG X (.Tuple es k pos) (gUnl K n t) := by subst h; exact pg_unl hc hp hn hst
theorem k_fld (K : PySem.W.Frag) (h : X.K = K) {e : Expr} {f : Str} {pos : Pos} {ta : TE} (he : PE X e ta) (hb : attributeBase e f X.env (eval e X.env) = eval e X.env) : PE X (.Attribute e f pos) (tFld K ta f) := by subst h; exact pe_fld he hb
theorem k_index (K : PySem.W.Frag) (h : X.K = K) : MtR X "list.index" (rIndex K) := by subst h; exact mt_index
end
/-! ### small things -/
theorem fresh {H : Hp} {p : Addr} (o : HO) (np : H p = none) : ∃ H', upd H p o = H' ∧ Same H H' ∧ H' p = some o := ⟨_, rfl, same_upd np, upd_same⟩
theorem cut_take (xs : List V) (k : Nat) : cutV xs none (some (k : Int)) = xs.take k := by
  unfold cutV
  rw [HT.sIx_nat, HT.sIx_none, List.drop_zero, Nat.sub_zero]
  rcases Nat.le_total k xs.length with h | h
  · rw [Nat.min_eq_left h]
  · rw [Nat.min_eq_right h, List.take_of_length_le h, List.take_length]
theorem cut_drop (xs : List V) (k : Nat) : cutV xs (some (k : Int)) none = xs.drop k := by
  unfold cutV
  rw [HT.sIx_nat, HT.sIx_none]
  rcases Nat.le_total k xs.length with h | h
  · rw [Nat.min_eq_left h, List.take_of_length_le (by rw [List.length_drop]; exact Nat.le_refl _)]
  · rw [Nat.min_eq_right h, List.drop_length, List.drop_of_length_le h, List.take_nil]
theorem rep_ints (k : Nat) (ks : List Int) : (List.replicate k (ks.map V.int)).flatten = ((List.replicate k ks).flatten).map V.int := by
  rw [List.map_flatten, List.map_replicate]
theorem rep_len {α : Type} (k : Nat) (ks : List α) : ((List.replicate k ks).flatten).length = k * ks.length := by
  induction k with
  | zero => simp
  | succ k ih => rw [List.replicate_succ, List.flatten_cons, List.length_append, ih, Nat.succ_mul]; omega
theorem rep_mem {α : Type} {k : Nat} {ks : List α} {x : α} (h : x ∈ (List.replicate k ks).flatten) : x ∈ ks := by
  obtain ⟨l, hl, hx⟩ := List.mem_flatten.mp h
  rw [(List.mem_replicate.mp hl).2] at hx
  exact hx
/-! ### comprehensions that make new things: R tells what is known of the i-th; D is no part of it -/
def Off (D : Addr) (H H' : Hp) : Prop := ∀ b o, b ≠ D → H b = some o → H' b = some o
def RelPv (R : Nat → V → Hp → Prop) (H1 : Hp) (D : Addr) (i : Nat) (H : Hp) : Prop := ∃ ys : List V, Same H1 H ∧ H D = some (.lst ys) ∧ ys.length = i ∧ ∀ (k : Nat) (y : V), ys[k]? = some y → R k y H
theorem lc_relR {lo : Int} {n : Nat} {j : Nat} {te : TE} {vs : List Nat} {σ : L2.St} {H1 : Hp} {D : Addr} {Qd : Hp → Prop} (R : Nat → V → Hp → Prop) (nD : H1 D = none) (hz : n < sizeLine)
    (mono : ∀ i y H H', Off D H H' → R i y H → R i y H')
    (hw : ∀ x, wipe ((wipe σ vs).set j (some x)) vs = wipe σ vs)
    (hs : ∀ (i : Nat) (H' : Hp) (xs : List V), i < n → Same H1 H' → H' D = some (.lst xs) → ∀ Qt : V → Hp → Prop, (∀ y H'', Same H' H'' → R i y H'' → Qt y H'') → te ((wipe σ vs).set j (some (.int (lo + (i : Int))))) H' Qt)
    (hd : ∀ H' ys, Same H1 H' → H' D = some (.lst ys) → ys.length = n → (∀ (i : Nat) (y : V), ys[i]? = some y → R i y H') → Qd H') :
    ∃ W : Nat → Nat → Hp → Prop, (∃ m, W 0 m (upd H1 D (.lst []))) ∧ ∀ i m H, W i m H →
      ((Itr lo n).stop i H ∧ Qd H) ∨ ((Itr lo n).go i H ∧ ∃ Nx : Hp → Prop, (∀ H', Nx H' → ∃ m', m' < m ∧ W (i + 1) m' H') ∧ ∀ x H', (Itr lo n).yld i H x H' → gName j x (wipe σ vs) H' fun σ2 H2 => wipe σ2 vs = wipe σ vs ∧ tYes σ2 H2 fun b H3 =>
        if b = true then te σ2 H3 fun y H4 => ∃ acc, H4 D = some (.lst acc) ∧ acc.length < sizeLine ∧ Nx (upd H4 D (.lst (acc ++ [y]))) else Nx H3) := by
  refine lc_range (lo := lo) (n := n) (RelPv R H1 D) ⟨[], same_upd nD, upd_same, rfl, fun k y h => by simp at h⟩ ?_ ?_
  · rintro i H hi ⟨ys, s, hD, hl, hR⟩
    refine ⟨hw _, ?_⟩
    show if true = true then te ((wipe σ vs).set j (some (.int (lo + (i : Int))))) H (fun y H4 => ∃ acc, H4 D = some (.lst acc) ∧ acc.length < sizeLine ∧ RelPv R H1 D (i + 1) (upd H4 D (.lst (acc ++ [y])))) else RelPv R H1 D (i + 1) H
    refine iteT (hs i H ys hi s hD _ fun y H4 s4 r4 => ?_)
    refine ⟨ys, s4 _ _ hD, by omega, ys ++ [y], same_over nD (s.trans s4), upd_same, by rw [List.length_append, hl]; rfl, fun k z hz => ?_⟩
    have off : Off D H4 (upd H4 D (.lst (ys ++ [y]))) := fun b o nb h => by rw [upd_ne nb]; exact h
    by_cases hk : k < ys.length
    · rw [List.getElem?_append_left hk] at hz
      exact mono k z H _ (fun b o nb h => off b o nb (s4 b o h)) (hR k z hz)
    · rw [List.getElem?_append_right (by omega)] at hz
      have hk2 : k - ys.length = 0 := by
        have h2 := (List.getElem?_eq_some_iff.mp hz).1
        rw [List.length_singleton] at h2
        omega
      rw [hk2] at hz
      cases hz
      have ek : k = i := by omega
      rw [ek]
      exact mono i y H4 _ off r4
  · rintro H ⟨ys, s, hD, hl, hR⟩
    exact hd H ys s hD hl hR
/-! ### ways that are told by whole numbers -/
theorem iteDT {p A B : Prop} [Decidable p] (hp : p) (h : A) : if decide p = true then A else B := by rw [decide_eq_true hp]; exact iteT h
theorem iteDF {p A B : Prop} [Decidable p] (hp : ¬ p) (h : B) : if decide p = true then A else B := by rw [decide_eq_false hp]; exact iteF h
theorem iteNT {p A B : Prop} [Decidable p] (hp : ¬ p) (h : A) : if (!decide p) = true then A else B := by rw [decide_eq_false hp]; exact iteT h
theorem iteNF {p A B : Prop} [Decidable p] (hp : p) (h : B) : if (!decide p) = true then A else B := by rw [decide_eq_true hp]; exact iteF h
theorem iteET {a b : Int} {A B : Prop} [Decidable (V.int a = V.int b)] (hp : a = b) (h : A) : if decide (V.int a = V.int b) = true then A else B := iteDT (congrArg V.int hp) h
theorem iteEF {a b : Int} {A B : Prop} [Decidable (V.int a = V.int b)] (hp : ¬ a = b) (h : B) : if decide (V.int a = V.int b) = true then A else B := iteDF (fun z => hp (V.int.inj z)) h
theorem iteENT {a b : Int} {A B : Prop} [Decidable (V.int a = V.int b)] (hp : ¬ a = b) (h : A) : if (!decide (V.int a = V.int b)) = true then A else B := iteNT (fun z => hp (V.int.inj z)) h
theorem iteENF {a b : Int} {A B : Prop} [Decidable (V.int a = V.int b)] (hp : a = b) (h : B) : if (!decide (V.int a = V.int b)) = true then A else B := iteNF (congrArg V.int hp) h
theorem iteNtt {A B : Prop} (h : B) : if (!true) = true then A else B := h
theorem iteNff {A B : Prop} (h : A) : if (!false) = true then A else B := h
/-- 1 or 0 of a comparison -/
theorem int_if {p : Prop} [Decidable p] : (if decide p = true then (1 : Int) else 0) = if p then 1 else 0 := by by_cases h : p <;> simp [h]
end Pre

namespace My
open PySem PySem.Spec PyProof.Rows L2
/-! ### own errors whose __init__ says super().__init__(value); self.value = value -/
namespace Sup
open PySem.W PySem.Calls
section
variable {prog : Program} {w : World} {A : Around} {E : Value → Shared → Prop} {h : Heap} {g : Array GenState} {d : Drawn} {t : Nat} {os : OsState}
variable {nm q : Str} {C N : Addr} {bs bm : List Value} {hdct : Bool} {sn : List Str} {sub : List Value} {ab : Bool} {col : Option Bool} {dd : Option Addr} {k0 k1 k2 k3 k5 : Option Value}
theorem call_bwV {u e t0 : Addr} {rest : List Value} {Q : Value → Shared → Prop}
    (hC : h.get? C = some (excClassObj nm q C N bs bm hdct sn sub ab col dd k0 k1 k2 k3 k5 "ValueError.__new__")) (he : h.get? e = some (HandSPX.excO C t0)) (hu : h.get? u = some (kxs_mw "ValueError.__init__" e)) (hrest : rest.length ≤ sizeLine)
    (hq : ∀ h' t1, (∀ b o, b ≠ e → h.get? b = some o → h'.get? b = some o) → h'.get? e = some (HandSPX.excO C t1) → Q .none ⟨h', g, d, t, os⟩) :
    wpAny (model prog w) A (call (.ref u) rest) Q E ⟨h, g, d, t, os⟩ := by
  refine wpAny_call (codeAny_of_tree ?_)
  show wpAny _ A.in1 (callAny (.ref u) ⟨rest, []⟩) _ _ _
  simp only [callAny]
  refine wpAny_bind (wpAny_load hu ?_)
  simp only [kxs_mw, show (Value.type "method-wrapper" == Value.type "method" || Value.type "method-wrapper" == Value.type "builtin_function_or_method" || Value.type "method-wrapper" == Value.type "method-wrapper") = true by decide, if_true]
  refine W.KFB.if_so (by decide) ?_
  refine wpAny_bind (ESX.check_bound F.excBase_ValueError hC he rfl ?_)
  refine wpAny_bind (wpAny_pure (wpAny_pure ?_))
  refine ⟨Code.quiet_builtin _ (by decide +kernel), codeAny_builtin F.excBase_ValueError.initEntry ?_⟩
  rw [Around.under_plainId F.excBase_ValueError.init.plain _]
  exact exc_init_tree (cls := .ref C) (t0 := t0) (dv := none) (c2 := .none) (c3 := .none) (b4 := .bool false) he hrest fun h' k e' _ => hq h' _ k e'
end
/-- the file of the program: what its code objects are asked for -/
class PF (P : Program) (file : Str) : Prop where
  file : ((P.main.file : Str) == file) = true
  top : (P.main.scope.names.lookup ("super" : Str)).isSome = false
/-- what the written part says of such a class C, named x, and its __init__ at fI -/
structure SupC (K : Frag) (file x : Str) (st : Stmt) (C fI : Addr) (fd : FuncData) : Prop where
  T : OexC K C
  ex : ∃ (oc : Value) (od : Option Addr) (dV kV doc pm : Value) (an : Option Addr) (c cc : Addr) (ct : Value) (osl : Array (Option Value)),
    fd = ksFn "__init__" (x ++ (".__init__" : Str)) (defArgs st) (defBody st) (defScope st) dV kV doc pm an (.ref c) ct cc ∧ K.lookup fI = some ⟨oc, od, .func fd, osl⟩ ∧ codeIn K (.ref c) (x ++ (".__init__" : Str)) = true ∧
    (∃ (ccl : Value) (cdd : Option Addr) (vs : Array Value) (ccs : Array (Option Value)) (tf : Tok), K.lookup c = some ⟨ccl, cdd, .fields vs, ccs⟩ ∧ vs[2]? = some (.str file tf)) ∧ (∃ (cl : Value) (cld : Option Addr) (csl : Array (Option Value)), K.lookup cc = some ⟨cl, cld, .cell (some (.ref C)), csl⟩)
  sup : ks_superIn K C C "__init__" = some (some (.builtin "ValueError.__init__"))
  subV : subIn K (.ref C) (.type "ValueError") = some true
  subC : mroIn K C (.ref C) = some true
  opq : nsIn K cStatics "thirdparty.any" = some none
  nov : findIn K (.ref C) "value" = some none
/-- the body's shape -/
def SupBody (st : Stmt) : Prop := ∃ p0 p1 p2 p3 p4 p5 p6 p7 p8 p9 : Pos,
  defBody st = [.Expr (.Call (.Attribute (.Call (.Name "super" p0) [] [] p1) "__init__" p2) [.Name "value" p3] [] p4) p5, .Assign [.Attribute (.Name "self" p6) "value" p7] (.Name "value" p8) p9] ∧
  ((defArgs st).posonlyargs ++ (defArgs st).args).head?.map (·.arg) = some ("self" : Str) ∧
  ∀ env : Env, ∃ pl : Sem Bool, eval (.Call (.Attribute (.Call (.Name "super" p0) [] [] p1) "__init__" p2) [.Name "value" p3] [] p4) env = (do
      let ov ← attributeBase (.Call (.Name "super" p0) [] [] p1) "__init__" env (eval (.Call (.Name "super" p0) [] [] p1) env)
      standAt p2.atName
      let (f, first) ← holding [ov] (getMethod ov "__init__" pl)
      callWith p4 f first (backTo p4 (starEach [.Name "value" p3] env)) [])
def sp_exc_init (C : Addr) : Sp := fun vs H Q _ => ∃ (a : Addr) (v : V), vs = [.ref a, v] ∧ H a = some (exo a C none) ∧ ∀ d, H d = none → d ≠ a → Q .non (upd (upd H d (exd d [("value", v)])) a (exo a C (some d)))
section
variable {P : Program} {w : World} {K : Frag} {mg : Str → Option Value} {base : Heap} {CX : CXT} {file x : Str} {st : Stmt} {C fI : Addr} {fd : FuncData}
theorem fn_sup [pf : PF P file] (S : NdefX.NScope ["self", "value", "__class__"] ["self", "value"] ["__class__"] (defScope st)) (hgs : (defScope st).names.lookup ("super" : Str) = some .globalImplicit) (hb0 : SupBody st) (F : SupC K file x st C fI fd) (nosup : mg ("super" : Str) = none) :
    FnOk P w K mg base CX 1 fI fd ["self", "value"] (sp_exc_init C) := by
  refine ⟨fun vs H Q E h => by obtain ⟨a, v, rfl, _⟩ := h; rfl, fun A outer s H args us vs Q E hr e0 hb rv hsp => ?_⟩
  obtain ⟨a, v, rfl, ha, q⟩ := hsp
  obtain ⟨oc, od, dV, kV, doc, pm, an, c, cc, ct, osl, rfl, lk, hcd, ⟨ccl, cdd, cvs, ccs, tf, lkc, hvs⟩, cl, cld, csl, lkcc⟩ := F.ex
  obtain ⟨p0, p1, p2, p3, p4, p5, p6, p7, p8, p9, hbody, hself, hev⟩ := hb0
  obtain ⟨pl, hpl⟩ := hev (NdefX.envF ⟨"__init__", x ++ (".__init__" : Str), defArgs st, defBody st, defScope st, [("__class__", cc)], c⟩ fI s.heap.objs.size)
  have hin : K.In s.heap := e0.mod.kin.keeps fun b o z => (e0.bs b o z).1
  have lim : s.heap.NoLimit := e0.mod.nolimit.keeps fun b o e => (e0.bs b o e).1
  let Fn : NdefX.NF := ⟨"__init__", x ++ (".__init__" : Str), defArgs st, defBody st, defScope st, [("__class__", cc)], c⟩
  refine codeAny_call_function hr.depth (hin _ _ lk) rfl S.co S.gen rfl (codeRec_of hin hcd) (hb _ _ _ _ ?_)
  refine wpAny_newFunctionEnv S.nocell (fun ⟨n, _⟩ hy => S.par n (List.of_mem_zip hy).1) (fun h₁ hns hsb => ⟨lim.fresh _ hsb, ?_⟩) S.kind
  show codeAny _ _ (.func (defBody st) (NdefX.envF Fn fI s.heap.objs.size)) _ _
  have kp : ∀ b o, s.heap.get? b = some o → h₁.get? b = some o := fun b o e => hsb.extBut b o (Nat.ne_of_lt (Heap.lt_size e)) (Heap.get?_push_of_some _ e)
  have hcc : ∀ y c', ([("__class__", cc)] : List (Str × Addr)).lookup y = some c' → y = ("__class__" : Str) ∧ c' = cc := fun y c' e => by
    by_cases h : y = ("__class__" : Str)
    · subst h
      cases e
      exact ⟨rfl, rfl⟩
    · rw [List.lookup_cons, show (y == ("__class__" : Str)) = false by simpa using h] at e
      cases e
  have cells : NdefX.CellsAt Fn.cl ["__class__"] [some (.ref C)] s.heap H := {
    len := rfl
    all := fun y c' e => by
      obtain ⟨_, rfl⟩ := hcc y c' e
      exact ⟨(e0.bs _ _ (e0.mod.kin _ _ lkcc)).2, _, _, hin _ _ lkcc, rfl⟩
    inj := fun y z c' e1 e2 => by rw [(hcc y c' e1).1, (hcc z c' e2).1]
    has := fun i y e => by
      cases i with
      | zero =>
        cases e
        refine ⟨cc, rfl, fun u hu => ?_⟩
        cases hu
        exact ⟨.ref C, rfl, _, hin _ _ lkcc, rfl⟩
      | succ i => simp at e }
  have I : Inv (NdefX.ncx CX P w K mg base ["self", "value", "__class__"] Fn fI A outer s H E) [] (NdefX.startF ["self", "value", "__class__"] [.ref a, v] [some (.ref C)]) H { s with heap := h₁, toks := s.toks + (["self", "value"].zip us).length } := NdefX.inv_startN S hr.hd e0 rfl rv cells hns kp
  obtain ⟨nm, q0, N, bs, bm, sn, sub, ab, col, dd, k0, k1, k2, k3, k5, hC, hbm⟩ := F.T.cls
  have hcl : clsIn K C = some { name := nm, bases := bs, mro := .ref C :: bm, ns := N, qualname := q0, hasDict := true, slotNames := sn, subclasses := sub, abstract := ab, collection := col, hasDel := false } := by unfold clsIn; rw [hC] <;> rfl
  refine ks_codeAny_funcAt ?_
  rw [hbody]
  obtain ⟨ar, hp, har⟩ : ∃ ar, ((defArgs st).posonlyargs ++ (defArgs st).args).head? = some ar ∧ ar.arg = ("self" : Str) := by
    cases e : ((defArgs st).posonlyargs ++ (defArgs st).args).head? with
    | none => rw [e] at hself; cases hself
    | some ar => rw [e] at hself; exact ⟨ar, rfl, Option.some.inj hself⟩
  have X1 : K.In h₁ := hin.keeps kp
  obtain ⟨ual, rfl⟩ : ∃ u1, us = [.ref a, u1] := by
    cases rv with
    | cons r1 r2 => cases r2 with
      | cons r3 r4 => cases r4; cases r1; exact ⟨_, rfl⟩
  refine ks_wpAt_execs_cons (ks_wpAt_Expr_any (ks_wpAt_MethodCall (pl := pl) ?_ hpl) I.quiet)
  refine ks_wpAt_super_base (env := NdefX.envF Fn fI s.heap.objs.size) hgs (S.frk _ (by simp)) (by decide) rfl (X1 _ _ lk) rfl hp rfl (X1 _ _ lkc) rfl hvs pf.file pf.top ?_
  obtain ⟨mb, hb1, hb2⟩ := I.mod.blt
  refine ks_loadName_global S.kind hgs (loadGlobal_builtin (env := NdefX.envF Fn fI s.heap.objs.size) (I.mod.glob.keeps I.bk) nosup (hb1.keeps I.bk) ((hb2 _ (by decide)).trans (show bootBuiltins "super" = some (.type "super") by decide +kernel)) ⟨rfl, ?_⟩)
  refine wpAny_loadName_free S.kind (S.frk _ (by simp)) rfl ⟨_, X1 _ _ lkcc, rfl⟩ ?_
  rw [har]
  refine wpAny_loadName_local S.kind (S.par _ (by simp)) hns rfl ?_
  obtain ⟨t1, he0⟩ := exo_at e0.hok ha
  have he1 := kp _ _ he0
  refine ks_wpAny_isType_cls (X1 _ _ hC) rfl ⟨rfl, ?_⟩
  refine ks_wpAny_call_super (X1 _ _ hC) rfl he1 rfl (fun c e => by cases e) (looks_mroIn X1 F.subC) (fun h2 hso k2 => ?_)
  have X2 : K.In h2 := X1.keeps k2
  have he2 := k2 _ _ he1
  have IA : InstAt h2 a (HandSPX.excO C t1) C none := ⟨he2, rfl, rfl, trivial⟩
  have hf := F.sup
  unfold ks_superIn at hf
  rw [hcl] at hf
  refine kxs_getMethod kxs_ValueError hso (looks_opaque X2 F.opq) (l₀ := .ref C :: bm) (fun A Q E s k q => wpAny_bind ((looks_clsIn X2 hcl) A _ E s k (wpAny_pure q))) rfl X2 hf (IA.type.andThen (looks_subIn X2 F.subV)) (ks_ne X2 IA hcl) (by decide) ?_
  have k3 : ∀ b o, h₁.get? b = some o → (h2.push (kxs_mw "ValueError.__init__" a)).get? b = some o := fun b o e => Heap.get?_push_of_some _ (k2 b o e)
  have I3 := I.kept (h' := h2.push (kxs_mw "ValueError.__init__" a)) (t' := s.toks + (["self", "value"].zip [Value.ref a, ual]).length + 1) k3
  refine kxs_callWith (i := "ValueError.__init__") (x := a) rfl ?_
  rw [show starEach [Expr.Name "value" p3] (NdefX.envF Fn fI s.heap.objs.size) = (false, eval (.Name "value" p3) (NdefX.envF Fn fI s.heap.objs.size)) :: starEach [] (NdefX.envF Fn fI s.heap.objs.size) from rfl]
  refine evalArgs_plain ?_
  refine spliced_cons ?_
  obtain ⟨m, hn, hl⟩ := I3.loc
  obtain ⟨u, ru, l⟩ := hl 1 "value" v rfl rfl (.inl (S.par _ (by simp)))
  have fin : wpAny (model P w) (A.deeper (NdefX.envF Fn fI s.heap.objs.size)) (eval (.Name "value" p3) (NdefX.envF Fn fI s.heap.objs.size)) (fun z s' => z = u ∧ s' = { s with heap := h2.push (kxs_mw "ValueError.__init__" a), toks := s.toks + (["self", "value"].zip [Value.ref a, ual]).length + 1 }) (fun e s' =>
      wpAny (model P w) (A.deeper (NdefX.envF Fn fI s.heap.objs.size)) (leaving (NdefX.envF Fn fI s.heap.objs.size) e)
        (fun x s'' => CR CX outer P w H s Q E (Except.error e) s'')
        (fun e' s'' => CR CX outer P w H s Q E (Except.error e') s'') s') { s with heap := h2.push (kxs_mw "ValueError.__init__" a), toks := s.toks + (["self", "value"].zip [Value.ref a, ual]).length + 1 } := by
    rcases l with ⟨hk, hm⟩ | ⟨hk, _⟩
    · exact wpAny_Name (wpAny_loadName_local S.kind hk hn hm ⟨rfl, rfl⟩) (by decide)
    · have hv : (defScope st).names.lookup ("value" : Str) = some .local := S.par _ (by simp)
      rcases hk with hk | hk <;> exact absurd (hv.symm.trans hk) (by intro z; cases z)
  refine wpAny_mono fin (fun z s' hz => ?_) fun _ _ z => z
  obtain ⟨rfl, rfl⟩ := hz
  refine spliced_nil ⟨Heap.get?_push_at rfl rfl, ?_⟩
  refine call_bwV (e := a) (t0 := t1) (X2.keeps (fun b o e => Heap.get?_push_of_some _ e) _ _ hC) (Heap.get?_push_of_some _ he2) (Heap.get?_push_at rfl rfl) (by show 1 ≤ sizeLine; decide) fun h' t2 k4 hx => ?_
  refine wpAt_of_wpAny ?_
  have J := I3.write (t' := s.toks + (["self", "value"].zip [Value.ref a, ual]).length + 1) (x := a) (e := a) (o := exo a C none) (by rw [ha]; exact True.intro) (.inl rfl) k4 ⟨_, hx⟩ (exo_ok hx)
  have eu : upd H a (exo a C none) = H := by
    funext b
    by_cases hb : b = a
    · rw [hb, upd_same, ha]
    · rw [upd_ne hb]
  rw [eu] at J
  have ht : PSs (NdefX.ncx CX P w K mg base ["self", "value", "__class__"] Fn fI A outer s H E) [.Assign [.Attribute (.Name "self" p6) "value" p7] (.Name "value" p8) p9] (tOst K "value" (tVar 0) (tVar 1)) :=
    pss_one (ps_ost (pe_var (i := 0) rfl (.inl (S.par _ (by simp)))) (pe_var (i := 1) rfl (.inl (S.par _ (by simp)))))
  refine wpAny_mono (ht.run [] _ _ H { nx := fun _ H' => Q .non H', rt := Q } J ⟨v, rfl, .ref a, rfl, a, C, rfl, F.T, F.nov, .inl ⟨ha, fun dx n ne => q dx n ne⟩⟩) (fun fl s' hs => ?_) fun e s' hs => hs
  have fin : ∀ {σ' : L2.St} {H' : Hp} {v : V} {u : Value}, Inv (NdefX.ncx CX P w K mg base ["self", "value", "__class__"] Fn fI A outer s H E) [] σ' H' s' → L2.RelV v u → Q v H' → CE outer P w H s Q u s' :=
    fun {σ' H' v u} J rv q => ⟨v, H', J.os, J.bare, J.base, J.hok, rv, q⟩
  cases fl with
  | ret u =>
    obtain ⟨v, σ', H', J, rv, q⟩ := hs
    exact fin J rv q
  | next =>
    obtain ⟨σ', H', J, q⟩ := hs
    exact fin (v := V.non) (u := Value.none) J rfl q
  | brk =>
    obtain ⟨_, _, _, q⟩ := hs
    exact False.elim q
  | cont =>
    obtain ⟨_, _, _, q⟩ := hs
    exact False.elim q
end
end Sup
end My

namespace My
open PySem PySem.Spec PyProof.Rows L2
/-! ### such an error raised; its value in an except suite; several clauses with a name -/
/-- what is left to be shown behind the making of such an error with the value v -/
theorem mk_sup {C : Addr} {v : V} {H1 : Hp} {Q : XK} (q : ∀ d, H1 d = none → Q (.ref C) (some d) (upd H1 d (.xd [("value", v)]))) : [v].length ≤ 1000 ∧ ∀ a, H1 a = none → Sup.sp_exc_init C (.ref a :: ([v] ++ [])) (upd H1 a (exo a C none))
    (fun w H2 => w = .non ∧ ∃ (d : Addr) (fs : List (Str × V)), H2 a = some (exo a C (some d)) ∧ H2 d = some (exd d fs) ∧ H1 d = none ∧ Q (.ref C) (some d) (upd (del H2 a) d (.xd fs))) (fun _ _ _ => False) := by
  refine ⟨by show 1 ≤ 1000; decide, fun a na => ⟨a, v, rfl, upd_same, fun d nd da => ⟨rfl, d, [("value", v)], upd_same, ?_, ?_, ?_⟩⟩⟩
  · rw [upd_ne da, upd_same]
  · rw [upd_ne da] at nd
    exact nd
  · have hn : H1 d = none := by rw [upd_ne da] at nd; exact nd
    have e : upd (del (upd (upd (upd H1 a (exo a C none)) d (exd d [("value", v)])) a (exo a C (some d))) a) d (.xd [("value", v)]) = upd H1 d (.xd [("value", v)]) := by
      funext b
      by_cases hb : b = d
      · rw [hb, upd_same, upd_same]
      · rw [upd_ne hb, upd_ne hb]
        by_cases hba : b = a
        · rw [hba, del_same, na]
        · rw [del_ne hba, upd_ne hba, upd_ne hb, upd_ne hba]
    rw [e]
    exact q d hn
/-- the reading of err.f, the class of err told there -/
def tXfA (K : PySem.W.Frag) (a : Addr) (cls : Value) (d : Option Addr) (f : Str) (te : TE) : TE := fun σ H Q => te σ H fun x H1 => x = .ref a ∧ ∃ C : Addr, cls = .ref C ∧ XfC K C ∧ PySem.W.findIn K (.ref C) f = some none ∧ ∃ (dd : Addr) (fs : List (Str × V)) (v : V), d = some dd ∧ H1 dd = some (.xd fs) ∧ fs.lookup f = some v ∧ Q v H1
theorem pe_xfA {X : Cx} {a : Addr} {oe : Obj} {cls : Value} {d : Option Addr} {pn : List (Addr × Obj)} {e : Expr} {te : TE} {pos : Pos} {n : Str}
    (hz : Zc cls d oe) (hf : ∃ vs, oe.data = .fields vs) (he : PE (X.suite a ((a, oe) :: pn)) e te) (hb : attributeBase e n X.env (eval e X.env) = eval e X.env := by rfl) :
    PE (X.suite a ((a, oe) :: pn)) (.Attribute e n pos) (tXfA X.K a cls d n te) := by
  refine ⟨fun pins s σ H Q I h => ?_⟩
  refine attr_of hb (thn (he.run pins s σ H _ I h) fun u s1 hh => ?_)
  obtain ⟨x, H1, I1, rx, ex, C, ec, T, hno, dd, fs, v, ed, ea, l, q⟩ := hh
  subst ex
  obtain rfl : u = Value.ref a := rx
  subst ec
  subst ed
  obtain ⟨ha, _⟩ := I1.pin (a, oe) (List.mem_append_left _ List.mem_cons_self)
  obtain ⟨vs, hd⟩ := hf
  have hx : ObjOk X.prog X.w H1 s1.heap dd (.xd fs) := I1.hok dd _ ea
  obtain ⟨mA, hns, hr⟩ := hx
  obtain ⟨od, ho, hl⟩ := lookIn_ns hns
  obtain ⟨u, hu, ru⟩ := RelO.some_of (v := v) (o := mA n) (by rw [← l]; exact hr n)
  have J : PySem.W.InstAt s1.heap a oe C (some od) := ⟨ha, hz.1, by unfold PySem.W.notCls; rw [hd] <;> rfl, by rw [hz.2]; exact ho⟩
  exact HandSPX.exc_get I1.kIn J T.ga T.gg T.exC (PySem.W.findObj_own T.hdC hno rfl (by rw [hl, hu])) (handed_of ru) ⟨v, H1, I1.tok _, ru, q⟩
/-- what the clauses 'except x as n' wish of an exception of the body, one after the other; slot i is n's -/
def wManyAs (K : PySem.W.Frag) (i : Nat) (Wout : WX) (D : Ends) : List (Value × (Addr → Value → Option Addr → TS)) → WX
  | [] => Wout
  | (c, ts) :: r => fun cls d σ H => ∃ b, PySem.W.exmOne K cls c = some b ∧ (b = true → ∀ a, H a = none → ts a cls d { nx := fun σ' H' => D.nx (σ'.set i none) H', rt := D.rt, bk := fun σ' H' => D.bk (σ'.set i none) H', ct := fun σ' H' => D.ct (σ'.set i none) H' } (σ.set i (some (.ref a))) H) ∧
    (b = false → wManyAs K i Wout D r cls d σ H)
inductive HdsAs (X : Cx) (n : Str) : List ExceptHandler → List (Value × (Addr → Value → Option Addr → TS)) → Prop
  | nil : HdsAs X n [] []
  | cons {x : Str} {c : Value} {ts : Addr → Value → Option Addr → TS} {b₀ : Stmt} {suite : List Stmt} {np pos' : Pos} {hds : List ExceptHandler} {l : List (Value × (Addr → Value → Option Addr → TS))} (hc : Names X x c)
      (hsu : ∀ (a : Addr) (oe : Obj) (cls : Value) (d : Option Addr) (pn : List (Addr × Obj)), Zc cls d oe → (∃ vs, oe.data = .fields vs) → PSs (X.suite a ((a, oe) :: pn)) (b₀ :: suite) (ts a cls d)) (r : HdsAs X n hds l) :
      HdsAs X n (.ExceptHandler (some (.Name x np)) (some n) (b₀ :: suite) pos' :: hds) ((c, ts) :: l)
section
variable {X : Cx} {n : Str} {i : Nat} {body : List Stmt} {h₀ : ExceptHandler} {hds : List ExceptHandler} {l : List (Value × (Addr → Value → Option Addr → TS))} {pos : Pos} {tb : WX → TS} {Wout : WX}
theorem ps_try_manyAs (hs : X.stack = X.env :: X.outer) (hf : X.env.frame = some X.env.locals) (hN : X.N.Nodup) (hi : X.N[i]? = some n) (hln : X.env.kindOf n = some .local) (tk : Takes X Wout)
    (hb : ∀ (W : WX) (pn : List (Addr × Obj)) (xe : Value → Shared → Prop), Takes (X.tr pn xe) W → PassesOwn (model X.prog X.w) X.A X.env xe → PSs (X.tr pn xe) body (tb W))
    (hh : HdsAs X n (h₀ :: hds) l) : PS X (.Try body (h₀ :: hds) [] [] pos) (fun D σ H => tb (wManyAs X.K i Wout D l) D σ H) := by
  refine ⟨fun pins s σ H D I h => ?_⟩
  have ok := I.ok
  have hfr : X.A.frames = some (X.env :: X.outer) := by rw [ok.frames, hs]
  have hloc : Loc X.env.scope n := .inl hln
  refine wpAny_Try_except ?_
  refine wpAny_mono ((hb (wManyAs X.K i Wout D l) (X.pn ++ pins) (fun e s₁ => wpAny (model X.prog X.w) X.A (noteFrame e X.env) (fun _ s₂ => wpAny (model X.prog X.w) X.A (setFlight e none) (fun _ s₃ =>
    wpAny (model X.prog X.w) X.A (handleBy e X.env (h₀ :: hds)) (SP X pins D) X.xe s₃) X.xe s₂) X.xe s₁) (fun u s' xx => ?_) PassesOwn.looking).run [] s σ H D (I.toTry _) h) (fun f s1 hsp => ?_) (fun e s1 he => he)
  · -- the catch
    obtain ⟨a, B, sI, pins', σ', H', cls, d, rfl, J', nb, up, sky, na, os, ag, w⟩ := xx
    have J : Inv X pins σ' H' sI := J'.ofTry ok
    have sky' : Sky B (X.env :: X.outer) a (Zc cls d) X.env.locals s'.heap := by rw [← hs]; exact sky
    show wpAny (model X.prog X.w) X.A (noteFrame (.ref a) X.env) _ _ _
    refine Sky.land Zc.steady hfr hf sky' fun h3 fl3 up3 => ?_
    have J3 : Inv X pins σ' H' { s' with heap := h3 } := J.landed nb fl3.1 (up.trans up3) os ag
    obtain ⟨oe3, vs3, he3, hz3, hd3⟩ := fl3.there
    have notFr : ∀ {h : Heap} {o : Obj} {vs : Array Value}, h.FunFrames B (X.env :: X.outer) → h.get? a = some o → o.data = .fields vs → a ∉ frs (X.env :: X.outer) := fun {h o vs} ff e dd hm => by
      obtain ⟨_, o', e', hnf⟩ := ff.mem hm
      rw [e] at e'; cases e'
      exact hnf _ dd
    have nfr := notFr fl3.2.2.1 he3 hd3
    have nL : a ≠ X.env.locals := fun z => nfr (List.mem_filterMap.mpr ⟨X.env, List.mem_cons_self, by rw [hf, z]⟩)
    have nF : a ∉ X.fs := fun hm => by
      obtain ⟨e, he, q⟩ := List.mem_filterMap.mp hm
      exact nfr (List.mem_filterMap.mpr ⟨e, List.mem_cons_of_mem _ he, q⟩)
    have S3 := J3.suite he3 hd3 na nL nF
    have go : ∀ {hds' : List ExceptHandler} {l' : List (Value × (Addr → Value → Option Addr → TS))}, HdsAs X n hds' l' → wManyAs X.K i Wout D l' cls d σ' H' →
        wpAny (model X.prog X.w) X.A (handleBy (.ref a) X.env hds') (SP X pins D) X.xe { s' with heap := h3 } := by
      intro hds' l' hk
      induction hk with
      | nil =>
        intro w
        refine wpAny_handleBy_nil ?_
        obtain ⟨k1, k2, k3, oe, vs, T, oT, ts', he, hz, hd, h1, hr⟩ := id fl3
        unfold PySem.passOn
        refine wpAny_bind (wpAny_field he hd h1 ?_)
        rw [if_neg (show ¬ ((Value.ref T == Value.none) = true) from by simp)]
        have fin : wpAny (model X.prog X.w) X.A (setFlight (.ref a) X.env.frame) (fun _ s4 => wpAny (model X.prog X.w) X.A (throw (.ref a) : Sem Flow) (SP X pins D) X.xe s4) X.xe { s' with heap := h3 } := by
          rw [hf]
          refine HandSPX.setFlight_upZ fl3 fun h4 hh4 up4 => wpAny_throw (tk _ _ ?_)
          exact ⟨a, B, sI, pins, σ', H', cls, d, rfl, J, nb, (up.trans up3).trans up4, .inr (.inr (by rw [hs]; exact hh4)), na, os, ag, w⟩
        first
          | exact wpAny_bind (wpAny_pure (wpAny_bind fin))
          | exact wpAny_bind fin
      | @cons x c ts b₀ suite np pos' hds2 l2 hc hsu r ih =>
        intro w
        obtain ⟨b, hb1, hyes, hno⟩ := w
        refine wpAny_handleBy_cons (codeAny_handlers_test ?_) (by intro q; cases q)
        have LT : PySem.W.Looks (model X.prog X.w) h3 (typeOf (.ref a)) cls := fun A Q E s k q => wpAny_typeOf_ref (k _ _ he3) (by rw [hz3.1]; exact q)
        have LM := PySem.W.exm_one (M := model X.prog X.w) (J3.kIn) LT hb1
        have test : ∀ {Q : Value → Shared → Prop} {E : Value → Shared → Prop}, Q c { s' with heap := h3 } → wpAny (model X.prog X.w) (X.A.mark (some (.ref a))) (eval (.Name x np) X.env) Q E { s' with heap := h3 } := fun {Q E} q => by
          obtain ⟨hg, hdbg, hm | ⟨hm, hv, hnn⟩⟩ := hc
          · exact ld_glob (X := X.suite a ((a, oe3) :: (X.pn ++ pins))) S3 hg hm q hdbg
          · exact ld_blt (X := X.suite a ((a, oe3) :: (X.pn ++ pins))) S3 hg hm hv q hnn hdbg
        refine test (LM.here ?_)
        cases b with
        | true =>
          refine codeAny_handlers_suite_as ?_
          refine HandSPX.lands_againZ fl3 fun h4 fl4 up4 => ?_
          have J4 : Inv X pins σ' H' { s' with heap := h4 } := J.landed nb fl4.1 ((up.trans up3).trans up4) os ag
          obtain ⟨oe4, vs4, he4, hz4, hd4⟩ := fl4.there
          have S4 := J4.suite he4 hd4 na nL nF
          refine store_ok (X := X.suite a ((a, oe4) :: (X.pn ++ pins))) (v := .ref a) S4 hN hi hloc rfl (fun s5 S5 => ?_) (.inr hln)
          refine wpAny_mono ((hsu a oe4 cls d (X.pn ++ pins) hz4 ⟨_, hd4⟩).run [] s5 _ H' _ S5 (hyes rfl a na)) (fun f s6 hsp => ?_) (fun _ _ z => False.elim z)
          have end_ : ∀ {σ6 : L2.St} {H6 : Hp} {Q : Shared → Prop}, Inv (X.suite a ((a, oe4) :: (X.pn ++ pins))) [] σ6 H6 s6 → (∀ s7, Inv X pins (σ6.set i none) H6 s7 → Q s7) →
              wpAny (model X.prog X.w) X.A (do bindName X.env n .none; unbindBehindTheSuite X.env n pos') (fun _ s7 => Q s7) X.xe s6 := fun {σ6 H6 Q} S6 hq => gone_ok (S6.unsuite ok) hN hi hln hq
          cases f with
          | next =>
            obtain ⟨σ6, H6, S6, q6⟩ := hsp
            exact end_ S6 fun s7 J7 => ⟨_, _, J7, q6⟩
          | brk =>
            obtain ⟨σ6, H6, S6, q6⟩ := hsp
            exact end_ S6 fun s7 J7 => ⟨_, _, J7, q6⟩
          | cont =>
            obtain ⟨σ6, H6, S6, q6⟩ := hsp
            exact end_ S6 fun s7 J7 => ⟨_, _, J7, q6⟩
          | ret u =>
            obtain ⟨v6, σ6, H6, S6, r6, q6⟩ := hsp
            exact end_ S6 fun s7 J7 => ⟨_, _, _, J7, r6, q6⟩
        | false =>
          show wpAny _ X.A (handleBy (.ref a) X.env hds2) _ _ _
          exact ih (hno rfl)
    exact go hh w
  · cases f with
    | next =>
      obtain ⟨σ', H', J', q⟩ := hsp
      exact wpAny_execs_nil ⟨σ', H', J'.ofTry ok, q⟩
    | brk =>
      obtain ⟨σ', H', J', q⟩ := hsp
      exact ⟨σ', H', J'.ofTry ok, q⟩
    | cont =>
      obtain ⟨σ', H', J', q⟩ := hsp
      exact ⟨σ', H', J'.ofTry ok, q⟩
    | ret u =>
      obtain ⟨v, σ', H', J', r, q⟩ := hsp
      exact ⟨v, σ', H', J'.ofTry ok, r, q⟩
end
end My

namespace My
open PySem PySem.Spec PyProof.Rows L2
/-! ### own errors as they stand behind the top: what is asked of the written part -/
abbrev ErW : Type := Option (Str × Str × Arguments × FuncBody × Scope × Addr × Addr)
def erI (K : PySem.W.Frag) (x : Str) : Addr := match PySem.W.findIn K (.ref (He.ga K x)) "__init__" with
  | some (some (.ref a)) => a
  | _ => 0
def erW (K : PySem.W.Frag) (x : Str) : ErW := match K.lookup (erI K x) with
  | some ⟨_, _, .func fd, _⟩ => some (fd.name, fd.qualname, fd.params, fd.body, fd.scope, fd.globals, fd.builtins)
  | _ => none
/-- an own error class over ValueError -/
def oexB (K : PySem.W.Frag) (C : Addr) : Bool := match K.lookup C with
  | some ⟨.type "type", _, .cls cd, sl⟩ => (match cd.mro, sl.toList with
    | .ref C' :: bm, [_, _, _, _, some (.builtin n), _] => C' == C && (n == ("ValueError.__new__" : String) && (!cd.hasDel && (cd.hasDict && PySem.HandSPX.refsVE bm)))
    | _, _ => false)
  | _ => false
theorem oexB_ok {K : PySem.W.Frag} {C : Addr} (q : oexB K C = true) : ∃ nm qn N bs bm sn sub ab col dd k0 k1 k2 k3 k5, K.lookup C = some (excClassObj nm qn C N bs bm true sn sub ab col dd k0 k1 k2 k3 k5 "ValueError.__new__") ∧ PySem.HandSPX.refsVE bm = true := by
  unfold oexB at q
  split at q
  · rename_i dd cd sl ho
    split at q
    · rename_i C' bm k0 k1 k2 k3 n k5 hm hs
      simp only [Bool.and_eq_true, beq_iff_eq, Bool.not_eq_true'] at q
      obtain ⟨rfl, rfl, hdel, hdict, ht⟩ := q
      obtain ⟨nm, bs, mro, ns, qn, hd, sn, sub, ab, col, del⟩ := cd
      dsimp only at hm hdel hdict
      subst hm hdel hdict
      have hsl : sl = #[k0, k1, k2, k3, some (.builtin "ValueError.__new__"), k5] := by
        obtain ⟨l⟩ := sl
        simp only at hs
        rw [hs]
      subst hsl
      exact ⟨nm, qn, ns, bs, bm, sn, sub, ab, col, dd, k0, k1, k2, k3, k5, ho, ht⟩
    · cases q
  · cases q
/-- its __init__: one cell, of the class; code of the file; one default, None -/
def iniB (K : PySem.W.Frag) (file x : Str) : Bool := match K.lookup (erI K x) with
  | some ⟨_, _, .func fd, _⟩ => (match fd.closure with
    | [(n, cc)] => decide (n = ("__class__" : Str)) && ((match K.lookup cc with
      | some ⟨_, _, .cell (some (.ref C')), _⟩ => C' == He.ga K x
      | _ => false) && ((match fd.code with
        | .ref c => (match K.lookup c with
          | some ⟨_, _, .fields vs, _⟩ => (match (vs[2]? : Option Value) with
            | some (Value.str f _) => decide (f = file)
            | _ => false)
          | _ => false)
        | _ => false) && (PySem.W.codeIn K fd.code (x ++ (".__init__" : Str)) && (He.dflB K fd.defaults [.non] && He.kwdB K fd.kwdefaults []))))
    | _ => false)
  | _ => false
def errB (K : PySem.W.Frag) (file x : Str) : Bool :=
  oexB K (He.ga K x) && (iniB K file x && (xfB K (He.ga K x) && (decide (PySem.W.findIn K (.ref (He.ga K x)) "__setattr__" = some (some (.builtin "object.__setattr__"))) && (decide (PySem.W.subIn K (.ref (He.ga K x)) (.type "BaseException") = some true) && (decide (PySem.W.typeIn K (.ref (He.ga K x)) = some (.type "type")) && (PySem.W.keepIn K (.ref (He.ga K x)) &&
  (decide (PySem.W.ks_superIn K (He.ga K x) (He.ga K x) "__init__" = some (some (.builtin "ValueError.__init__"))) && (decide (PySem.W.subIn K (.ref (He.ga K x)) (.type "ValueError") = some true) && (decide (PySem.W.mroIn K (He.ga K x) (.ref (He.ga K x)) = some true) && (decide (PySem.W.nsIn K cStatics "thirdparty.any" = some none) && (decide (PySem.W.findIn K (.ref (He.ga K x)) "value" = some none) &&
  (decide (PySem.W.findIn K (.ref (He.ga K x)) "__init__" = some (some (.ref (erI K x)))) && decide (PySem.W.typeIn K (.ref (erI K x)) = some (.type "function"))))))))))))))
structure ErrC (K : PySem.W.Frag) (file x : Str) (st : Stmt) (C fI : Addr) (fd : FuncData) : Prop where
  sup : Sup.SupC K file x st C fI fd
  ini : PySem.W.findIn K (.ref C) "__init__" = some (some (.ref fI))
  ity : PySem.W.typeIn K (.ref fI) = some (.type "function")
  bnd : Binds K fd ["self", "value"] []
  xf : XfC K C
theorem err_ok {K : PySem.W.Frag} {file x : Str} {st : Stmt} (h : errB K file x = true) (e : erW K x = some (("__init__" : Str), x ++ (".__init__" : Str), defArgs st, FuncBody.stmts (defBody st), defScope st, mainGlobals, builtinsNs))
    (hb : ∀ (T cc : Addr) (kV doc pm : Value) (an : Option Addr) (cdv ct : Value) (us its : List Value), us.length = 2 → its.length = 1 →
      ∃ k, bindArgs (PySem.W.ksFn "__init__" (x ++ (".__init__" : Str)) (defArgs st) (defBody st) (defScope st) (.ref T) kV doc pm an cdv ct cc) ⟨us, []⟩ = seqItems? (.ref T) >>= k ∧ k (some its.toArray) = pure ((["self", "value"] : List Str).zip us)) :
    ∃ fd, ErrC K file x st (He.ga K x) (erI K x) fd := by
  unfold errB at h
  obtain ⟨h1, h⟩ := He.ba h
  obtain ⟨h2, h⟩ := He.ba h
  obtain ⟨h3, h⟩ := He.ba h
  obtain ⟨h4, h⟩ := He.ba h
  obtain ⟨h5, h⟩ := He.ba h
  obtain ⟨h6, h⟩ := He.ba h
  obtain ⟨h7, h⟩ := He.ba h
  obtain ⟨h8, h⟩ := He.ba h
  obtain ⟨h9, h⟩ := He.ba h
  obtain ⟨h10, h⟩ := He.ba h
  obtain ⟨h11, h⟩ := He.ba h
  obtain ⟨h12, h⟩ := He.ba h
  obtain ⟨h13, h14⟩ := He.ba h
  unfold iniB at h2
  unfold erW at e
  cases q : K.lookup (erI K x) with
  | none => rw [q] at e; cases e
  | some o =>
    obtain ⟨oc, od, dt, osl⟩ := o
    rw [q] at e h2
    cases dt with
    | func fd =>
      obtain ⟨n1, n2, n3, n4, n5, n6, n7, n8, n9, n10, n11, n12, n13, n14, n15⟩ := fd
      have e2 : (some (n1, n2, n3, n4, n5, n6, n15) : ErW) = some (("__init__" : Str), x ++ (".__init__" : Str), defArgs st, FuncBody.stmts (defBody st), defScope st, mainGlobals, builtinsNs) := e
      simp only [Option.some.injEq, Prod.mk.injEq] at e2
      obtain ⟨r1, r2, r3, r4, r5, r6, r7⟩ := e2
      subst r1 r2 r3 r4 r5 r6 r7
      dsimp only at h2
      split at h2
      · rename_i n cc
        obtain ⟨k1, h2⟩ := He.ba h2
        obtain ⟨k2, h2⟩ := He.ba h2
        obtain ⟨k3, h2⟩ := He.ba h2
        obtain ⟨k4, h2⟩ := He.ba h2
        obtain ⟨k5, k6⟩ := He.ba h2
        obtain rfl := of_decide_eq_true k1
        split at k2
        · rename_i cl cld C' csl lcc
          obtain rfl := beq_iff_eq.mp k2
          split at k3
          · rename_i c0
            split at k3
            · rename_i ccl cdd vs ccs lc
              split at k3
              · rename_i f tf hvs
                obtain rfl := of_decide_eq_true k3
                have D := He.dflB_ok k5
                refine ⟨_, ⟨⟨⟨oexB_ok h1, of_decide_eq_true h4, of_decide_eq_true h5, of_decide_eq_true h6, h7⟩, ⟨oc, od, n8, n9, n10, n11, n12, _, cc, n14, osl, rfl, q, k4, ⟨ccl, cdd, vs, ccs, tf, lc, hvs⟩, cl, cld, csl, lcc⟩,
                  of_decide_eq_true h8, of_decide_eq_true h9, of_decide_eq_true h10, of_decide_eq_true h11, of_decide_eq_true h12⟩, of_decide_eq_true h13, of_decide_eq_true h14, ?_, xfB_ok h3⟩⟩
                rcases D with ⟨z, _⟩ | ⟨_, T, o, its, m, rfl, lT, oT, rT⟩
                · cases z
                · intro s us X hlen
                  rw [List.append_nil] at hlen ⊢
                  obtain ⟨k, e1, e2⟩ := hb T cc n9 n10 n11 n12 _ n14 us its hlen rT.length.symm
                  refine BindsTo.of_looks fun M => ?_
                  refine Eq.mpr (congrArg (fun z => PySem.W.Looks M s.heap z _) e1) ?_
                  exact looks_items X lT oT (.of_pure e2)
              · cases k3
            · cases k3
          · cases k3
        · cases k2
      · cases h2
    | _ => cases e
end My

namespace My
open PySem PySem.Spec PyProof.Rows L2
/-! ### an error kept behind its clause: asked by isinstance, its value read -/
/-- a caught error: its class, its dict -/
def ExK (cls : Value) (d : Option Addr) (a : Addr) : HO := .ext fun h => ∃ (oe : Obj) (vs : Array Value), h.get? a = some oe ∧ Zc cls d oe ∧ oe.data = .fields vs
section
variable {X : Cx} {pins : List (Addr × Obj)} {σ : L2.St} {H : Hp} {s : Shared} {a : Addr}
/-- what is not there in a state is none of what the state speaks of -/
theorem _root_.L2.Inv.newIn (I : Inv X pins σ H s) (hx : X.ex = []) (na : s.heap.get? a = none) : X.s_0.heap.get? a = none ∧ a ≠ X.env.locals ∧ (∀ x c, X.env.cells.lookup x = some c → a ≠ c) ∧ ∀ p ∈ X.pn ++ pins, a ≠ p.1 := by
  refine ⟨?_, ?_, ?_, ?_⟩
  · cases e : X.s_0.heap.get? a with
    | none => rfl
    | some o =>
      obtain ⟨o', e'⟩ := I.base.there a o e (by rw [hx]; exact fun z => nomatch z)
      rw [na] at e'
      cases e'
  · obtain ⟨m, ⟨o, es, ep, ho, _⟩, _⟩ := I.loc
    exact fun e => by rw [← e, na] at ho; cases ho
  · intro x c e z
    obtain ⟨v, o, ho, _⟩ := I.cell x c e
    rw [← z, na] at ho
    cases ho
  · intro p hp z
    have ho := (I.pin p hp).1
    rw [← z, na] at ho
    cases ho
/-- an object that is there is from now on told of -/
theorem _root_.L2.Inv.track {cls : Value} {d : Option Addr} {oe : Obj} {vs : Array Value} (I : Inv X pins σ H s) (ha : s.heap.get? a = some oe) (z : Zc cls d oe) (hd : oe.data = .fields vs) (na : H a = none) (n0 : X.s_0.heap.get? a = none) (nL : a ≠ X.env.locals)
    (nC : ∀ x c, X.env.cells.lookup x = some c → a ≠ c) (nP : ∀ p ∈ X.pn ++ pins, a ≠ p.1) : Inv X pins σ (upd H a (ExK cls d a)) s := by
  have ne : ∀ {b : Addr} {o : HO}, H b = some o → b ≠ a := fun {b o} e q => by rw [q, na] at e; cases e
  refine ⟨I.ok, I.os, I.bare, ⟨I.base.keep, I.base.slot, fun b o e n hx => ?_, I.base.there, fun b xs e => ?_, fun b o u e => ?_, fun b ps e => ?_⟩, I.loc, I.cell, ?_, fun x c e => ?_, fun p hp => ?_, fun b u e => ?_, I.len⟩
  · rw [upd_ne fun q => by rw [q, n0] at e; cases e]
    exact I.base.free b o e n hx
  · have q := I.base.tups b xs e
    rw [upd_ne (ne q)]
    exact q
  · have q := I.base.frzs b o u e
    rw [upd_ne (ne q)]
    exact q
  · obtain ⟨m, q⟩ := I.base.tbls b ps e
    exact ⟨m, by rw [upd_ne (ne q)]; exact q⟩
  · rw [upd_ne fun q => nL q.symm]
    exact I.free
  · rw [upd_ne fun q => nC x c e q.symm]
    exact I.freeC x c e
  · obtain ⟨e, n, r⟩ := I.pin p hp
    exact ⟨e, by rw [upd_ne fun q => nP p hp q.symm]; exact n, r⟩
  · by_cases hb : b = a
    · subst hb
      rw [upd_same] at e
      cases e
      exact ⟨⟨oe, vs, ha, z, hd⟩, ⟨oe, ha⟩, fun _ _ ⟨o, v, q, r⟩ k => ⟨o, v, k o q, r⟩⟩
    · rw [upd_ne hb] at e
      exact (I.hok b u e).stay (fun c v _ q => q) (fun c q => by rw [upd_ne (ne q)]; exact q) fun c xs q => by rw [upd_ne (ne q)]; exact q
end
/-- as wManyAs, the error told of behind the clause -/
def wKeepAs (K : PySem.W.Frag) (i : Nat) (Wout : WX) (D : Ends) : List (Value × (Addr → Value → Option Addr → TS)) → WX
  | [] => Wout
  | (c, ts) :: r => fun cls d σ H => ∃ b, PySem.W.exmOne K cls c = some b ∧ (b = true → ∀ a, H a = none → ts a cls d { nx := fun σ' H' => D.nx (σ'.set i none) (upd H' a (ExK cls d a)), rt := D.rt, bk := fun σ' H' => D.bk (σ'.set i none) H', ct := fun σ' H' => D.ct (σ'.set i none) H' } (σ.set i (some (.ref a))) H) ∧
    (b = false → wKeepAs K i Wout D r cls d σ H)
section
variable {X : Cx} {n : Str} {i : Nat} {body : List Stmt} {h₀ : ExceptHandler} {hds : List ExceptHandler} {l : List (Value × (Addr → Value → Option Addr → TS))} {pos : Pos} {tb : WX → TS} {Wout : WX}
theorem ps_try_keep (hx0 : X.ex = []) (hs : X.stack = X.env :: X.outer) (hf : X.env.frame = some X.env.locals) (hN : X.N.Nodup) (hi : X.N[i]? = some n) (hln : X.env.kindOf n = some .local) (tk : Takes X Wout)
    (hb : ∀ (W : WX) (pn : List (Addr × Obj)) (xe : Value → Shared → Prop), Takes (X.tr pn xe) W → PassesOwn (model X.prog X.w) X.A X.env xe → PSs (X.tr pn xe) body (tb W))
    (hh : HdsAs X n (h₀ :: hds) l) : PS X (.Try body (h₀ :: hds) [] [] pos) (fun D σ H => tb (wKeepAs X.K i Wout D l) D σ H) := by
  refine ⟨fun pins s σ H D I h => ?_⟩
  have ok := I.ok
  have hfr : X.A.frames = some (X.env :: X.outer) := by rw [ok.frames, hs]
  have hloc : Loc X.env.scope n := .inl hln
  refine wpAny_Try_except ?_
  refine wpAny_mono ((hb (wKeepAs X.K i Wout D l) (X.pn ++ pins) (fun e s₁ => wpAny (model X.prog X.w) X.A (noteFrame e X.env) (fun _ s₂ => wpAny (model X.prog X.w) X.A (setFlight e none) (fun _ s₃ =>
    wpAny (model X.prog X.w) X.A (handleBy e X.env (h₀ :: hds)) (SP X pins D) X.xe s₃) X.xe s₂) X.xe s₁) (fun u s' xx => ?_) PassesOwn.looking).run [] s σ H D (I.toTry _) h) (fun f s1 hsp => ?_) (fun e s1 he => he)
  · -- the catch
    obtain ⟨a, B, sI, pins', σ', H', cls, d, rfl, J', nb, up, sky, na, os, ag, w⟩ := xx
    have J : Inv X pins σ' H' sI := J'.ofTry ok
    have sky' : Sky B (X.env :: X.outer) a (Zc cls d) X.env.locals s'.heap := by rw [← hs]; exact sky
    show wpAny (model X.prog X.w) X.A (noteFrame (.ref a) X.env) _ _ _
    refine Sky.land Zc.steady hfr hf sky' fun h3 fl3 up3 => ?_
    have J3 : Inv X pins σ' H' { s' with heap := h3 } := J.landed nb fl3.1 (up.trans up3) os ag
    obtain ⟨oe3, vs3, he3, hz3, hd3⟩ := fl3.there
    have notFr : ∀ {h : Heap} {o : Obj} {vs : Array Value}, h.FunFrames B (X.env :: X.outer) → h.get? a = some o → o.data = .fields vs → a ∉ frs (X.env :: X.outer) := fun {h o vs} ff e dd hm => by
      obtain ⟨_, o', e', hnf⟩ := ff.mem hm
      rw [e] at e'; cases e'
      exact hnf _ dd
    have nfr := notFr fl3.2.2.1 he3 hd3
    have nL : a ≠ X.env.locals := fun z => nfr (List.mem_filterMap.mpr ⟨X.env, List.mem_cons_self, by rw [hf, z]⟩)
    have nF : a ∉ X.fs := fun hm => by
      obtain ⟨e, he, q⟩ := List.mem_filterMap.mp hm
      exact nfr (List.mem_filterMap.mpr ⟨e, List.mem_cons_of_mem _ he, q⟩)
    have S3 := J3.suite he3 hd3 na nL nF
    have new := Inv.newIn J hx0 (a := a) (by
      cases e : sI.heap.get? a with
      | none => rfl
      | some o =>
        have := nb a o e (by rw [hs]; exact nfr)
        rw [fl3.2.1] at this
        cases this)
    have go : ∀ {hds' : List ExceptHandler} {l' : List (Value × (Addr → Value → Option Addr → TS))}, HdsAs X n hds' l' → wKeepAs X.K i Wout D l' cls d σ' H' →
        wpAny (model X.prog X.w) X.A (handleBy (.ref a) X.env hds') (SP X pins D) X.xe { s' with heap := h3 } := by
      intro hds' l' hk
      induction hk with
      | nil =>
        intro w
        refine wpAny_handleBy_nil ?_
        obtain ⟨k1, k2, k3, oe, vs, T, oT, ts', he, hz, hd, h1, hr⟩ := id fl3
        unfold PySem.passOn
        refine wpAny_bind (wpAny_field he hd h1 ?_)
        rw [if_neg (show ¬ ((Value.ref T == Value.none) = true) from by simp)]
        have fin : wpAny (model X.prog X.w) X.A (setFlight (.ref a) X.env.frame) (fun _ s4 => wpAny (model X.prog X.w) X.A (throw (.ref a) : Sem Flow) (SP X pins D) X.xe s4) X.xe { s' with heap := h3 } := by
          rw [hf]
          refine HandSPX.setFlight_upZ fl3 fun h4 hh4 up4 => wpAny_throw (tk _ _ ?_)
          exact ⟨a, B, sI, pins, σ', H', cls, d, rfl, J, nb, (up.trans up3).trans up4, .inr (.inr (by rw [hs]; exact hh4)), na, os, ag, w⟩
        first
          | exact wpAny_bind (wpAny_pure (wpAny_bind fin))
          | exact wpAny_bind fin
      | @cons x c ts b₀ suite np pos' hds2 l2 hc hsu r ih =>
        intro w
        obtain ⟨b, hb1, hyes, hno⟩ := w
        refine wpAny_handleBy_cons (codeAny_handlers_test ?_) (by intro q; cases q)
        have LT : PySem.W.Looks (model X.prog X.w) h3 (typeOf (.ref a)) cls := fun A Q E s k q => wpAny_typeOf_ref (k _ _ he3) (by rw [hz3.1]; exact q)
        have LM := PySem.W.exm_one (M := model X.prog X.w) (J3.kIn) LT hb1
        have test : ∀ {Q : Value → Shared → Prop} {E : Value → Shared → Prop}, Q c { s' with heap := h3 } → wpAny (model X.prog X.w) (X.A.mark (some (.ref a))) (eval (.Name x np) X.env) Q E { s' with heap := h3 } := fun {Q E} q => by
          obtain ⟨hg, hdbg, hm | ⟨hm, hv, hnn⟩⟩ := hc
          · exact ld_glob (X := X.suite a ((a, oe3) :: (X.pn ++ pins))) S3 hg hm q hdbg
          · exact ld_blt (X := X.suite a ((a, oe3) :: (X.pn ++ pins))) S3 hg hm hv q hnn hdbg
        refine test (LM.here ?_)
        cases b with
        | true =>
          refine codeAny_handlers_suite_as ?_
          refine HandSPX.lands_againZ fl3 fun h4 fl4 up4 => ?_
          have J4 : Inv X pins σ' H' { s' with heap := h4 } := J.landed nb fl4.1 ((up.trans up3).trans up4) os ag
          obtain ⟨oe4, vs4, he4, hz4, hd4⟩ := fl4.there
          have S4 := J4.suite he4 hd4 na nL nF
          refine store_ok (X := X.suite a ((a, oe4) :: (X.pn ++ pins))) (v := .ref a) S4 hN hi hloc rfl (fun s5 S5 => ?_) (.inr hln)
          refine wpAny_mono ((hsu a oe4 cls d (X.pn ++ pins) hz4 ⟨_, hd4⟩).run [] s5 _ H' _ S5 (hyes rfl a na)) (fun f s6 hsp => ?_) (fun _ _ z => False.elim z)
          have end_ : ∀ {σ6 : L2.St} {H6 : Hp} {Q : Shared → Prop}, Inv (X.suite a ((a, oe4) :: (X.pn ++ pins))) [] σ6 H6 s6 → (∀ s7, Inv X pins (σ6.set i none) H6 s7 → Q s7) →
              wpAny (model X.prog X.w) X.A (do bindName X.env n .none; unbindBehindTheSuite X.env n pos') (fun _ s7 => Q s7) X.xe s6 := fun {σ6 H6 Q} S6 hq => gone_ok (S6.unsuite ok) hN hi hln hq
          cases f with
          | next =>
            obtain ⟨σ6, H6, S6, q6⟩ := hsp
            obtain ⟨ha6, na6, _, _, _⟩ := S6.pin (a, oe4) (List.mem_append.mpr (.inl List.mem_cons_self))
            exact gone_ok (Inv.track (S6.unsuite ok) ha6 hz4 hd4 na6 new.1 new.2.1 new.2.2.1 new.2.2.2) hN hi hln fun s7 J7 => ⟨_, _, J7, q6⟩
          | brk =>
            obtain ⟨σ6, H6, S6, q6⟩ := hsp
            exact end_ S6 fun s7 J7 => ⟨_, _, J7, q6⟩
          | cont =>
            obtain ⟨σ6, H6, S6, q6⟩ := hsp
            exact end_ S6 fun s7 J7 => ⟨_, _, J7, q6⟩
          | ret u =>
            obtain ⟨v6, σ6, H6, S6, r6, q6⟩ := hsp
            exact end_ S6 fun s7 J7 => ⟨_, _, _, J7, r6, q6⟩
        | false =>
          show wpAny _ X.A (handleBy (.ref a) X.env hds2) _ _ _
          exact ih (hno rfl)
    exact go hh w
  · cases f with
    | next =>
      obtain ⟨σ', H', J', q⟩ := hsp
      exact wpAny_execs_nil ⟨σ', H', J'.ofTry ok, q⟩
    | brk =>
      obtain ⟨σ', H', J', q⟩ := hsp
      exact ⟨σ', H', J'.ofTry ok, q⟩
    | cont =>
      obtain ⟨σ', H', J', q⟩ := hsp
      exact ⟨σ', H', J'.ofTry ok, q⟩
    | ret u =>
      obtain ⟨v, σ', H', J', r, q⟩ := hsp
      exact ⟨v, σ', H', J'.ofTry ok, r, q⟩
end
/-! ### isinstance of it, its value -/
/-- what isinstance asks of the class of an error -/
structure ExcI (K : PySem.W.Frag) (D : Addr) : Prop where
  xf : XfC K D
  ha : PySem.W.findIn K (.ref D) "__class__" = some (some (.builtin "object.__class__"))
  hn : PySem.W.specialIn K (.builtin "object.__class__") "__get__" = some (some (.builtin "getset_descriptor.__get__"))
  ht : PySem.W.takesIn K (.builtin "object.__class__") = some true
  hm : PySem.W.mroIn K D (.type "object") = some true
/-- its class by name, the error with a dict of its own -/
theorem cls_named {prog : Program} {w : World} {A : Around} {F : Value → Shared → Prop} {st : Shared} {K : PySem.W.Frag} {a C : Addr} {oe od : Obj} {G : Option Value → Shared → Prop} (c : ExcI K C) (hK : K.In st.heap) (J : PySem.W.InstAt st.heap a oe C (some od))
    (g : G (some (.ref C)) { st with toks := st.toks + 1 }) : wpAny (model prog w) A (getAttr? (.ref a) "__class__") G F st := by
  have found : PySem.W.findObj K C (some od) "__class__" = some (.bind (.builtin "getset_descriptor.__get__") (.builtin "object.__class__")) := by
    refine PySem.W.findObj_data ?_ c.ha c.hn c.ht
    obtain ⟨kd, hk, _⟩ := PySem.W.any_some c.xf.hdC
    rw [hk]
    rfl
  obtain ⟨hh, gs, dr, tk, o5⟩ := st
  have isC := J.type (M := model prog w)
  have isGa := PySem.W.looks_findIn (M := model prog w) hK c.xf.ga
  have isGg := PySem.W.looks_findIn (M := model prog w) hK c.xf.gg
  have isIt := PySem.W.looks_find (M := model prog w) hK J found
  have isSub : PySem.W.Looks (model prog w) hh (isInstance (.ref a) (.type "BaseException")) true := isC.andThen (PySem.W.looks_subIn hK c.xf.exC)
  have n1 : (Value.builtin "BaseException.__getattribute__" == Value.builtin "object.__getattribute__") = false := by decide +kernel
  have n2 : (onTheHeap (Value.ref C) && Value.builtin "BaseException.__getattribute__" == Value.builtin "object.__getattribute__") = false := by rw [n1]; exact Bool.and_false _
  have n3 : (false && onTheHeap (Value.builtin "BaseException.__getattribute__")) = false := Bool.false_and _
  unfold getAttr? getAttrBy? getAttrBy
  refine wpAny_bind (wpAny_mkText (wpAny_bind (wpAny_attempt (wpAny_holding (wpAny_bind (isC.at (wpAny_bind (isGa.at ?_))))))))
  change wpAny _ _ (if (onTheHeap (Value.ref C) && Value.builtin "BaseException.__getattribute__" == Value.builtin "object.__getattribute__") = true then _ else _) _ _ _
  rw [n2]
  rw [if_neg Bool.false_ne_true]
  unfold getAttrByItsOwn hookBefore
  refine wpAny_bind ?_
  have n4 : onTheHeap (Value.ref C) = true := by rfl
  rw [if_pos n4]
  refine isGg.at (wpAny_bind (wpAny_attempt (wpAny_holding ?_)))
  unfold callGetattribute
  rw [n3]
  rw [if_neg Bool.false_ne_true]
  unfold boundAndCalled
  rw [PySem.F.excAttr_ValueError.ga.bind (.ref a)]
  refine wpAny_bind (wpAny_pure ?_)
  change wpAny _ _ (call (.builtin "BaseException.__getattribute__") [.ref a, .str "__class__" tk]) _ _ _
  refine wpAny_call (codeAny_call_builtin PySem.F.excAttr_ValueError.ga.plain PySem.F.entry_bexc_ga ?_)
  refine @PySem.W.check_slot (model prog w) _ _ ⟨hh, gs, dr, tk + 1, o5⟩ "BaseException.__getattribute__" "BaseException" "__getattribute__" (.ref a) [.str "__class__" tk] [] _ (by decide +kernel) (by decide +kernel) isSub (PySem.F.args_bexc_ga _ _) ?_
  unfold Builtin.«object.__getattribute__»
  refine wpAny_bind (wpAny_of_eq (a := ((Value.ref a : Value), [Value.str "__class__" tk])) (by first | rfl | (simp only [slotArgs]; rfl)) (wpAny_bind (wpAny_pure (wpAny_bind (isC.at (wpAny_bind (isIt.at ?_)))))))
  change wpAny _ _ (holding [Value.builtin "object.__class__"] (call (.builtin "getset_descriptor.__get__") [.builtin "object.__class__", .ref a, .ref C]) >>= ret) _ _ _
  refine wpAny_bind (wpAny_holding (wpAny_call (PySem.W.class_get (s := ⟨hh, gs, dr, tk + 1, o5⟩) (ox := oe) (od := some od) hK J c.hm (wpAny_pure ?_))))
  change wpAny _ _ (handedOut (.ref C)) _ _ _
  rw [PySem.W.handedOut_of (v := .ref C) rfl]
  first
    | exact wpAny_pure g
    | exact wpAny_pure (wpAny_pure g)
    | exact wpAny_pure (wpAny_bind (wpAny_pure (wpAny_pure g)))
/-- the error is an object of its class, its dict there -/
theorem kit_err {K : PySem.W.Frag} {a C : Addr} {oe od : Obj} (c : ExcI K C) : PySem.W.KitX K (.ref a) (.ref C) (fun h => PySem.W.InstAt h a oe C (some od)) where
  ty := fun _ _ _ J => J.type
  it := fun _ h hK _ => by
    obtain ⟨kd, hk, _⟩ := PySem.W.any_some c.xf.hdC
    unfold PySem.W.clsIn at hk
    split at hk
    · rename_i e1 e2 e3 e4 there
      intro B R' F' st keep goal
      unfold isType loadHead
      exact wpAny_bind (wpAny_loadPart (keep _ _ (hK _ _ there)) (wpAny_pure goal))
    · cases hk
  ne := fun h t dd is m sl hK ht => by
    obtain ⟨kd, hk, _⟩ := PySem.W.any_some c.xf.hdC
    cases q : (Value.ref C == Value.ref t) with
    | false => rfl
    | true =>
      obtain rfl : C = t := Value.ref.inj (beq_iff_eq.mp q)
      unfold PySem.W.clsIn at hk
      split at hk
      · rename_i e1 e2 e3 e4 there
        have z := (hK _ _ there).symm.trans ht
        cases z
      · cases hk
  ca := fun hK J g => cls_named c hK J g
/-- isinstance(x, c): x a kept error, or any other thing as before -/
def rIsiE (K : PySem.W.Frag) : List V → Hp → VK → Prop := fun xs H Q => rIsi K xs H Q ∨ ∃ (a C dd : Addr) (fs : List (Str × V)) (c : V) (u : Value) (b : Bool), xs = [.ref a, c] ∧ H a = some (ExK (.ref C) (some dd) a) ∧ H dd = some (.xd fs) ∧ ExcI K C ∧ ClsV c u ∧ PySem.W.kitOne K (.ref C) u = some b ∧ Q (.bl b) H
section
variable {X : Cx}
theorem inst_kept {pins : List (Addr × Obj)} {σ : L2.St} {H : Hp} {s : Shared} {a C dd : Addr} {fs : List (Str × V)} (I : Inv X pins σ H s) (ha : H a = some (ExK (.ref C) (some dd) a)) (hd : H dd = some (.xd fs)) :
    ∃ (oe od : Obj) (mA : Str → Option Value), PySem.W.InstAt s.heap a oe C (some od) ∧ s.heap.get? dd = some od ∧ (∀ n, PySem.W.lookIn n od = some (mA n)) ∧ ∀ f, RelO (fs.lookup f) (mA f) := by
  obtain ⟨⟨oe, vs, he, hz, hv⟩, _⟩ := I.hok a _ ha
  obtain ⟨mA, hns, hr⟩ := (show ObjOk X.prog X.w H s.heap dd (.xd fs) from I.hok dd _ hd)
  obtain ⟨od, ho, hl⟩ := lookIn_ns hns
  exact ⟨oe, od, mA, ⟨he, hz.1, by unfold PySem.W.notCls; rw [hv] <;> rfl, by rw [hz.2]; exact ho⟩, ho, hl, hr⟩
theorem call_isiE : CallR X (.builtin "isinstance") (rIsiE X.K) := by
  intro pins s σ H xs us Q I r h
  rcases h with h | ⟨a, C, dd, fs, c, u, b, rfl, ha, hd, hc, hu, hk, q⟩
  · exact call_isi pins s σ H xs us Q I r h
  · obtain ⟨oe, od, mA, J, _⟩ := inst_kept I ha hd
    obtain ⟨u1, u2, rfl, r1, r2⟩ := r.two
    obtain rfl : u1 = Value.ref a := r1
    obtain rfl := hu.eq r2
    exact PySem.W.kia_one (kit_err hc) I.kIn J hk (fun z => nomatch z) fun tk => ⟨.bl b, H, I.tok tk, rfl, q⟩
theorem k_isiE (K : PySem.W.Frag) (h : X.K = K) : CallR X (.builtin "isinstance") (rIsiE K) := by subst h; exact call_isiE
/-- err.f of a kept error -/
def tXfK (K : PySem.W.Frag) (f : Str) (te : TE) : TE := fun σ H Q => te σ H fun x H1 => ∃ (a C dd : Addr) (fs : List (Str × V)) (v : V), x = .ref a ∧ H1 a = some (ExK (.ref C) (some dd) a) ∧ H1 dd = some (.xd fs) ∧ XfC K C ∧ PySem.W.findIn K (.ref C) f = some none ∧ fs.lookup f = some v ∧ Q v H1
theorem pe_xfK {e : Expr} {te : TE} {pos : Pos} {n : Str} (he : PE X e te) (hb : attributeBase e n X.env (eval e X.env) = eval e X.env := by rfl) : PE X (.Attribute e n pos) (tXfK X.K n te) := by
  refine ⟨fun pins s σ H Q I h => ?_⟩
  refine attr_of hb (thn (he.run pins s σ H _ I h) fun u s1 hh => ?_)
  obtain ⟨x, H1, I1, rx, a, C, dd, fs, v, ex, ha, hd, T, hno, l, q⟩ := hh
  subst ex
  obtain rfl : u = Value.ref a := rx
  obtain ⟨oe, od, mA, J, ho, hl, hr⟩ := inst_kept I1 ha hd
  obtain ⟨u, hu, ru⟩ := RelO.some_of (v := v) (o := mA n) (by rw [← l]; exact hr n)
  exact HandSPX.exc_get I1.kIn J T.ga T.gg T.exC (PySem.W.findObj_own T.hdC hno rfl (by rw [hl, hu])) (handed_of ru) ⟨v, H1, I1.tok _, ru, q⟩
end
end My

namespace My
/-! ### rows by rules, modulo a number: a rule that leads another one -/
/-- a sum of the first n -/
def sumN : Nat → (Nat → Int) → Int
  | 0, _ => 0
  | n + 1, f => sumN n f + f n
theorem sumN_congr {n : Nat} {f g : Nat → Int} (h : ∀ i, i < n → f i = g i) : sumN n f = sumN n g := by
  induction n with
  | zero => rfl
  | succ n ih => rw [sumN, sumN, ih fun i hi => h i (by omega), h n (Nat.lt_succ_self n)]
theorem sumN_zero (n : Nat) : sumN n (fun _ => 0) = 0 := by
  induction n with
  | zero => rfl
  | succ n ih => rw [sumN, ih]; rfl
theorem sumN_none {n : Nat} {f : Nat → Int} (h : ∀ i, i < n → f i = 0) : sumN n f = 0 := (sumN_congr h).trans (sumN_zero n)
theorem sumN_add (n : Nat) (f g : Nat → Int) : sumN n (fun i => f i + g i) = sumN n f + sumN n g := by
  induction n with
  | zero => rfl
  | succ n ih => rw [sumN, sumN, sumN, ih]; omega
theorem sumN_mul (n : Nat) (c : Int) (f : Nat → Int) : sumN n (fun i => c * f i) = c * sumN n f := by
  induction n with
  | zero => simp [sumN]
  | succ n ih => rw [sumN, sumN, ih, Int.mul_add]
theorem sumN_front (n : Nat) (f : Nat → Int) : sumN (n + 1) f = f 0 + sumN n fun i => f (i + 1) := by
  induction n with
  | zero => simp [sumN]
  | succ n ih => rw [sumN, ih, sumN]; omega
theorem sumN_rev (n : Nat) (f : Nat → Int) : sumN n (fun i => f (n - 1 - i)) = sumN n f := by
  induction n generalizing f with
  | zero => rfl
  | succ n ih =>
    rw [sumN_front, sumN]
    have : (sumN n fun i => f (n + 1 - 1 - (i + 1))) = sumN n f := by
      rw [← ih f]
      refine sumN_congr fun i hi => ?_
      congr 1
      omega
    rw [this]
    show f n + _ = _
    omega
theorem sumN_cut {n k : Nat} (h : k ≤ n) {f : Nat → Int} (z : ∀ i, k ≤ i → i < n → f i = 0) : sumN n f = sumN k f := by
  induction n with
  | zero => obtain rfl : k = 0 := by omega
            rfl
  | succ n ih =>
    by_cases e : k = n + 1
    · rw [e]
    · rw [sumN, z n (by omega) (Nat.lt_succ_self n), ih (by omega) fun i h1 h2 => z i h1 (by omega)]
      omega
theorem sumN_swap (n m : Nat) (f : Nat → Nat → Int) : sumN n (fun i => sumN m (f i)) = sumN m fun j => sumN n fun i => f i j := by
  induction n with
  | zero => simp only [sumN]; exact (sumN_zero m).symm
  | succ n ih =>
    rw [sumN, ih, ← sumN_add]
    rfl
theorem sumN_dvd {N : Int} {n : Nat} {f : Nat → Int} (h : ∀ i, i < n → N ∣ f i) : N ∣ sumN n f := by
  induction n with
  | zero => exact Int.dvd_zero N
  | succ n ih => exact Int.dvd_add (ih fun i hi => h i (by omega)) (h n (Nat.lt_succ_self n))
theorem sumN_only {n k : Nat} (hk : k < n) {f : Nat → Int} (z : ∀ i, i < n → i ≠ k → f i = 0) : sumN n f = f k := by
  induction n with
  | zero => omega
  | succ n ih =>
    rw [sumN]
    by_cases e : k = n
    · subst e
      rw [sumN_none fun i hi => z i (by omega) (by omega)]
      omega
    · rw [ih (by omega) fun i hi ne => z i (by omega) ne, z n (Nat.lt_succ_self n) (fun q => e q.symm)]
      omega
section
variable (N : Int) (w : List Int)
/-- the row follows the rule w -/
def Fol (r : Nat → Int) : Prop := ∀ i, N ∣ r (i + w.length) - sumN w.length fun b => w.getD b 0 * r (i + w.length - 1 - b)
/-- a power led down: k weights done -/
def updW (f : Nat → Int) (top k : Nat) : Nat → Int := fun p => if p < top ∧ top - 1 - p < k then (f p + f top * w.getD (top - 1 - p) 0) % N else f p
/-- powers from the t-th on led down -/
def ledN (f : Nat → Int) (L : Nat) : Nat → Nat → Int
  | 0 => f
  | t + 1 => updW N w (ledN f L t) (L - 1 - t) w.length
/-- what is led: the rule q as powers -/
def iniP (q : List Int) : Nat → Int := fun p => q.getD p 0 % N
/-- how many powers there are at first -/
def lenP (q : List Int) : Nat := max q.length w.length
def redP (q : List Int) : Nat → Int := ledN N w (iniP N q) (lenP w q) (lenP w q - w.length)
variable {N w}
theorem upd_same_sum (hN : 0 < N) {f r : Nat → Int} (hr : Fol N w r) {top : Nat} (ht : w.length ≤ top) (i : Nat) : N ∣ sumN top (fun p => updW N w f top w.length p * r (i + p)) - sumN (top + 1) fun p => f p * r (i + p) := by
  rw [sumN]
  have h1 : N ∣ sumN top (fun p => updW N w f top w.length p * r (i + p)) - sumN top fun p => (f p + if top - 1 - p < w.length then f top * w.getD (top - 1 - p) 0 else 0) * r (i + p) := by
    have e : sumN top (fun p => updW N w f top w.length p * r (i + p)) - sumN top (fun p => (f p + if top - 1 - p < w.length then f top * w.getD (top - 1 - p) 0 else 0) * r (i + p)) = sumN top fun p => (updW N w f top w.length p - (f p + if top - 1 - p < w.length then f top * w.getD (top - 1 - p) 0 else 0)) * r (i + p) := by
      rw [Int.sub_eq_add_neg, ← Int.neg_one_mul, ← sumN_mul, ← sumN_add]
      refine sumN_congr fun p _ => ?_
      rw [Int.neg_one_mul, ← Int.sub_eq_add_neg, Int.sub_mul]
    rw [e]
    refine sumN_dvd fun p hp => ?_
    refine Int.dvd_mul_of_dvd_left ?_
    unfold updW
    by_cases c : top - 1 - p < w.length
    · rw [if_pos ⟨hp, c⟩, if_pos c]
      have := Int.dvd_self_sub_emod (x := f p + f top * w.getD (top - 1 - p) 0) (m := N)
      rw [← Int.neg_sub]
      exact Int.dvd_neg.mpr this
    · rw [if_neg fun z => c z.2, if_neg c, Int.add_zero, Int.sub_self]
      exact Int.dvd_zero N
  have h2 : sumN top (fun p => (f p + if top - 1 - p < w.length then f top * w.getD (top - 1 - p) 0 else 0) * r (i + p)) = sumN top (fun p => f p * r (i + p)) + f top * sumN w.length fun b => w.getD b 0 * r (i + top - 1 - b) := by
    have e1 : (fun p => (f p + if top - 1 - p < w.length then f top * w.getD (top - 1 - p) 0 else 0) * r (i + p)) = fun p => f p * r (i + p) + (if top - 1 - p < w.length then f top * w.getD (top - 1 - p) 0 else 0) * r (i + p) := by
      funext p
      rw [Int.add_mul]
    rw [e1, sumN_add]
    congr 1
    rw [← sumN_mul]
    have e2 : sumN top (fun p => (if top - 1 - p < w.length then f top * w.getD (top - 1 - p) 0 else 0) * r (i + p)) = sumN top fun p => (fun b => (if b < w.length then f top * w.getD b 0 else 0) * r (i + top - 1 - b)) (top - 1 - p) := by
      refine sumN_congr fun p hp => ?_
      dsimp only
      rw [show i + top - 1 - (top - 1 - p) = i + p by omega]
    refine e2.trans ((sumN_rev top fun b => (if b < w.length then f top * w.getD b 0 else 0) * r (i + top - 1 - b)).trans ?_)
    rw [sumN_cut ht fun b h1 h2 => by rw [if_neg (by omega), Int.zero_mul]]
    refine sumN_congr fun b hb => ?_
    rw [if_pos hb, Int.mul_assoc]
  have h3 : N ∣ f top * sumN w.length (fun b => w.getD b 0 * r (i + top - 1 - b)) - f top * r (i + top) := by
    rw [← Int.mul_sub]
    refine Int.dvd_mul_of_dvd_right ?_
    have := hr (i + top - w.length)
    rw [show i + top - w.length + w.length = i + top by omega] at this
    rw [← Int.neg_sub]
    exact Int.dvd_neg.mpr this
  rw [h2] at h1
  have h4 := Int.dvd_add h1 h3
  have e : ∀ a b c d : Int, (a - (b + c)) + (c - d) = a - (b + d) := fun a b c d => by omega
  rw [e] at h4
  exact h4
theorem led_sum (hN : 0 < N) {f r : Nat → Int} (hr : Fol N w r) {L : Nat} (i : Nat) : ∀ t, t + w.length ≤ L → N ∣ sumN (L - t) (fun p => ledN N w f L t p * r (i + p)) - sumN L fun p => f p * r (i + p)
  | 0, _ => by rw [Nat.sub_zero]; exact ⟨0, by rw [Int.mul_zero]; exact Int.sub_self _⟩
  | t + 1, h => by
    have ih := led_sum hN (f := f) hr (L := L) i t (by omega)
    have h1 := upd_same_sum hN (f := ledN N w f L t) hr (top := L - 1 - t) (by omega) i
    rw [show L - 1 - t + 1 = L - t by omega] at h1
    rw [show L - (t + 1) = L - 1 - t by omega]
    have := Int.dvd_add h1 ih
    rw [show ∀ a b c : Int, a - b + (b - c) = a - c from fun a b c => by omega] at this
    exact this
/-- led powers tell the same of all rows by the rule -/
theorem red_sum (hN : 0 < N) {r : Nat → Int} (hr : Fol N w r) (q : List Int) (i : Nat) : N ∣ sumN w.length (fun p => redP N w q p * r (i + p)) - sumN q.length fun p => q.getD p 0 * r (i + p) := by
  have h1 := led_sum hN (f := iniP N q) hr (L := lenP w q) i (lenP w q - w.length) (by unfold lenP; omega)
  rw [show lenP w q - (lenP w q - w.length) = w.length by unfold lenP; omega] at h1
  have h2 : N ∣ sumN (lenP w q) (fun p => iniP N q p * r (i + p)) - sumN q.length fun p => q.getD p 0 * r (i + p) := by
    rw [← sumN_cut (n := lenP w q) (k := q.length) (f := fun p => q.getD p 0 * r (i + p)) (by unfold lenP; omega) fun p h1 _ => by rw [List.getD_eq_getElem?_getD, List.getElem?_eq_none h1]; exact Int.zero_mul _]
    have e : sumN (lenP w q) (fun p => iniP N q p * r (i + p)) - sumN (lenP w q) (fun p => q.getD p 0 * r (i + p)) = sumN (lenP w q) fun p => (iniP N q p - q.getD p 0) * r (i + p) := by
      rw [Int.sub_eq_add_neg, ← Int.neg_one_mul, ← sumN_mul, ← sumN_add]
      refine sumN_congr fun p _ => ?_
      rw [Int.neg_one_mul, ← Int.sub_eq_add_neg, Int.sub_mul]
    rw [e]
    refine sumN_dvd fun p _ => Int.dvd_mul_of_dvd_left ?_
    unfold iniP
    have := Int.dvd_self_sub_emod (x := q.getD p 0) (m := N)
    rw [← Int.neg_sub]
    exact Int.dvd_neg.mpr this
  have := Int.dvd_add h1 h2
  rw [show ∀ a b c : Int, a - b + (b - c) = a - c from fun a b c => by omega] at this
  exact this
theorem led_range (hN : 0 < N) {f : Nat → Int} (hf : ∀ p, 0 ≤ f p ∧ f p < N) (L : Nat) : ∀ t p, 0 ≤ ledN N w f L t p ∧ ledN N w f L t p < N
  | 0, p => hf p
  | t + 1, p => by
    rw [ledN]
    unfold updW
    split
    · exact ⟨Int.emod_nonneg _ (by omega), Int.emod_lt_of_pos _ hN⟩
    · exact led_range hN hf L t p
theorem red_range (hN : 0 < N) (q : List Int) (p : Nat) : 0 ≤ redP N w q p ∧ redP N w q p < N := led_range hN (fun p => ⟨Int.emod_nonneg _ (by omega), Int.emod_lt_of_pos _ hN⟩) _ _ _
/-- where all is led to nought, all rows by the rule tell nought -/
theorem red_none (hN : 0 < N) {r : Nat → Int} (hr : Fol N w r) {q : List Int} (hz : ∀ p, p < w.length → redP N w q p = 0) (i : Nat) : N ∣ sumN q.length fun p => q.getD p 0 * r (i + p) := by
  have := red_sum hN hr q i
  rw [sumN_none fun p hp => by rw [hz p hp, Int.zero_mul], Int.zero_sub] at this
  exact Int.dvd_neg.mp this
/-- the last one alone -/
def Alo (m : Nat) (r : Nat → Int) : Prop := (∀ p, p + 1 < m → r p = 0) ∧ (0 < m → r (m - 1) = -1)
/-- otherwise the row from the last one alone tells where it first does not -/
theorem red_some (hN : 0 < N) {r : Nat → Int} (hr : Fol N w r) (ha : Alo w.length r) {q : List Int} {t : Nat} (ht : t < w.length) (hn : redP N w q t ≠ 0) (hz : ∀ p, t < p → p < w.length → redP N w q p = 0) :
    (∀ i, i < w.length - 1 - t → N ∣ sumN q.length fun p => q.getD p 0 * r (i + p)) ∧ ¬ N ∣ sumN q.length fun p => q.getD p 0 * r (w.length - 1 - t + p) := by
  constructor
  · intro i hi
    have := red_sum hN hr q i
    rw [sumN_none fun p hp => ?_, Int.zero_sub] at this
    · exact Int.dvd_neg.mp this
    · by_cases c : t < p
      · rw [hz p c hp, Int.zero_mul]
      · rw [ha.1 _ (by omega), Int.mul_zero]
  · intro hd
    have h1 := red_sum hN hr q (w.length - 1 - t)
    have h2 := Int.dvd_add h1 hd
    rw [show ∀ a b : Int, a - b + b = a from fun a b => by omega, sumN_only (k := t) ht fun p hp ne => ?_] at h2
    · rw [show w.length - 1 - t + t = w.length - 1 by omega, ha.2 (by omega), Int.mul_neg_one] at h2
      have h3 := Int.dvd_neg.mp h2
      obtain ⟨r1, r2⟩ := red_range (w := w) hN q t
      have := Int.le_of_dvd (by omega) h3
      omega
    · by_cases c : t < p
      · rw [hz p c hp, Int.zero_mul]
      · rw [ha.1 _ (by omega), Int.mul_zero]
end
/-- the rule as powers -/
def asP (u : List Int) : List Int := u.reverse.map (fun x => -x) ++ [1]
theorem asP_len (u : List Int) : (asP u).length = u.length + 1 := by unfold asP; rw [List.length_append, List.length_map, List.length_reverse]; rfl
/-- what the powers tell: the next one less the sum -/
theorem asP_sum (u : List Int) (r : Nat → Int) (i : Nat) : (sumN (asP u).length fun p => (asP u).getD p 0 * r (i + p)) = r (i + u.length) - sumN u.length fun b => u.getD b 0 * r (i + u.length - 1 - b) := by
  rw [asP_len, sumN]
  have e1 : (asP u).getD u.length 0 = 1 := by
    unfold asP
    rw [List.getD_eq_getElem?_getD, List.getElem?_append_right (by rw [List.length_map, List.length_reverse]; exact Nat.le_refl _), List.length_map, List.length_reverse, Nat.sub_self]
    rfl
  have e2 : (sumN u.length fun p => (asP u).getD p 0 * r (i + p)) = - sumN u.length fun b => u.getD b 0 * r (i + u.length - 1 - b) := by
    rw [← sumN_rev u.length fun b => u.getD b 0 * r (i + u.length - 1 - b), ← Int.neg_one_mul, ← sumN_mul]
    refine sumN_congr fun p hp => ?_
    have e3 : (asP u).getD p 0 = -(u.getD (u.length - 1 - p) 0) := by
      unfold asP
      rw [List.getD_eq_getElem?_getD, List.getElem?_append_left (by rw [List.length_map, List.length_reverse]; exact hp), List.getElem?_map, List.getElem?_reverse hp, List.getD_eq_getElem?_getD, List.getElem?_eq_getElem (by omega)]
      rfl
    rw [e3, show i + u.length - 1 - (u.length - 1 - p) = i + p by omega, Int.neg_mul, Int.neg_one_mul]
  rw [e1, e2, Int.one_mul]
  omega
theorem fol_asP {N : Int} {w : List Int} {r : Nat → Int} : Fol N w r ↔ ∀ i, N ∣ sumN (asP w).length fun p => (asP w).getD p 0 * r (i + p) := by
  unfold Fol
  constructor
  · intro h i; rw [asP_sum]; exact h i
  · intro h i; have := h i; rwa [asP_sum] at this
end My

namespace My
/-! ### products of rules -/
theorem sumN_split (s n : Nat) (f : Nat → Int) : sumN (s + n) f = sumN s f + sumN n fun i => f (s + i) := by
  induction n with
  | zero => simp [sumN]
  | succ n ih => rw [← Nat.add_assoc, sumN, ih, sumN]; omega
theorem sumN_shift {L s b : Nat} (h : s + b ≤ L) (g : Nat → Int) : sumN L (fun k => if s ≤ k ∧ k - s < b then g (k - s) else 0) = sumN b g := by
  obtain ⟨n, rfl⟩ := Nat.le.dest (show s ≤ L by omega)
  rw [sumN_split, sumN_none fun k hk => if_neg (by omega), Int.zero_add, sumN_cut (k := b) (by omega) fun i h1 _ => if_neg (by omega)]
  refine sumN_congr fun i hi => ?_
  rw [if_pos (by omega), show s + i - s = i by omega]
/-- the product's powers, spots below i done, places below j of the i-th -/
def cvF (A B : List Int) (i j : Nat) (k : Nat) : Int := (sumN i fun s => if s ≤ k ∧ k - s < B.length then A.getD s 0 * B.getD (k - s) 0 else 0) + if i ≤ k ∧ k - i < j then A.getD i 0 * B.getD (k - i) 0 else 0
theorem cvF_nil (A B : List Int) (k : Nat) : cvF A B 0 0 k = 0 := by
  unfold cvF
  rw [if_neg (by omega)]
  rfl
theorem cvF_step (A B : List Int) (i j k : Nat) : cvF A B i (j + 1) k = if k = i + j then cvF A B i j k + A.getD i 0 * B.getD j 0 else cvF A B i j k := by
  unfold cvF
  by_cases c : k = i + j
  · rw [if_pos c, if_pos (by omega), if_neg (by omega), show k - i = j by omega]
    omega
  · rw [if_neg c]
    congr 1
    by_cases c2 : i ≤ k ∧ k - i < j
    · rw [if_pos c2, if_pos (by omega)]
    · rw [if_neg c2, if_neg (by omega)]
theorem cvF_next (A B : List Int) (i k : Nat) : cvF A B i B.length k = cvF A B (i + 1) 0 k := by
  unfold cvF
  rw [if_neg (show ¬ (i + 1 ≤ k ∧ k - (i + 1) < 0) by omega), sumN, Int.add_zero]
/-- the product -/
def prodF (A B : List Int) (k : Nat) : Int := cvF A B A.length 0 k
theorem prodF_eq (A B : List Int) (k : Nat) : prodF A B k = sumN A.length fun s => if s ≤ k ∧ k - s < B.length then A.getD s 0 * B.getD (k - s) 0 else 0 := by
  unfold prodF cvF
  rw [if_neg (by omega), Int.add_zero]
theorem prodF_sum (A B : List Int) (hB : 0 < B.length) (r : Nat → Int) (i : Nat) : (sumN (A.length + B.length - 1) fun k => prodF A B k * r (i + k)) = sumN B.length fun t => B.getD t 0 * sumN A.length fun s => A.getD s 0 * r (i + t + s) := by
  have e1 : (sumN (A.length + B.length - 1) fun k => prodF A B k * r (i + k)) = sumN (A.length + B.length - 1) fun k => sumN A.length fun s => if s ≤ k ∧ k - s < B.length then A.getD s 0 * B.getD (k - s) 0 * r (i + s + (k - s)) else 0 := by
    refine sumN_congr fun k _ => ?_
    rw [prodF_eq, Int.mul_comm, ← sumN_mul]
    refine sumN_congr fun s _ => ?_
    by_cases c : s ≤ k ∧ k - s < B.length
    · rw [if_pos c, if_pos c, Int.mul_comm, show i + s + (k - s) = i + k by omega]
    · rw [if_neg c, if_neg c, Int.mul_zero]
  rw [e1, sumN_swap]
  have e2 : (sumN A.length fun s => sumN (A.length + B.length - 1) fun k => if s ≤ k ∧ k - s < B.length then A.getD s 0 * B.getD (k - s) 0 * r (i + s + (k - s)) else 0) = sumN A.length fun s => sumN B.length fun t => A.getD s 0 * B.getD t 0 * r (i + s + t) := by
    refine sumN_congr fun s hs => ?_
    exact sumN_shift (g := fun t => A.getD s 0 * B.getD t 0 * r (i + s + t)) (by omega)
  rw [e2, sumN_swap]
  refine sumN_congr fun t _ => ?_
  rw [← sumN_mul]
  refine sumN_congr fun s _ => ?_
  rw [Int.mul_comm (A.getD s 0), Int.mul_assoc, show i + s + t = i + t + s by omega]
/-- as a rule again -/
def prodL (A B : List Int) : List Int := (((List.range (A.length + B.length - 2)).map fun k => -prodF A B k)).reverse
theorem prodL_len (A B : List Int) : (prodL A B).length = A.length + B.length - 2 := by unfold prodL; rw [List.length_reverse, List.length_map, List.length_range]
theorem asP_last (u : List Int) : (asP u).getD u.length 0 = 1 := by
  unfold asP
  rw [List.getD_eq_getElem?_getD, List.getElem?_append_right (by rw [List.length_map, List.length_reverse]; exact Nat.le_refl _), List.length_map, List.length_reverse, Nat.sub_self]
  rfl
theorem prod_tell (w u : List Int) (r : Nat → Int) (i : Nat) : (sumN (asP (prodL (asP w) (asP u))).length fun p => (asP (prodL (asP w) (asP u))).getD p 0 * r (i + p)) = sumN (asP u).length fun t => (asP u).getD t 0 * sumN (asP w).length fun s => (asP w).getD s 0 * r (i + t + s) := by
  rw [← prodF_sum (asP w) (asP u) (by rw [asP_len]; omega), asP_len, prodL_len, asP_len, asP_len]
  rw [show w.length + 1 + (u.length + 1) - 2 + 1 = w.length + 1 + (u.length + 1) - 1 by omega]
  refine sumN_congr fun k hk => ?_
  congr 1
  by_cases c : k = w.length + u.length
  · have e : (asP (prodL (asP w) (asP u))).getD k 0 = 1 := by
      have := asP_last (prodL (asP w) (asP u))
      rw [prodL_len, asP_len, asP_len] at this
      rw [c, ← this]
      congr 1
      omega
    rw [e, prodF_eq, asP_len, sumN_only (k := w.length) (Nat.lt_succ_self _) fun s hs ne => by rw [if_neg (by rw [asP_len]; omega)], if_pos (by rw [asP_len]; omega), asP_last, show k - w.length = u.length by omega, asP_last]
    rfl
  · have hk2 : k < w.length + 1 + (u.length + 1) - 2 := by omega
    unfold asP
    rw [List.getD_eq_getElem?_getD, List.getElem?_append_left (by rw [List.length_map, List.length_reverse, prodL_len]; simp; omega), List.getElem?_map]
    unfold prodL
    rw [List.reverse_reverse, List.getElem?_map, List.getElem?_range (by simp; omega)]
    show - -(_ : Int) = _
    rw [Int.neg_neg]
theorem fol_prod {N : Int} {w u : List Int} {r : Nat → Int} (h : Fol N w r) (i : Nat) : N ∣ sumN (asP (prodL (asP w) (asP u))).length fun p => (asP (prodL (asP w) (asP u))).getD p 0 * r (i + p) := by
  rw [prod_tell]
  exact sumN_dvd fun t _ => Int.dvd_mul_of_dvd_right (fol_asP.mp h (i + t))
theorem sumN_abs {n : Nat} {f : Nat → Int} {c : Nat} (h : ∀ i, i < n → (f i).natAbs ≤ c) : (sumN n f).natAbs ≤ n * c := by
  induction n with
  | zero => simp [sumN]
  | succ n ih =>
    rw [sumN]
    have h1 := ih fun i hi => h i (by omega)
    have h2 := h n (Nat.lt_succ_self n)
    have h3 := Int.natAbs_add_le (sumN n f) (f n)
    rw [Nat.succ_mul]
    omega
theorem small_getD {A : List Int} {c : Nat} (h : ∀ x ∈ A, x.natAbs ≤ c) (i : Nat) : (A.getD i 0).natAbs ≤ c := by
  rw [List.getD_eq_getElem?_getD]
  by_cases hi : i < A.length
  · rw [List.getElem?_eq_getElem hi]
    exact h _ (List.getElem_mem hi)
  · rw [List.getElem?_eq_none (by omega)]
    exact Nat.zero_le _
theorem asP_small {u : List Int} {c : Nat} (hc : 1 ≤ c) (h : ∀ x ∈ u, x.natAbs ≤ c) : ∀ x ∈ asP u, x.natAbs ≤ c := by
  intro x hx
  unfold asP at hx
  rcases List.mem_append.mp hx with hx | hx
  · obtain ⟨y, hy, rfl⟩ := List.mem_map.mp hx
    rw [Int.natAbs_neg]
    exact h y (List.mem_reverse.mp hy)
  · rw [List.mem_singleton.mp hx]
    exact hc
theorem cvF_small {A B : List Int} (hA : ∀ x ∈ A, x.natAbs ≤ 3) (hB : ∀ x ∈ B, x.natAbs ≤ 3) {i j k : Nat} (hi : i ≤ 8) : (cvF A B i j k).natAbs ≤ 100 := by
  have one : ∀ s t, (A.getD s 0 * B.getD t 0).natAbs ≤ 9 := fun s t => by
    rw [Int.natAbs_mul]
    exact Nat.mul_le_mul (small_getD hA s) (small_getD hB t)
  unfold cvF
  have h1 : (sumN i fun s => if s ≤ k ∧ k - s < B.length then A.getD s 0 * B.getD (k - s) 0 else 0).natAbs ≤ i * 9 := sumN_abs fun s _ => by
    split
    · exact one _ _
    · exact Nat.zero_le _
  have h2 : (if i ≤ k ∧ k - i < j then A.getD i 0 * B.getD (k - i) 0 else 0).natAbs ≤ 9 := by
    split
    · exact one _ _
    · exact Nat.zero_le _
  have h3 := Int.natAbs_add_le (sumN i fun s => if s ≤ k ∧ k - s < B.length then A.getD s 0 * B.getD (k - s) 0 else 0) (if i ≤ k ∧ k - i < j then A.getD i 0 * B.getD (k - i) 0 else 0)
  omega
theorem prodL_small {A B : List Int} (hA : ∀ x ∈ A, x.natAbs ≤ 3) (hB : ∀ x ∈ B, x.natAbs ≤ 3) (h : A.length ≤ 8) : ∀ x ∈ prodL A B, x.natAbs ≤ 100 := by
  intro x hx
  unfold prodL at hx
  obtain ⟨k, _, rfl⟩ := List.mem_map.mp (List.mem_reverse.mp hx)
  rw [Int.natAbs_neg]
  exact cvF_small hA hB h
end My

namespace My
open PySem PySem.Spec PyProof.Rows L2
theorem nil_binds {K : PySem.W.Frag} {fd : FuncData} {ps : List Str} (h : ∃ ds, Vals [] ds ∧ Binds K fd ps ds) : Binds K fd ps [] := by
  obtain ⟨ds, v, b⟩ := h
  cases v
  exact b
def top (i : Nat) : Stmt := PySem.Challenge.pw_wholesound_k24_rules_that_lead_all.main.body.getD i (.Pass ⟨0, 0, 0, 0⟩)
abbrev s_is_whole : Stmt := top 6
abbrev N_is_whole : List Str := ["value"]
theorem sc_is_whole : FnScope N_is_whole ["value"] (defScope s_is_whole) := ⟨rfl, rfl, rfl, by decide +kernel, rfl, by decide +kernel, by decide +kernel⟩
abbrev s_is_between : Stmt := top 7
abbrev N_is_between : List Str := ["value", "low", "high"]
theorem sc_is_between : FnScope N_is_between ["value", "low", "high"] (defScope s_is_between) := ⟨rfl, rfl, rfl, by decide +kernel, rfl, by decide +kernel, by decide +kernel⟩
abbrev s_are_wholes : Stmt := top 8
abbrev N_are_wholes : List Str := ["value", "item"]
theorem sc_are_wholes : FnScope N_are_wholes ["value"] (defScope s_are_wholes) := ⟨rfl, rfl, rfl, by decide +kernel, rfl, by decide +kernel, by decide +kernel⟩
abbrev s_check_depth : Stmt := top 9
abbrev N_check_depth : List Str := ["depth", "most"]
theorem sc_check_depth : FnScope N_check_depth ["depth", "most"] (defScope s_check_depth) := ⟨rfl, rfl, rfl, by decide +kernel, rfl, by decide +kernel, by decide +kernel⟩
abbrev s_reduced : Stmt := top 11
abbrev N_reduced : List Str := ["weights", "powers", "size", "many", "found", "top", "head", "back", "weight", "number"]
theorem sc_reduced : FnScope N_reduced ["weights", "powers", "size"] (defScope s_reduced) := ⟨rfl, rfl, rfl, by decide +kernel, rfl, by decide +kernel, by decide +kernel⟩
abbrev s_check_rule : Stmt := top 15
abbrev N_check_rule : List Str := ["weights", "weight"]
theorem sc_check_rule : FnScope N_check_rule ["weights"] (defScope s_check_rule) := ⟨rfl, rfl, rfl, by decide +kernel, rfl, by decide +kernel, by decide +kernel⟩
abbrev s_last_alone : Stmt := top 16
abbrev N_last_alone : List Str := ["weights"]
theorem sc_last_alone : FnScope N_last_alone ["weights"] (defScope s_last_alone) := ⟨rfl, rfl, rfl, by decide +kernel, rfl, by decide +kernel, by decide +kernel⟩
abbrev s_leads_all : Stmt := top 17
abbrev N_leads_all : List Str := ["depth", "one", "other", "powers", "tops", "spot", "number", "weight"]
theorem sc_leads_all : FnScope N_leads_all ["depth", "one", "other"] (defScope s_leads_all) := ⟨rfl, rfl, rfl, by decide +kernel, rfl, by decide +kernel, by decide +kernel⟩
abbrev s_law_hash : Stmt := top 19
abbrev N_law_hash : List Str := ["_law_seed", "_law_index", "_law_mixed"]
theorem sc_law_hash : FnScope N_law_hash ["_law_seed", "_law_index"] (defScope s_law_hash) := ⟨rfl, rfl, rfl, by decide +kernel, rfl, by decide +kernel, by decide +kernel⟩
abbrev s_law_generator : Stmt := top 20
abbrev N_law_generator : List Str := ["_law_script", "_law_index", "_law_seed"]
theorem sc_law_generator : FnScope N_law_generator ["_law_script", "_law_index"] (defScope s_law_generator) := ⟨rfl, rfl, rfl, by decide +kernel, rfl, by decide +kernel, by decide +kernel⟩
abbrev s_law_random : Stmt := top 21
abbrev N_law_random : List Str := ["_law_generator_here", "_law_bound", "_law_drawn", "_law_turn"]
theorem sc_law_random : FnScope N_law_random ["_law_generator_here", "_law_bound"] (defScope s_law_random) := ⟨rfl, rfl, rfl, by decide +kernel, rfl, by decide +kernel, by decide +kernel⟩
abbrev s_law_row : Stmt := top 22
abbrev N_law_row : List Str := ["_law_generator_here", "_law_depth", "_law_many", "_law_turn"]
theorem sc_law_row : FnScope N_law_row ["_law_generator_here", "_law_depth", "_law_many"] (defScope s_law_row) := ⟨rfl, rfl, rfl, by decide +kernel, rfl, by decide +kernel, by decide +kernel⟩
abbrev s_law_weights : Stmt := top 23
abbrev N_law_weights : List Str := ["_law_generator_here", "_law_many", "_law_found", "_law_turn", "_law_small_here", "_law_great"]
theorem sc_law_weights : FnScope N_law_weights ["_law_generator_here", "_law_many"] (defScope s_law_weights) := ⟨rfl, rfl, rfl, by decide +kernel, rfl, by decide +kernel, by decide +kernel⟩
abbrev s_law_sum : Stmt := top 24
abbrev N_law_sum : List Str := ["_law_weights_here", "_law_row_here", "_law_spot", "_law_back"]
theorem sc_law_sum : FnScope N_law_sum ["_law_weights_here", "_law_row_here", "_law_spot"] (defScope s_law_sum) := ⟨rfl, rfl, rfl, by decide +kernel, rfl, by decide +kernel, by decide +kernel⟩
abbrev s_law_gone : Stmt := top 25
abbrev N_law_gone : List Str := ["_law_depth", "_law_weights_here", "_law_firsts", "_law_many", "_law_row_here", "_law_half"]
theorem sc_law_gone : FnScope N_law_gone ["_law_depth", "_law_weights_here", "_law_firsts", "_law_many"] (defScope s_law_gone) := ⟨rfl, rfl, rfl, by decide +kernel, rfl, by decide +kernel, by decide +kernel⟩
abbrev s_law_follows : Stmt := top 26
abbrev N_law_follows : List Str := ["_law_depth", "_law_weights_here", "_law_row_here", "_law_spot"]
theorem sc_law_follows : FnScope N_law_follows ["_law_depth", "_law_weights_here", "_law_row_here"] (defScope s_law_follows) := ⟨rfl, rfl, rfl, by decide +kernel, rfl, by decide +kernel, by decide +kernel⟩
abbrev s_law_product : Stmt := top 27
abbrev N_law_product : List Str := ["_law_one", "_law_other", "_law_found", "_law_spot", "_law_first", "_law_second", "_law_place", "_law_number", "_law_weight"]
theorem sc_law_product : FnScope N_law_product ["_law_one", "_law_other"] (defScope s_law_product) := ⟨rfl, rfl, rfl, by decide +kernel, rfl, by decide +kernel, by decide +kernel⟩
abbrev s_law_small : Stmt := top 28
abbrev N_law_small : List Str := ["_law_generator_here", "_law_many", "_law_turn"]
theorem sc_law_small : FnScope N_law_small ["_law_generator_here", "_law_many"] (defScope s_law_small) := ⟨rfl, rfl, rfl, by decide +kernel, rfl, by decide +kernel, by decide +kernel⟩
abbrev s_law_lists : Stmt := top 29
abbrev N_law_lists : List Str := ["_law_depth", "_law_many", "_law_found", "_law_turn", "_law_longer", "_law_one", "_law_sample"]
theorem sc_law_lists : FnScope N_law_lists ["_law_depth", "_law_many"] (defScope s_law_lists) := ⟨rfl, rfl, rfl, by decide +kernel, rfl, by decide +kernel, by decide +kernel⟩
abbrev s_law_failing : Stmt := top 30
abbrev N_law_failing : List Str := ["_law_depth", "_law_one", "_law_firsts", "_law_other", "_law_many", "_law_row_here", "_law_spot"]
theorem sc_law_failing : FnScope N_law_failing ["_law_depth", "_law_one", "_law_firsts", "_law_other"] (defScope s_law_failing) := ⟨rfl, rfl, rfl, by decide +kernel, rfl, by decide +kernel, by decide +kernel⟩
abbrev s_law_good : Stmt := top 31
abbrev N_law_good : List Str := ["_law_generator_here", "_law_depth", "_law_one", "_law_other", "_law_some", "_law_given", "_law_alone", "_law_told", "_law_place", "_law_turn", "_law_firsts"]
theorem sc_law_good : FnScope N_law_good ["_law_generator_here", "_law_depth", "_law_one", "_law_other"] (defScope s_law_good) := ⟨rfl, rfl, rfl, by decide +kernel, rfl, by decide +kernel, by decide +kernel⟩
abbrev s_law_caught : Stmt := top 32
abbrev N_law_caught : List Str := ["_law_given", "_law_error", "e", "_law_kinds"]
theorem sc_law_caught : FnScope N_law_caught ["_law_given"] (defScope s_law_caught) := ⟨rfl, rfl, rfl, by decide +kernel, rfl, by decide +kernel, by decide +kernel⟩
abbrev s_law_refused : Stmt := top 33
abbrev N_law_refused : List Str := ["_law_bad"]
theorem sc_law_refused : FnScope N_law_refused [] (defScope s_law_refused) := ⟨rfl, rfl, rfl, by decide +kernel, rfl, by decide +kernel, by decide +kernel⟩
abbrev s_law : Stmt := top 34
abbrev N_law : List Str := ["_law_script", "_law_index", "_law_told", "_law_generator_here", "_law_depth", "_law_one", "_law_other", "_law_more", "_law_bent", "_law_drawn", "_law_rules", "_law_at", "_law_weight"]
theorem sc_law : FnScope N_law ["_law_script"] (defScope s_law) := ⟨rfl, rfl, rfl, by decide +kernel, rfl, by decide +kernel, by decide +kernel⟩
abbrev s_InvalidDepth___init__ : Stmt := inClass (top 2) 0
theorem nsc_InvalidDepth : NdefX.NScope ["self", "value", "__class__"] ["self", "value"] ["__class__"] (defScope s_InvalidDepth___init__) := NdefX.nscope_by (by decide +kernel)
theorem sb_InvalidDepth : Sup.SupBody s_InvalidDepth___init__ := ⟨_, _, _, _, _, _, _, _, _, _, rfl, by decide +kernel, fun env => ⟨_, rfl⟩⟩
abbrev s_InvalidWeights___init__ : Stmt := inClass (top 3) 0
theorem nsc_InvalidWeights : NdefX.NScope ["self", "value", "__class__"] ["self", "value"] ["__class__"] (defScope s_InvalidWeights___init__) := NdefX.nscope_by (by decide +kernel)
theorem sb_InvalidWeights : Sup.SupBody s_InvalidWeights___init__ := ⟨_, _, _, _, _, _, _, _, _, _, rfl, by decide +kernel, fun env => ⟨_, rfl⟩⟩
def fileS : Str := PySem.Challenge.pw_wholesound_k24_rules_that_lead_all.main.file
/-- what the top has left -/
structure Top (K : PySem.W.Frag) (mg : Str → Option Value) where
  f_is_whole : Addr
  fd_is_whole : FuncData
  F_is_whole : FunD K "is_whole" "is_whole" (defArgs s_is_whole) (defBody s_is_whole) (defScope s_is_whole) [] [] f_is_whole fd_is_whole
  b_is_whole : Binds K fd_is_whole ["value"] []
  g_is_whole : mg "is_whole" = some (.ref f_is_whole)
  f_is_between : Addr
  fd_is_between : FuncData
  F_is_between : FunD K "is_between" "is_between" (defArgs s_is_between) (defBody s_is_between) (defScope s_is_between) [] [] f_is_between fd_is_between
  b_is_between : Binds K fd_is_between ["value", "low", "high"] []
  g_is_between : mg "is_between" = some (.ref f_is_between)
  f_are_wholes : Addr
  fd_are_wholes : FuncData
  F_are_wholes : FunD K "are_wholes" "are_wholes" (defArgs s_are_wholes) (defBody s_are_wholes) (defScope s_are_wholes) [] [] f_are_wholes fd_are_wholes
  b_are_wholes : Binds K fd_are_wholes ["value"] []
  g_are_wholes : mg "are_wholes" = some (.ref f_are_wholes)
  f_check_depth : Addr
  fd_check_depth : FuncData
  F_check_depth : FunD K "check_depth" "check_depth" (defArgs s_check_depth) (defBody s_check_depth) (defScope s_check_depth) [.int 24] [] f_check_depth fd_check_depth
  b_check_depth : Binds K fd_check_depth ["depth", "most"] []
  g_check_depth : mg "check_depth" = some (.ref f_check_depth)
  e0_check_depth : List Value
  v0_check_depth : Vals [.int 24] e0_check_depth
  b0_check_depth : Binds K fd_check_depth ["depth", "most"] e0_check_depth
  f_reduced : Addr
  fd_reduced : FuncData
  F_reduced : FunD K "reduced" "reduced" (defArgs s_reduced) (defBody s_reduced) (defScope s_reduced) [] [] f_reduced fd_reduced
  b_reduced : Binds K fd_reduced ["weights", "powers", "size"] []
  g_reduced : mg "reduced" = some (.ref f_reduced)
  f_check_rule : Addr
  fd_check_rule : FuncData
  F_check_rule : FunD K "check_rule" "check_rule" (defArgs s_check_rule) (defBody s_check_rule) (defScope s_check_rule) [] [] f_check_rule fd_check_rule
  b_check_rule : Binds K fd_check_rule ["weights"] []
  g_check_rule : mg "check_rule" = some (.ref f_check_rule)
  f_last_alone : Addr
  fd_last_alone : FuncData
  F_last_alone : FunD K "last_alone" "last_alone" (defArgs s_last_alone) (defBody s_last_alone) (defScope s_last_alone) [] [] f_last_alone fd_last_alone
  b_last_alone : Binds K fd_last_alone ["weights"] []
  g_last_alone : mg "last_alone" = some (.ref f_last_alone)
  f_leads_all : Addr
  fd_leads_all : FuncData
  F_leads_all : FunD K "leads_all" "leads_all" (defArgs s_leads_all) (defBody s_leads_all) (defScope s_leads_all) [] [] f_leads_all fd_leads_all
  b_leads_all : Binds K fd_leads_all ["depth", "one", "other"] []
  g_leads_all : mg "leads_all" = some (.ref f_leads_all)
  f_law_hash : Addr
  fd_law_hash : FuncData
  F_law_hash : FunD K "_law_hash" "_law_hash" (defArgs s_law_hash) (defBody s_law_hash) (defScope s_law_hash) [] [] f_law_hash fd_law_hash
  b_law_hash : Binds K fd_law_hash ["_law_seed", "_law_index"] []
  g_law_hash : mg "_law_hash" = some (.ref f_law_hash)
  f_law_generator : Addr
  fd_law_generator : FuncData
  F_law_generator : FunD K "_law_generator" "_law_generator" (defArgs s_law_generator) (defBody s_law_generator) (defScope s_law_generator) [] [] f_law_generator fd_law_generator
  b_law_generator : Binds K fd_law_generator ["_law_script", "_law_index"] []
  g_law_generator : mg "_law_generator" = some (.ref f_law_generator)
  f_law_random : Addr
  fd_law_random : FuncData
  F_law_random : FunD K "_law_random" "_law_random" (defArgs s_law_random) (defBody s_law_random) (defScope s_law_random) [] [] f_law_random fd_law_random
  b_law_random : Binds K fd_law_random ["_law_generator_here", "_law_bound"] []
  g_law_random : mg "_law_random" = some (.ref f_law_random)
  f_law_row : Addr
  fd_law_row : FuncData
  F_law_row : FunD K "_law_row" "_law_row" (defArgs s_law_row) (defBody s_law_row) (defScope s_law_row) [] [] f_law_row fd_law_row
  b_law_row : Binds K fd_law_row ["_law_generator_here", "_law_depth", "_law_many"] []
  g_law_row : mg "_law_row" = some (.ref f_law_row)
  f_law_weights : Addr
  fd_law_weights : FuncData
  F_law_weights : FunD K "_law_weights" "_law_weights" (defArgs s_law_weights) (defBody s_law_weights) (defScope s_law_weights) [] [] f_law_weights fd_law_weights
  b_law_weights : Binds K fd_law_weights ["_law_generator_here", "_law_many"] []
  g_law_weights : mg "_law_weights" = some (.ref f_law_weights)
  f_law_sum : Addr
  fd_law_sum : FuncData
  F_law_sum : FunD K "_law_sum" "_law_sum" (defArgs s_law_sum) (defBody s_law_sum) (defScope s_law_sum) [] [] f_law_sum fd_law_sum
  b_law_sum : Binds K fd_law_sum ["_law_weights_here", "_law_row_here", "_law_spot"] []
  g_law_sum : mg "_law_sum" = some (.ref f_law_sum)
  f_law_gone : Addr
  fd_law_gone : FuncData
  F_law_gone : FunD K "_law_gone" "_law_gone" (defArgs s_law_gone) (defBody s_law_gone) (defScope s_law_gone) [] [] f_law_gone fd_law_gone
  b_law_gone : Binds K fd_law_gone ["_law_depth", "_law_weights_here", "_law_firsts", "_law_many"] []
  g_law_gone : mg "_law_gone" = some (.ref f_law_gone)
  f_law_follows : Addr
  fd_law_follows : FuncData
  F_law_follows : FunD K "_law_follows" "_law_follows" (defArgs s_law_follows) (defBody s_law_follows) (defScope s_law_follows) [] [] f_law_follows fd_law_follows
  b_law_follows : Binds K fd_law_follows ["_law_depth", "_law_weights_here", "_law_row_here"] []
  g_law_follows : mg "_law_follows" = some (.ref f_law_follows)
  f_law_product : Addr
  fd_law_product : FuncData
  F_law_product : FunD K "_law_product" "_law_product" (defArgs s_law_product) (defBody s_law_product) (defScope s_law_product) [] [] f_law_product fd_law_product
  b_law_product : Binds K fd_law_product ["_law_one", "_law_other"] []
  g_law_product : mg "_law_product" = some (.ref f_law_product)
  f_law_small : Addr
  fd_law_small : FuncData
  F_law_small : FunD K "_law_small" "_law_small" (defArgs s_law_small) (defBody s_law_small) (defScope s_law_small) [] [] f_law_small fd_law_small
  b_law_small : Binds K fd_law_small ["_law_generator_here", "_law_many"] []
  g_law_small : mg "_law_small" = some (.ref f_law_small)
  f_law_lists : Addr
  fd_law_lists : FuncData
  F_law_lists : FunD K "_law_lists" "_law_lists" (defArgs s_law_lists) (defBody s_law_lists) (defScope s_law_lists) [] [] f_law_lists fd_law_lists
  b_law_lists : Binds K fd_law_lists ["_law_depth", "_law_many"] []
  g_law_lists : mg "_law_lists" = some (.ref f_law_lists)
  f_law_failing : Addr
  fd_law_failing : FuncData
  F_law_failing : FunD K "_law_failing" "_law_failing" (defArgs s_law_failing) (defBody s_law_failing) (defScope s_law_failing) [] [] f_law_failing fd_law_failing
  b_law_failing : Binds K fd_law_failing ["_law_depth", "_law_one", "_law_firsts", "_law_other"] []
  g_law_failing : mg "_law_failing" = some (.ref f_law_failing)
  f_law_good : Addr
  fd_law_good : FuncData
  F_law_good : FunD K "_law_good" "_law_good" (defArgs s_law_good) (defBody s_law_good) (defScope s_law_good) [] [] f_law_good fd_law_good
  b_law_good : Binds K fd_law_good ["_law_generator_here", "_law_depth", "_law_one", "_law_other"] []
  g_law_good : mg "_law_good" = some (.ref f_law_good)
  f_law_caught : Addr
  fd_law_caught : FuncData
  F_law_caught : FunD K "_law_caught" "_law_caught" (defArgs s_law_caught) (defBody s_law_caught) (defScope s_law_caught) [] [] f_law_caught fd_law_caught
  b_law_caught : Binds K fd_law_caught ["_law_given"] []
  g_law_caught : mg "_law_caught" = some (.ref f_law_caught)
  f_law_refused : Addr
  fd_law_refused : FuncData
  F_law_refused : FunD K "_law_refused" "_law_refused" (defArgs s_law_refused) (defBody s_law_refused) (defScope s_law_refused) [] [] f_law_refused fd_law_refused
  b_law_refused : Binds K fd_law_refused [] []
  g_law_refused : mg "_law_refused" = some (.ref f_law_refused)
  f_law : Addr
  fd_law : FuncData
  F_law : FunD K "law" "law" (defArgs s_law) (defBody s_law) (defScope s_law) [] [] f_law fd_law
  b_law : Binds K fd_law ["_law_script"] []
  g_law : mg "law" = some (.ref f_law)
  C_InvalidDepth : Addr
  gc_InvalidDepth : mg "InvalidDepth" = some (.ref C_InvalidDepth)
  fi_InvalidDepth : Addr
  fd_InvalidDepth : FuncData
  er_InvalidDepth : ErrC K fileS "InvalidDepth" s_InvalidDepth___init__ C_InvalidDepth fi_InvalidDepth fd_InvalidDepth
  C_InvalidWeights : Addr
  gc_InvalidWeights : mg "InvalidWeights" = some (.ref C_InvalidWeights)
  fi_InvalidWeights : Addr
  fd_InvalidWeights : FuncData
  er_InvalidWeights : ErrC K fileS "InvalidWeights" s_InvalidWeights___init__ C_InvalidWeights fi_InvalidWeights fd_InvalidWeights
  C_SoundError : Addr
  gc_SoundError : mg "SoundError" = some (.ref C_SoundError)
  em_InvalidDepth_SoundError : PySem.W.exmOne K (.ref C_InvalidDepth) (.ref C_SoundError) = some true
  em_InvalidDepth_InvalidDepth : PySem.W.exmOne K (.ref C_InvalidDepth) (.ref C_InvalidDepth) = some true
  em_InvalidDepth_InvalidWeights : PySem.W.exmOne K (.ref C_InvalidDepth) (.ref C_InvalidWeights) = some false
  em_InvalidWeights_SoundError : PySem.W.exmOne K (.ref C_InvalidWeights) (.ref C_SoundError) = some true
  em_InvalidWeights_InvalidDepth : PySem.W.exmOne K (.ref C_InvalidWeights) (.ref C_InvalidDepth) = some false
  em_InvalidWeights_InvalidWeights : PySem.W.exmOne K (.ref C_InvalidWeights) (.ref C_InvalidWeights) = some true
  ki_InvalidDepth_SoundError : PySem.W.kitOne K (.ref C_InvalidDepth) (.ref C_SoundError) = some true
  ki_InvalidDepth_InvalidDepth : PySem.W.kitOne K (.ref C_InvalidDepth) (.ref C_InvalidDepth) = some true
  ki_InvalidDepth_InvalidWeights : PySem.W.kitOne K (.ref C_InvalidDepth) (.ref C_InvalidWeights) = some false
  ki_InvalidWeights_SoundError : PySem.W.kitOne K (.ref C_InvalidWeights) (.ref C_SoundError) = some true
  ki_InvalidWeights_InvalidDepth : PySem.W.kitOne K (.ref C_InvalidWeights) (.ref C_InvalidDepth) = some false
  ki_InvalidWeights_InvalidWeights : PySem.W.kitOne K (.ref C_InvalidWeights) (.ref C_InvalidWeights) = some true
  kn_InvalidDepth : PySem.W.kitOne K (.type "NoneType") (.ref C_InvalidDepth) = some false
  kn_InvalidWeights : PySem.W.kitOne K (.type "NoneType") (.ref C_InvalidWeights) = some false
  ei_InvalidDepth : ExcI K C_InvalidDepth
  ei_InvalidWeights : ExcI K C_InvalidWeights
  n_len : mg "len" = none
  n_sum : mg "sum" = none
  n_max : mg "max" = none
  n_min : mg "min" = none
  n_int : mg "int" = none
  n_bool : mg "bool" = none
  n_list : mg "list" = none
  n_range : mg "range" = none
  n_isinstance : mg "isinstance" = none
  n_abs : mg "abs" = none
  n_enumerate : mg "enumerate" = none
  n_repr : mg "repr" = none
  n_super : mg "super" = none
  t_MOST_DEPTH : Tok
  m_MOST_DEPTH : mg "MOST_DEPTH" = some (.int 24 t_MOST_DEPTH)
  t_MOST_WEIGHTS : Tok
  m_MOST_WEIGHTS : mg "MOST_WEIGHTS" = some (.int 8 t_MOST_WEIGHTS)
  t_MOST_WEIGHT : Tok
  m_MOST_WEIGHT : mg "MOST_WEIGHT" = some (.int 32768 t_MOST_WEIGHT)
def d_is_whole : He.DefD := ⟨("is_whole", none), "is_whole", "is_whole", defArgs s_is_whole, defBody s_is_whole, defScope s_is_whole, [], []⟩
def d_is_between : He.DefD := ⟨("is_between", none), "is_between", "is_between", defArgs s_is_between, defBody s_is_between, defScope s_is_between, [], []⟩
def d_are_wholes : He.DefD := ⟨("are_wholes", none), "are_wholes", "are_wholes", defArgs s_are_wholes, defBody s_are_wholes, defScope s_are_wholes, [], []⟩
def d_check_depth : He.DefD := ⟨("check_depth", none), "check_depth", "check_depth", defArgs s_check_depth, defBody s_check_depth, defScope s_check_depth, [.int 24], []⟩
def d_reduced : He.DefD := ⟨("reduced", none), "reduced", "reduced", defArgs s_reduced, defBody s_reduced, defScope s_reduced, [], []⟩
def d_check_rule : He.DefD := ⟨("check_rule", none), "check_rule", "check_rule", defArgs s_check_rule, defBody s_check_rule, defScope s_check_rule, [], []⟩
def d_last_alone : He.DefD := ⟨("last_alone", none), "last_alone", "last_alone", defArgs s_last_alone, defBody s_last_alone, defScope s_last_alone, [], []⟩
def d_leads_all : He.DefD := ⟨("leads_all", none), "leads_all", "leads_all", defArgs s_leads_all, defBody s_leads_all, defScope s_leads_all, [], []⟩
def d_law_hash : He.DefD := ⟨("_law_hash", none), "_law_hash", "_law_hash", defArgs s_law_hash, defBody s_law_hash, defScope s_law_hash, [], []⟩
def d_law_generator : He.DefD := ⟨("_law_generator", none), "_law_generator", "_law_generator", defArgs s_law_generator, defBody s_law_generator, defScope s_law_generator, [], []⟩
def d_law_random : He.DefD := ⟨("_law_random", none), "_law_random", "_law_random", defArgs s_law_random, defBody s_law_random, defScope s_law_random, [], []⟩
def d_law_row : He.DefD := ⟨("_law_row", none), "_law_row", "_law_row", defArgs s_law_row, defBody s_law_row, defScope s_law_row, [], []⟩
def d_law_weights : He.DefD := ⟨("_law_weights", none), "_law_weights", "_law_weights", defArgs s_law_weights, defBody s_law_weights, defScope s_law_weights, [], []⟩
def d_law_sum : He.DefD := ⟨("_law_sum", none), "_law_sum", "_law_sum", defArgs s_law_sum, defBody s_law_sum, defScope s_law_sum, [], []⟩
def d_law_gone : He.DefD := ⟨("_law_gone", none), "_law_gone", "_law_gone", defArgs s_law_gone, defBody s_law_gone, defScope s_law_gone, [], []⟩
def d_law_follows : He.DefD := ⟨("_law_follows", none), "_law_follows", "_law_follows", defArgs s_law_follows, defBody s_law_follows, defScope s_law_follows, [], []⟩
def d_law_product : He.DefD := ⟨("_law_product", none), "_law_product", "_law_product", defArgs s_law_product, defBody s_law_product, defScope s_law_product, [], []⟩
def d_law_small : He.DefD := ⟨("_law_small", none), "_law_small", "_law_small", defArgs s_law_small, defBody s_law_small, defScope s_law_small, [], []⟩
def d_law_lists : He.DefD := ⟨("_law_lists", none), "_law_lists", "_law_lists", defArgs s_law_lists, defBody s_law_lists, defScope s_law_lists, [], []⟩
def d_law_failing : He.DefD := ⟨("_law_failing", none), "_law_failing", "_law_failing", defArgs s_law_failing, defBody s_law_failing, defScope s_law_failing, [], []⟩
def d_law_good : He.DefD := ⟨("_law_good", none), "_law_good", "_law_good", defArgs s_law_good, defBody s_law_good, defScope s_law_good, [], []⟩
def d_law_caught : He.DefD := ⟨("_law_caught", none), "_law_caught", "_law_caught", defArgs s_law_caught, defBody s_law_caught, defScope s_law_caught, [], []⟩
def d_law_refused : He.DefD := ⟨("_law_refused", none), "_law_refused", "_law_refused", defArgs s_law_refused, defBody s_law_refused, defScope s_law_refused, [], []⟩
def d_law : He.DefD := ⟨("law", none), "law", "law", defArgs s_law, defBody s_law, defScope s_law, [], []⟩
def fn : List He.DefD := [d_is_whole, d_is_between, d_are_wholes, d_check_depth, d_reduced, d_check_rule, d_last_alone, d_leads_all, d_law_hash, d_law_generator, d_law_random, d_law_row, d_law_weights, d_law_sum, d_law_gone, d_law_follows, d_law_product, d_law_small, d_law_lists, d_law_failing, d_law_good, d_law_caught, d_law_refused, d_law]
def fa0 : List He.Fa := [.glo "is_whole", .glo "is_between", .glo "are_wholes", .glo "check_depth", .glo "reduced", .glo "check_rule", .glo "last_alone", .glo "leads_all", .glo "_law_hash", .glo "_law_generator", .glo "_law_random", .glo "_law_row", .glo "_law_weights", .glo "_law_sum", .glo "_law_gone", .glo "_law_follows", .glo "_law_product", .glo "_law_small", .glo "_law_lists", .glo "_law_failing", .glo "_law_good", .glo "_law_caught", .glo "_law_refused", .glo "law", .free "len", .free "sum", .free "max", .free "min", .free "int", .free "bool"]
def fa1 : List He.Fa := [.free "list", .free "range", .free "isinstance", .free "abs", .free "enumerate", .free "repr", .free "super", .int "MOST_DEPTH" 24, .int "MOST_WEIGHTS" 8, .int "MOST_WEIGHT" 32768, .glo "InvalidDepth", .glo "InvalidWeights", .glo "SoundError"]
def fa : List He.Fa := fa0 ++ fa1
/-- isinstance of an own class -/
def insB (K : PySem.W.Frag) (x : Str) : Bool := decide (PySem.W.findIn K (.ref (He.ga K x)) "__class__" = some (some (.builtin "object.__class__"))) && (decide (PySem.W.specialIn K (.builtin "object.__class__") "__get__" = some (some (.builtin "getset_descriptor.__get__"))) && (decide (PySem.W.takesIn K (.builtin "object.__class__") = some true) && (decide (PySem.W.mroIn K (He.ga K x) (.type "object") = some true) && decide (PySem.W.kitOne K (.ref (He.ga K x)) (.ref (He.ga K x)) = some true))))
theorem insB_ok {K : PySem.W.Frag} {x : Str} (cl : Cls K (He.ga K x)) (h : insB K x = true) : C8.InsC K (He.ga K x) := by
  unfold insB at h
  simp only [Bool.and_eq_true, decide_eq_true_eq] at h
  exact ⟨cl, h.1, h.2.1, h.2.2.1, h.2.2.2.1, h.2.2.2.2⟩
def eqB (K : PySem.W.Frag) (x : Str) : Bool := decide (PySem.W.findIn K (.ref (He.ga K x)) "__ne__" = some (some (.builtin "object.__ne__"))) && (decide (PySem.W.subIn K (.ref (He.ga K x)) (.type "object") = some true) && (decide (PySem.W.subIn K (.type "list") (.ref (He.ga K x)) = some false) && (decide (PySem.W.kitOne K (.type "list") (.ref (He.ga K x)) = some false) && (decide (PySem.W.subIn K (.type "tuple") (.ref (He.ga K x)) = some false) && decide (PySem.W.kitOne K (.type "tuple") (.ref (He.ga K x)) = some false)))))
def eqs : List Str := []
def own : List Str := []
def ex (K : PySem.W.Frag) : Bool := (own.all fun x => insB K x) && eqs.all fun x => eqB K x
abbrev R : PySem.W.OpenRow := PySem.W.OpenLaw.row PySem.Challenge.rw_wholesound_k24_rules_that_lead_all
def errs : List Str := ["InvalidDepth", "InvalidWeights"]
def ems : List (Str × Str × Bool) := [("InvalidDepth", "SoundError", true), ("InvalidDepth", "InvalidDepth", true), ("InvalidDepth", "InvalidWeights", false), ("InvalidWeights", "SoundError", true), ("InvalidWeights", "InvalidDepth", false), ("InvalidWeights", "InvalidWeights", true)]
def emB (K : PySem.W.Frag) (z : Str × Str × Bool) : Bool := decide (PySem.W.exmOne K (.ref (He.ga K z.1)) (.ref (He.ga K z.2.1)) = some z.2.2) && (decide (PySem.W.kitOne K (.ref (He.ga K z.1)) (.ref (He.ga K z.2.1)) = some z.2.2) && (decide (PySem.W.kitOne K (.type "NoneType") (.ref (He.ga K z.2.1)) = some false) && (decide (PySem.W.findIn K (.ref (He.ga K z.1)) "__class__" = some (some (.builtin "object.__class__"))) && (decide (PySem.W.specialIn K (.builtin "object.__class__") "__get__" = some (some (.builtin "getset_descriptor.__get__"))) && (decide (PySem.W.takesIn K (.builtin "object.__class__") = some true) && (decide (PySem.W.mroIn K (He.ga K z.1) (.type "object") = some true)))))))
theorem emB_ok {K : PySem.W.Frag} {z : Str × Str × Bool} (h : emB K z = true) : PySem.W.exmOne K (.ref (He.ga K z.1)) (.ref (He.ga K z.2.1)) = some z.2.2 ∧ PySem.W.kitOne K (.ref (He.ga K z.1)) (.ref (He.ga K z.2.1)) = some z.2.2 ∧ PySem.W.kitOne K (.type "NoneType") (.ref (He.ga K z.2.1)) = some false ∧ PySem.W.findIn K (.ref (He.ga K z.1)) "__class__" = some (some (.builtin "object.__class__")) ∧ PySem.W.specialIn K (.builtin "object.__class__") "__get__" = some (some (.builtin "getset_descriptor.__get__")) ∧ PySem.W.takesIn K (.builtin "object.__class__") = some true ∧ PySem.W.mroIn K (He.ga K z.1) (.type "object") = some true := by
  unfold emB at h
  simp only [Bool.and_eq_true, decide_eq_true_eq] at h
  exact h
def erV : List ErW := [some (("__init__" : Str), ("InvalidDepth" : Str) ++ (".__init__" : Str), defArgs s_InvalidDepth___init__, FuncBody.stmts (defBody s_InvalidDepth___init__), defScope s_InvalidDepth___init__, mainGlobals, builtinsNs), some (("__init__" : Str), ("InvalidWeights" : Str) ++ (".__init__" : Str), defArgs s_InvalidWeights___init__, FuncBody.stmts (defBody s_InvalidWeights___init__), defScope s_InvalidWeights___init__, mainGlobals, builtinsNs)]
def exP (K : PySem.W.Frag) : Bool := ex K && ((errs.all fun z => errB K fileS z) && ems.all fun z => emB K z)
def exW (K : PySem.W.Frag) : List ErW := errs.map fun z => erW K z
abbrev Al : Type := He.AlD × Bool × List ErW
def frK (g : Addr → Option Obj) : PySem.W.Frag := He.frG g (cStatics :: He.asD g 5)
def obsG (g : Addr → Option Obj) : Al := (He.obsD fa fn (frK g), exP (frK g), exW (frK g))
def Says (K : PySem.W.Frag) : Prop := He.SaysD fa fn K ∧ ex K = true ∧ (∀ z ∈ errs, errB K fileS z = true) ∧ (∀ z ∈ ems, emB K z = true) ∧ exW K = erV
theorem says_of {K : PySem.W.Frag} (e : (He.obsD fa fn K, exP K, exW K) = ((He.valD fn, true, erV) : Al)) : Says K := by
  have e1 := congrArg Prod.fst e
  have e2 := congrArg (fun z : Al => z.2.1) e
  have e3 := congrArg (fun z : Al => z.2.2) e
  have e4 : ex K = true ∧ ((errs.all fun z => errB K fileS z) && ems.all fun z => emB K z) = true := Bool.and_eq_true_iff.mp (show (ex K && ((errs.all fun z => errB K fileS z) && ems.all fun z => emB K z)) = true from e2)
  have e5 : (errs.all fun z => errB K fileS z) = true ∧ (ems.all fun z => emB K z) = true := Bool.and_eq_true_iff.mp e4.2
  exact ⟨e1, e4.1, List.all_eq_true.mp e5.1, List.all_eq_true.mp e5.2, e3⟩
theorem erV_at {K : PySem.W.Frag} {ps : List Str} {vs : List ErW} (e : (ps.map fun z => erW K z) = vs) (i : Nat) {z : Str} {v : ErW} (hz : ps[i]? = some z) (hv : vs[i]? = some v) : erW K z = v := by
  rw [← e, List.getElem?_map, hz] at hv
  exact Option.some.inj hv
def hk : PySem.W.Hook where
  α := Al
  obs := fun s => obsG s.heap.get?
  val := fun _ => (He.valD fn, true, erV)
  says := fun _ h => ∃ K : PySem.W.Frag, K.In h ∧ Says K
  of := fun _ _ e => ⟨_, He.frG_in, says_of e⟩
  keeps := fun _ _ _ ⟨K, hK, c⟩ k => ⟨K, PySem.W.Frag.In.keeps hK k, c⟩
def ob (s : PySem.W.SharedT) : Al := obsG (HandSHeadRun.getT s)
theorem ob_eq (s : PySem.W.SharedT) : ob s = hk.obs s.abs := by
  have e : HandSHeadRun.getT s = s.abs.heap.get? := funext (HandSHeadRun.getT_eq s)
  show obsG (HandSHeadRun.getT s) = obsG s.abs.heap.get?
  rw [e]
def loose0 : List PySem.Str := ["SoundError", "InvalidDepth", "InvalidWeights", "MOST_DEPTH", "is_whole", "is_between", "are_wholes", "check_depth", "reduced", "MOST_WEIGHTS", "MOST_WEIGHT", "check_rule", "last_alone", "leads_all", "_law_hash", "_law_generator", "_law_random", "_law_row", "_law_weights", "_law_sum", "_law_gone", "_law_follows", "_law_product", "_law_small", "_law_lists", "_law_failing", "_law_good", "_law_caught", "_law_refused"]
abbrev loose : List PySem.Str := loose0
theorem run (w : World) : HandSHeadRun.RunEq R (PySem.W.view R.prog [34]) hk ob 8000 loose w := by
  intro os
  kernel_rfl
noncomputable def top_mk {K : PySem.W.Frag} {h : Heap} {mg : Str → Option Value} (X : K.In h) (G : h.Ns mainGlobals mg) (c : Says K) : Top K mg :=
  let p0 := c.1.def_ 0 (d := d_is_whole) rfl
  let p1 := c.1.def_ 1 (d := d_is_between) rfl
  let p2 := c.1.def_ 2 (d := d_are_wholes) rfl
  let p3 := c.1.def_ 3 (d := d_check_depth) rfl
  let p4 := c.1.def_ 4 (d := d_reduced) rfl
  let p5 := c.1.def_ 5 (d := d_check_rule) rfl
  let p6 := c.1.def_ 6 (d := d_last_alone) rfl
  let p7 := c.1.def_ 7 (d := d_leads_all) rfl
  let p8 := c.1.def_ 8 (d := d_law_hash) rfl
  let p9 := c.1.def_ 9 (d := d_law_generator) rfl
  let p10 := c.1.def_ 10 (d := d_law_random) rfl
  let p11 := c.1.def_ 11 (d := d_law_row) rfl
  let p12 := c.1.def_ 12 (d := d_law_weights) rfl
  let p13 := c.1.def_ 13 (d := d_law_sum) rfl
  let p14 := c.1.def_ 14 (d := d_law_gone) rfl
  let p15 := c.1.def_ 15 (d := d_law_follows) rfl
  let p16 := c.1.def_ 16 (d := d_law_product) rfl
  let p17 := c.1.def_ 17 (d := d_law_small) rfl
  let p18 := c.1.def_ 18 (d := d_law_lists) rfl
  let p19 := c.1.def_ 19 (d := d_law_failing) rfl
  let p20 := c.1.def_ 20 (d := d_law_good) rfl
  let p21 := c.1.def_ 21 (d := d_law_caught) rfl
  let p22 := c.1.def_ 22 (d := d_law_refused) rfl
  let p23 := c.1.def_ 23 (d := d_law) rfl
  let q0 := He.int_ok X G (c.1.fact 37 (f := .int "MOST_DEPTH" 24) rfl)
  let q1 := He.int_ok X G (c.1.fact 38 (f := .int "MOST_WEIGHTS" 8) rfl)
  let q2 := He.int_ok X G (c.1.fact 39 (f := .int "MOST_WEIGHT" 32768) rfl)
  let er0 := err_ok (K := K) (file := fileS) (x := "InvalidDepth") (st := s_InvalidDepth___init__) (c.2.2.1 "InvalidDepth" (by decide +kernel)) (erV_at c.2.2.2.2 0 (z := "InvalidDepth") rfl rfl) (fun _ _ _ _ _ _ _ _ us its h1 h2 => match us, its, h1, h2 with | [_, _], [_], _, _ => ⟨_, rfl, rfl⟩)
  let er1 := err_ok (K := K) (file := fileS) (x := "InvalidWeights") (st := s_InvalidWeights___init__) (c.2.2.1 "InvalidWeights" (by decide +kernel)) (erV_at c.2.2.2.2 1 (z := "InvalidWeights") rfl rfl) (fun _ _ _ _ _ _ _ _ us its h1 h2 => match us, its, h1, h2 with | [_, _], [_], _, _ => ⟨_, rfl, rfl⟩)
  { C_InvalidDepth := _, gc_InvalidDepth := He.glo_ok X G (c.1.fact 40 (f := .glo "InvalidDepth") rfl), fi_InvalidDepth := _, fd_InvalidDepth := er0.choose, er_InvalidDepth := er0.choose_spec,
    C_InvalidWeights := _, gc_InvalidWeights := He.glo_ok X G (c.1.fact 41 (f := .glo "InvalidWeights") rfl), fi_InvalidWeights := _, fd_InvalidWeights := er1.choose, er_InvalidWeights := er1.choose_spec,
    C_SoundError := _, gc_SoundError := He.glo_ok X G (c.1.fact 42 (f := .glo "SoundError") rfl),
    em_InvalidDepth_SoundError := (emB_ok (c.2.2.2.1 ("InvalidDepth", "SoundError", true) (by decide +kernel))).1, ki_InvalidDepth_SoundError := (emB_ok (c.2.2.2.1 ("InvalidDepth", "SoundError", true) (by decide +kernel))).2.1,
    em_InvalidDepth_InvalidDepth := (emB_ok (c.2.2.2.1 ("InvalidDepth", "InvalidDepth", true) (by decide +kernel))).1, ki_InvalidDepth_InvalidDepth := (emB_ok (c.2.2.2.1 ("InvalidDepth", "InvalidDepth", true) (by decide +kernel))).2.1,
    em_InvalidDepth_InvalidWeights := (emB_ok (c.2.2.2.1 ("InvalidDepth", "InvalidWeights", false) (by decide +kernel))).1, ki_InvalidDepth_InvalidWeights := (emB_ok (c.2.2.2.1 ("InvalidDepth", "InvalidWeights", false) (by decide +kernel))).2.1,
    em_InvalidWeights_SoundError := (emB_ok (c.2.2.2.1 ("InvalidWeights", "SoundError", true) (by decide +kernel))).1, ki_InvalidWeights_SoundError := (emB_ok (c.2.2.2.1 ("InvalidWeights", "SoundError", true) (by decide +kernel))).2.1,
    em_InvalidWeights_InvalidDepth := (emB_ok (c.2.2.2.1 ("InvalidWeights", "InvalidDepth", false) (by decide +kernel))).1, ki_InvalidWeights_InvalidDepth := (emB_ok (c.2.2.2.1 ("InvalidWeights", "InvalidDepth", false) (by decide +kernel))).2.1,
    em_InvalidWeights_InvalidWeights := (emB_ok (c.2.2.2.1 ("InvalidWeights", "InvalidWeights", true) (by decide +kernel))).1, ki_InvalidWeights_InvalidWeights := (emB_ok (c.2.2.2.1 ("InvalidWeights", "InvalidWeights", true) (by decide +kernel))).2.1,
    kn_InvalidDepth := (emB_ok (c.2.2.2.1 ("InvalidDepth", "InvalidDepth", true) (by decide +kernel))).2.2.1,
    kn_InvalidWeights := (emB_ok (c.2.2.2.1 ("InvalidDepth", "InvalidWeights", false) (by decide +kernel))).2.2.1,
    ei_InvalidDepth := ⟨(er0.choose_spec).xf, (emB_ok (c.2.2.2.1 ("InvalidDepth", "SoundError", true) (by decide +kernel))).2.2.2.1, (emB_ok (c.2.2.2.1 ("InvalidDepth", "SoundError", true) (by decide +kernel))).2.2.2.2.1, (emB_ok (c.2.2.2.1 ("InvalidDepth", "SoundError", true) (by decide +kernel))).2.2.2.2.2.1, (emB_ok (c.2.2.2.1 ("InvalidDepth", "SoundError", true) (by decide +kernel))).2.2.2.2.2.2⟩,
    ei_InvalidWeights := ⟨(er1.choose_spec).xf, (emB_ok (c.2.2.2.1 ("InvalidWeights", "SoundError", true) (by decide +kernel))).2.2.2.1, (emB_ok (c.2.2.2.1 ("InvalidWeights", "SoundError", true) (by decide +kernel))).2.2.2.2.1, (emB_ok (c.2.2.2.1 ("InvalidWeights", "SoundError", true) (by decide +kernel))).2.2.2.2.2.1, (emB_ok (c.2.2.2.1 ("InvalidWeights", "SoundError", true) (by decide +kernel))).2.2.2.2.2.2⟩,
    f_is_whole := _, fd_is_whole := p0.choose, F_is_whole := p0.choose_spec, b_is_whole := p0.choose_spec.bindsN fun _ _ _ _ _ _ us hl => match us, hl with | [_], _ => rfl, g_is_whole := He.glo_ok X G (c.1.fact 0 (f := .glo "is_whole") rfl),
    f_is_between := _, fd_is_between := p1.choose, F_is_between := p1.choose_spec, b_is_between := p1.choose_spec.bindsN fun _ _ _ _ _ _ us hl => match us, hl with | [_, _, _], _ => rfl, g_is_between := He.glo_ok X G (c.1.fact 1 (f := .glo "is_between") rfl),
    f_are_wholes := _, fd_are_wholes := p2.choose, F_are_wholes := p2.choose_spec, b_are_wholes := p2.choose_spec.bindsN fun _ _ _ _ _ _ us hl => match us, hl with | [_], _ => rfl, g_are_wholes := He.glo_ok X G (c.1.fact 2 (f := .glo "are_wholes") rfl),
    f_check_depth := _, fd_check_depth := p3.choose, F_check_depth := p3.choose_spec, b_check_depth := nil_binds (p3.choose_spec.binds1 (ps := ["depth", "most"]) 2 1 (by simp [He.DefD.dvs, d_check_depth]) rfl fun _ _ _ _ _ _ _ us its h1 h2 => match us, its, h1, h2 with | [_, _], [_], _, _ => ⟨_, rfl, rfl⟩), e0_check_depth := (p3.choose_spec.binds1 (ps := ["depth", "most"]) 1 0 (by simp [He.DefD.dvs, d_check_depth]) rfl fun _ _ _ _ _ _ _ us its h1 h2 => match us, its, h1, h2 with | [_], [_], _, _ => ⟨_, rfl, rfl⟩).choose, v0_check_depth := (p3.choose_spec.binds1 (ps := ["depth", "most"]) 1 0 (by simp [He.DefD.dvs, d_check_depth]) rfl fun _ _ _ _ _ _ _ us its h1 h2 => match us, its, h1, h2 with | [_], [_], _, _ => ⟨_, rfl, rfl⟩).choose_spec.1, b0_check_depth := (p3.choose_spec.binds1 (ps := ["depth", "most"]) 1 0 (by simp [He.DefD.dvs, d_check_depth]) rfl fun _ _ _ _ _ _ _ us its h1 h2 => match us, its, h1, h2 with | [_], [_], _, _ => ⟨_, rfl, rfl⟩).choose_spec.2, g_check_depth := He.glo_ok X G (c.1.fact 3 (f := .glo "check_depth") rfl),
    f_reduced := _, fd_reduced := p4.choose, F_reduced := p4.choose_spec, b_reduced := p4.choose_spec.bindsN fun _ _ _ _ _ _ us hl => match us, hl with | [_, _, _], _ => rfl, g_reduced := He.glo_ok X G (c.1.fact 4 (f := .glo "reduced") rfl),
    f_check_rule := _, fd_check_rule := p5.choose, F_check_rule := p5.choose_spec, b_check_rule := p5.choose_spec.bindsN fun _ _ _ _ _ _ us hl => match us, hl with | [_], _ => rfl, g_check_rule := He.glo_ok X G (c.1.fact 5 (f := .glo "check_rule") rfl),
    f_last_alone := _, fd_last_alone := p6.choose, F_last_alone := p6.choose_spec, b_last_alone := p6.choose_spec.bindsN fun _ _ _ _ _ _ us hl => match us, hl with | [_], _ => rfl, g_last_alone := He.glo_ok X G (c.1.fact 6 (f := .glo "last_alone") rfl),
    f_leads_all := _, fd_leads_all := p7.choose, F_leads_all := p7.choose_spec, b_leads_all := p7.choose_spec.bindsN fun _ _ _ _ _ _ us hl => match us, hl with | [_, _, _], _ => rfl, g_leads_all := He.glo_ok X G (c.1.fact 7 (f := .glo "leads_all") rfl),
    f_law_hash := _, fd_law_hash := p8.choose, F_law_hash := p8.choose_spec, b_law_hash := p8.choose_spec.bindsN fun _ _ _ _ _ _ us hl => match us, hl with | [_, _], _ => rfl, g_law_hash := He.glo_ok X G (c.1.fact 8 (f := .glo "_law_hash") rfl),
    f_law_generator := _, fd_law_generator := p9.choose, F_law_generator := p9.choose_spec, b_law_generator := p9.choose_spec.bindsN fun _ _ _ _ _ _ us hl => match us, hl with | [_, _], _ => rfl, g_law_generator := He.glo_ok X G (c.1.fact 9 (f := .glo "_law_generator") rfl),
    f_law_random := _, fd_law_random := p10.choose, F_law_random := p10.choose_spec, b_law_random := p10.choose_spec.bindsN fun _ _ _ _ _ _ us hl => match us, hl with | [_, _], _ => rfl, g_law_random := He.glo_ok X G (c.1.fact 10 (f := .glo "_law_random") rfl),
    f_law_row := _, fd_law_row := p11.choose, F_law_row := p11.choose_spec, b_law_row := p11.choose_spec.bindsN fun _ _ _ _ _ _ us hl => match us, hl with | [_, _, _], _ => rfl, g_law_row := He.glo_ok X G (c.1.fact 11 (f := .glo "_law_row") rfl),
    f_law_weights := _, fd_law_weights := p12.choose, F_law_weights := p12.choose_spec, b_law_weights := p12.choose_spec.bindsN fun _ _ _ _ _ _ us hl => match us, hl with | [_, _], _ => rfl, g_law_weights := He.glo_ok X G (c.1.fact 12 (f := .glo "_law_weights") rfl),
    f_law_sum := _, fd_law_sum := p13.choose, F_law_sum := p13.choose_spec, b_law_sum := p13.choose_spec.bindsN fun _ _ _ _ _ _ us hl => match us, hl with | [_, _, _], _ => rfl, g_law_sum := He.glo_ok X G (c.1.fact 13 (f := .glo "_law_sum") rfl),
    f_law_gone := _, fd_law_gone := p14.choose, F_law_gone := p14.choose_spec, b_law_gone := p14.choose_spec.bindsN fun _ _ _ _ _ _ us hl => match us, hl with | [_, _, _, _], _ => rfl, g_law_gone := He.glo_ok X G (c.1.fact 14 (f := .glo "_law_gone") rfl),
    f_law_follows := _, fd_law_follows := p15.choose, F_law_follows := p15.choose_spec, b_law_follows := p15.choose_spec.bindsN fun _ _ _ _ _ _ us hl => match us, hl with | [_, _, _], _ => rfl, g_law_follows := He.glo_ok X G (c.1.fact 15 (f := .glo "_law_follows") rfl),
    f_law_product := _, fd_law_product := p16.choose, F_law_product := p16.choose_spec, b_law_product := p16.choose_spec.bindsN fun _ _ _ _ _ _ us hl => match us, hl with | [_, _], _ => rfl, g_law_product := He.glo_ok X G (c.1.fact 16 (f := .glo "_law_product") rfl),
    f_law_small := _, fd_law_small := p17.choose, F_law_small := p17.choose_spec, b_law_small := p17.choose_spec.bindsN fun _ _ _ _ _ _ us hl => match us, hl with | [_, _], _ => rfl, g_law_small := He.glo_ok X G (c.1.fact 17 (f := .glo "_law_small") rfl),
    f_law_lists := _, fd_law_lists := p18.choose, F_law_lists := p18.choose_spec, b_law_lists := p18.choose_spec.bindsN fun _ _ _ _ _ _ us hl => match us, hl with | [_, _], _ => rfl, g_law_lists := He.glo_ok X G (c.1.fact 18 (f := .glo "_law_lists") rfl),
    f_law_failing := _, fd_law_failing := p19.choose, F_law_failing := p19.choose_spec, b_law_failing := p19.choose_spec.bindsN fun _ _ _ _ _ _ us hl => match us, hl with | [_, _, _, _], _ => rfl, g_law_failing := He.glo_ok X G (c.1.fact 19 (f := .glo "_law_failing") rfl),
    f_law_good := _, fd_law_good := p20.choose, F_law_good := p20.choose_spec, b_law_good := p20.choose_spec.bindsN fun _ _ _ _ _ _ us hl => match us, hl with | [_, _, _, _], _ => rfl, g_law_good := He.glo_ok X G (c.1.fact 20 (f := .glo "_law_good") rfl),
    f_law_caught := _, fd_law_caught := p21.choose, F_law_caught := p21.choose_spec, b_law_caught := p21.choose_spec.bindsN fun _ _ _ _ _ _ us hl => match us, hl with | [_], _ => rfl, g_law_caught := He.glo_ok X G (c.1.fact 21 (f := .glo "_law_caught") rfl),
    f_law_refused := _, fd_law_refused := p22.choose, F_law_refused := p22.choose_spec, b_law_refused := p22.choose_spec.bindsN fun _ _ _ _ _ _ us hl => match us, hl with | [], _ => rfl, g_law_refused := He.glo_ok X G (c.1.fact 22 (f := .glo "_law_refused") rfl),
    f_law := _, fd_law := p23.choose, F_law := p23.choose_spec, b_law := p23.choose_spec.bindsN fun _ _ _ _ _ _ us hl => match us, hl with | [_], _ => rfl, g_law := He.glo_ok X G (c.1.fact 23 (f := .glo "law") rfl),
    n_len := He.free_ok X G (c.1.fact 24 (f := .free "len") rfl),
    n_sum := He.free_ok X G (c.1.fact 25 (f := .free "sum") rfl),
    n_max := He.free_ok X G (c.1.fact 26 (f := .free "max") rfl),
    n_min := He.free_ok X G (c.1.fact 27 (f := .free "min") rfl),
    n_int := He.free_ok X G (c.1.fact 28 (f := .free "int") rfl),
    n_bool := He.free_ok X G (c.1.fact 29 (f := .free "bool") rfl),
    n_list := He.free_ok X G (c.1.fact 30 (f := .free "list") rfl),
    n_range := He.free_ok X G (c.1.fact 31 (f := .free "range") rfl),
    n_isinstance := He.free_ok X G (c.1.fact 32 (f := .free "isinstance") rfl),
    n_abs := He.free_ok X G (c.1.fact 33 (f := .free "abs") rfl),
    n_enumerate := He.free_ok X G (c.1.fact 34 (f := .free "enumerate") rfl),
    n_repr := He.free_ok X G (c.1.fact 35 (f := .free "repr") rfl),
    n_super := He.free_ok X G (c.1.fact 36 (f := .free "super") rfl),
    t_MOST_DEPTH := q0.choose, m_MOST_DEPTH := q0.choose_spec,
    t_MOST_WEIGHTS := q1.choose, m_MOST_WEIGHTS := q1.choose_spec,
    t_MOST_WEIGHT := q2.choose, m_MOST_WEIGHT := q2.choose_spec }
theorem G_InvalidDepth___init__ {P : Program} {w : World} {K : PySem.W.Frag} {mg : Str → Option Value} {base : Heap} {CX : CXT} [Sup.PF P fileS] (T : Top K mg) : FnOk P w K mg base CX 1 T.fi_InvalidDepth T.fd_InvalidDepth ["self", "value"] (Sup.sp_exc_init T.C_InvalidDepth) := Sup.fn_sup nsc_InvalidDepth (by decide +kernel) sb_InvalidDepth T.er_InvalidDepth.sup T.n_super
theorem G_InvalidWeights___init__ {P : Program} {w : World} {K : PySem.W.Frag} {mg : Str → Option Value} {base : Heap} {CX : CXT} [Sup.PF P fileS] (T : Top K mg) : FnOk P w K mg base CX 1 T.fi_InvalidWeights T.fd_InvalidWeights ["self", "value"] (Sup.sp_exc_init T.C_InvalidWeights) := Sup.fn_sup nsc_InvalidWeights (by decide +kernel) sb_InvalidWeights T.er_InvalidWeights.sup T.n_super
end My

namespace My
open PySem PySem.Spec PyProof.Rows L2
/-! ### f(k = v, ..), nothing by position -/
theorem FunD.kbindsN {K : PySem.W.Frag} {x qual : Str} {params : Arguments} {body : List Stmt} {scope : Scope} {f : Addr} {fd : FuncData} {ps : List Str} (F : FunD K x qual params body scope [] [] f fd) (ks : List Str) (g : {α : Type} → List α → List α)
    (hrel : ∀ {zs : List V} {ws : List Value}, Vals zs ws → Vals (g zs) (g ws))
    (h : ∀ (kV doc pm : Value) (an : Option Addr) (cdv ct : Value) (ws : List Value), ws.length = ks.length → bindArgs (PySem.W.fnOf x qual params body scope .none kV doc pm an cdv ct) ⟨[], ks.zip ws⟩ = pure (ps.zip (g ws))) :
    KBn K fd ps 0 ks (fun _ ws => g ws) (fun _ zs => g zs) := by
  obtain ⟨oc, od, dV, kV, doc, pm, an, cdv, ct, osl, rfl, lk, hcd, hD, hK⟩ := F.ex
  rcases hD with ⟨_, rfl⟩ | ⟨e, _⟩
  · refine ⟨fun s us ws X l1 l2 => ?_, fun _ r => hrel r⟩
    obtain rfl : us = [] := List.eq_nil_of_length_eq_zero l1
    exact .of_eq (h kV doc pm an cdv ct ws l2)
  · exact absurd rfl e
/-- two, the other way round -/
def sw2 {α : Type} : List α → List α
  | [a, b] => [b, a]
  | l => l
theorem sw2_rel {zs : List V} {ws : List Value} (h : Vals zs ws) : Vals (sw2 zs) (sw2 ws) := by
  cases h with
  | nil => exact .nil
  | cons r1 h => cases h with
    | nil => exact .cons r1 .nil
    | cons r2 h => cases h with
      | nil => exact .cons r2 (.cons r1 .nil)
      | cons r3 h => exact .cons r1 (.cons r2 (.cons r3 h))
/-- any number of them, back to front -/
theorem Vals_rev {zs : List V} {ws : List Value} (h : Vals zs ws) : Vals zs.reverse ws.reverse := by
  induction h with
  | nil => exact .nil
  | cons r h ih =>
    rw [List.reverse_cons, List.reverse_cons]
    exact Vals.append ih (.cons r .nil)
def tCallKO (m : Nat) (sp : Sp) (gV : List V → List V → List V) (E : XK) (tk : TA) : TE := fun σ H Q => tk σ H fun zs H2 => zs.length = m ∧ sp (gV [] zs) H2 Q E
section
variable {X : Cx} {CX : CXT} {k : Nat} {f : Addr} {fd : FuncData} {ps ks : List Str} {sp : Sp} {E : XK} {x : Str} {p pos : Pos} {kws : List Keyword} {tk : TA} {g : List Value → List Value → List Value} {gV : List V → List V → List V}
theorem pe_callKO (F : FnOk X.prog X.w X.K X.mg X.base CX k f fd ps sp) (hr : Room k X.A) (hg : Gl X x) (hm : X.mg x = some (.ref f)) (hk : PySem.W.keepIn X.K (.ref f) = true) (hb : KBn X.K fd ps 0 ks g gV) (hx : Passes CX X E)
    (hkw : PK X kws tk) (hall : (backToKw pos (keywordEach kws X.env)).all (·.1.isSome) = true := by rfl) (hks : (backToKw pos (keywordEach kws X.env)).filterMap (·.1) = ks := by rfl)
    (hdb : (x == ("__debug__" : Str)) = false := by decide)
    (hpl : ((backTo pos (starEach [] X.env)).any (·.1) || (backToKw pos (keywordEach kws X.env)).any (·.1.isNone)) = false := by rfl) :
    PE X (.Call (.Name x p) [] kws pos) (tCallKO ks.length sp gV E tk) := by
  refine ⟨fun pins s σ H Q I h => ?_⟩
  refine wpAny_Call_Name_kw (ld_glob I hg hm ?_ hdb)
  refine PySem.W.callWith_KW0 (h₀ := X.base) I.ok.mod.kin hk hall (thn (hkw.run pos pins s σ H _ I h) fun ws s2 ⟨zs, H2, I2, rz, l2, q2⟩ => ⟨I2.kIn, ?_⟩) hpl
  rw [hks]
  exact run_fnN (us := []) (vs := []) F hr hb hx I2 .nil rz rfl l2 q2
end
end My

set_option exponentiation.threshold 100000
namespace My
open PySem PySem.Spec PyProof.Rows L2 Pre
section
variable {P : Program} {w : World} {K : PySem.W.Frag} {mg : Str → Option Value} {base : Heap}
/-! ### the law's draws -/
/-- a generator: its count is at most n -/
def GenAt (H : Hp) (g : Addr) (n : Nat) : Prop := ∃ x y z : Int, H g = some (.lst [.int x, .int y, .int z]) ∧ 0 ≤ z ∧ z ≤ (n : Int)
/-- all but one thing stand as they stood -/
def But (g : Addr) (H H' : Hp) : Prop := ∀ b o, b ≠ g → H b = some o → H' b = some o
theorem But.refl {g : Addr} {H : Hp} : But g H H := fun _ _ _ h => h
theorem But.trans {g : Addr} {H H1 H2 : Hp} (a : But g H H1) (b : But g H1 H2) : But g H H2 := fun c o n h => b c o n (a c o n h)
theorem But.same {g : Addr} {H H1 H2 : Hp} (a : But g H H1) (b : Same H1 H2) : But g H H2 := fun c o n h => b c o (a c o n h)
theorem But.of {g : Addr} {H H1 : Hp} (b : Same H H1) : But g H H1 := fun c o _ h => b c o h
theorem But.upd {g : Addr} {H H1 : Hp} {o : HO} (a : But g H H1) : But g H (upd H1 g o) := fun c u n h => by
  rw [upd_ne n]
  exact a c u n h
theorem But.free {g : Addr} {H H1 : Hp} (a : But g H H1) {p : Addr} (n : p ≠ g) (h : H1 p = none) : H p = none := by
  cases e : H p with
  | none => rfl
  | some o => rw [a p o n e] at h; cases h
/-- what is changed was not there at first -/
theorem But.fresh {g : Addr} {H H1 H2 : Hp} (s : Same H H1) (n : H g = none) (b : But g H1 H2) : Same H H2 := fun c o h => b c o (ne_of_none h n) (s c o h)
theorem GenAt.mono {H : Hp} {g : Addr} {n m : Nat} (h : GenAt H g n) (l : n ≤ m) : GenAt H g m := by
  obtain ⟨x, y, z, a, b, c⟩ := h
  exact ⟨x, y, z, a, b, by omega⟩
theorem GenAt.same {H H' : Hp} {g : Addr} {n : Nat} (h : GenAt H g n) (s : Same H H') : GenAt H' g n := by
  obtain ⟨x, y, z, a, b⟩ := h
  exact ⟨x, y, z, s _ _ a, b⟩
theorem GenAt.ne {H : Hp} {g : Addr} {n : Nat} {p : Addr} (h : GenAt H g n) (np : H p = none) : p ≠ g := by
  obtain ⟨x, y, z, a, _⟩ := h
  exact (ne_of_none a np).symm
theorem small_2900 {b : Int} (h : b ≤ 2 ^ 60) : b < 2 ^ 2900 := by omega
theorem pow_pos' (w : Nat) : (0 : Int) < 2 ^ w := Int.pow_pos (by decide)
theorem pow2_le {k m : Nat} (h : k ≤ m) : (2 : Int) ^ k ≤ 2 ^ m := by
  have e := Nat.pow_le_pow_right (show 0 < 2 by decide) h
  have e2 : ((2 ^ k : Nat) : Int) ≤ ((2 ^ m : Nat) : Int) := Int.ofNat_le.mpr e
  rw [Int.natCast_pow, Int.natCast_pow] at e2
  exact e2
def sp_law_cell (K : PySem.W.Frag) : Sp := fun vs H Q _ => ∃ (a : Addr) (ns : List Int) (i : Nat), vs = [.ref a, .int i] ∧ SqL K H a (ns.map V.int) ∧ ∀ (n : Int) H', Same H H' → Q (.int n) H'
theorem cmul_mod (x m j : Int) (h0 : 0 < m) (h1 : m ≤ 2 ^ 60) : CMul (x % m) j := by
  have a := Int.emod_nonneg x (show m ≠ 0 by omega)
  have b := Int.emod_lt_of_pos x h0
  exact .inl ⟨by omega, by omega⟩
def sp_law_hash : Sp := fun vs H Q _ => ∃ i j : Int, vs = [.int i, .int j] ∧ 0 ≤ j ∧ j < 2 ^ 60 ∧ ∀ n : Int, Q (.int n) H
theorem G_law_hash (T : Top K mg) : FnOk P w K mg base CX0 1 T.f_law_hash T.fd_law_hash ["_law_seed", "_law_index"] sp_law_hash := by
  refine T.F_law_hash.ok sc_law_hash (fun vs H Q E h => by obtain ⟨i, j, rfl, _⟩ := h; rfl) (fun cdv A outer s H vs Q E hr h => ?_)
  obtain ⟨i, j, rfl, h0, h1, q⟩ := h
  refine ⟨_, PSs.nox (pss_cons (ps_set (i := 2) sc_law_hash.nd rfl (by first | exact Or.inl rfl | exact Or.inr rfl) (pe_op op_mod (pe_callTy call_int1 (by rfl) T.n_int (by decide +kernel) (pa_cons (pe_op op_add (pe_op op_add (pe_op op_add (pe_op op_mul (pv 0) pe_int) (pe_op op_mul (pe_op op_mul pe_int (pv 1)) (pv 1))) (pe_op op_mul pe_int (pv 1))) pe_int) pa_nil)) pe_int))
  (pss_cons (ps_set (i := 2) sc_law_hash.nd rfl (by first | exact Or.inl rfl | exact Or.inr rfl) (pe_op op_mod (pe_callTy call_int1 (by rfl) T.n_int (by decide +kernel) (pa_cons (pe_op op_add (pe_op op_add (pe_op op_mul (pv 2) (pv 2)) (pe_op op_mul pe_int (pv 1))) pe_int) pa_nil)) pe_int))
  (pss_one (ps_ret (pe_op op_mod (pe_callTy call_int1 (by rfl) T.n_int (by decide +kernel) (pa_cons (pe_op op_mul (pv 2) pe_int) pa_nil)) pe_int))))), ?_⟩
  refine ⟨_, rfl, _, _, rfl, rfl, .inr ⟨by decide, by decide⟩, _, rfl, _, _, rfl, rfl, .inl ⟨by decide, by decide⟩, _, rfl, _, _, rfl, rfl, .inr ⟨by omega, by omega⟩, _, _, rfl, rfl, _, rfl, _, _, rfl, rfl, .inl ⟨by decide, by decide⟩, _, _, rfl, rfl, _, _, rfl, rfl,
    .inl ⟨_, rfl, _, _, rfl, rfl, (by show (0 : Int) < _; decide), ?_⟩⟩
  refine ⟨_, rfl, _, rfl, _, _, rfl, rfl, cmul_mod _ _ _ (by decide) (by decide), _, rfl, _, _, rfl, rfl, .inl ⟨by decide, by decide⟩, _, _, rfl, rfl, _, _, rfl, rfl, .inl ⟨_, rfl, _, _, rfl, rfl, (by show (0 : Int) < _; decide), ?_⟩⟩
  refine ⟨_, rfl, _, _, rfl, rfl, .inr ⟨by decide, by decide⟩, .inl ⟨_, rfl, _, _, rfl, rfl, (by show (0 : Int) < _; decide), ?_⟩⟩
  exact q _

def sp_law_generator (K : PySem.W.Frag) : Sp := fun vs H Q _ => ∃ (a : Addr) (ns : List Int) (i : Nat), vs = [.ref a, .int i] ∧ SqL K H a (ns.map V.int) ∧ ∀ H' g, Same H H' → H g = none → GenAt H' g (1000 * i) → Q (.ref g) H'
theorem G_law_generator (T : Top K mg) : FnOk P w K mg base CX0 1 T.f_law_generator T.fd_law_generator ["_law_script", "_law_index"] (sp_law_generator K) := by
  refine T.F_law_generator.ok sc_law_generator (fun vs H Q E h => by obtain ⟨a, ns, i, rfl, _⟩ := h; rfl) (fun cdv A outer s H vs Q E hr h => ?_)
  obtain ⟨a, ns, i, rfl, hS, q⟩ := h
  refine ⟨_, PSs.nox (pss_cons (ps_set (i := 2) sc_law_generator.nd rfl (by first | exact Or.inl rfl | exact Or.inr rfl) (pe_ifExp (pt_cmpR op_lt (pv 1) (pe_callB (k_len K rfl) (by rfl) T.n_len (by decide +kernel) (pa_cons (pv 0) pa_nil)) (nomark _)) (pe_ix (k_ixL K rfl) (pv 0) (pv 1) (fun _ _ => rfl)) (pe_op op_mod (pe_callB (k_sum K rfl rfl) (by rfl) T.n_sum (by decide +kernel) (pa_cons (pe_slice (k_slL K rfl) (pv 0) po_none (po_some pe_int)) pa_nil)) pe_int)))
  (pss_one (ps_ret (pe_lst (pa_cons (pe_op op_mod (pe_callTy call_int1 (by rfl) T.n_int (by decide +kernel) (pa_cons (pe_callB (call_max2 rfl) (by rfl) T.n_max (by decide +kernel) (pa_cons (pe_op op_sub (pv 2) (pe_op op_powW pe_int pe_int)) (pa_cons pe_int pa_nil))) pa_nil)) (pe_op op_powW (pe_op op_powW pe_int pe_int) pe_int)) (pa_cons (pe_op op_mod (pe_callTy call_int1 (by rfl) T.n_int (by decide +kernel) (pa_cons (pv 2) pa_nil)) pe_int) (pa_cons (pe_op op_mul pe_int (pv 1)) pa_nil))))))), ?_⟩
  refine ⟨_, rfl, _, rfl, a, _, rfl, .inl hS, _, _, rfl, rfl, _, rfl, ite2 (fun e => ?_) (fun e => ?_)⟩
  · have e1 : (i : Int) < (((ns.map V.int).length : Nat) : Int) := of_decide_eq_true e
    rw [List.length_map] at e1
    have hi : i < ns.length := by omega
    refine ⟨_, rfl, _, rfl, a, _, _, .int ns[i], rfl, rfl, hS, atI_nat (by rw [List.getElem?_map, List.getElem?_eq_getElem hi]; rfl), ?_⟩
    have s1 := Same.refl H
    generalize ns[i] = n at *
    refine ⟨_, rfl, _, _, rfl, rfl, ⟨by decide, by decide +kernel⟩, _, _, rfl, rfl, _, _, rfl, .inl ⟨_, rfl, _, _, rfl, rfl, ⟨by decide, by decide +kernel⟩, _, _, rfl, rfl, ⟨by decide, by decide +kernel⟩, _, _, rfl, rfl, (by show (0 : Int) < _; decide +kernel), ?_⟩⟩
    refine ⟨_, rfl, .inl ⟨_, rfl, _, _, rfl, rfl, (by show (0 : Int) < _; decide), ?_⟩⟩
    refine ⟨_, rfl, _, _, rfl, rfl, .inl ⟨by decide, by decide⟩, (show 3 ≤ sizeLine by decide), fun g ng => ?_⟩
    exact q _ g (s1.trans (same_upd ng)) (s1.free ng) ⟨_, _, _, upd_same, by omega, by omega⟩
  · refine ⟨_, rfl, _, rfl, a, _, rfl, hS, fun p np => ?_⟩
    have ec : ∃ ms : List Int, cutV (ns.map V.int) none (some 1) = ms.map V.int := ⟨ns.take 1, by rw [show (1 : Int) = ((1 : Nat) : Int) from rfl, cut_take, List.map_take]⟩
    obtain ⟨ms, em⟩ := ec
    obtain ⟨H1, e1, s1, hp⟩ := fresh (.lst (cutV (ns.map V.int) none (some 1))) np
    rw [e1]
    refine ⟨p, ms, rfl, .inl (.inl (by rw [hp, em])), _, _, rfl, rfl, (by show (0 : Int) < 1000003; decide), ?_⟩
    dsimp only
    generalize ms.sum % 1000003 = n at *
    refine ⟨_, rfl, _, _, rfl, rfl, ⟨by decide, by decide +kernel⟩, _, _, rfl, rfl, _, _, rfl, .inl ⟨_, rfl, _, _, rfl, rfl, ⟨by decide, by decide +kernel⟩, _, _, rfl, rfl, ⟨by decide, by decide +kernel⟩, _, _, rfl, rfl, (by show (0 : Int) < _; decide +kernel), ?_⟩⟩
    refine ⟨_, rfl, .inl ⟨_, rfl, _, _, rfl, rfl, (by show (0 : Int) < _; decide), ?_⟩⟩
    refine ⟨_, rfl, _, _, rfl, rfl, .inl ⟨by decide, by decide⟩, (show 3 ≤ sizeLine by decide), fun g ng => ?_⟩
    exact q _ g (s1.trans (same_upd ng)) (s1.free ng) ⟨_, _, _, upd_same, by omega, by omega⟩
def sp_law_random : Sp := fun vs H Q _ => ∃ (g : Addr) (b : Int) (n : Nat), vs = [.ref g, .int b] ∧ GenAt H g n ∧ n ≤ 10 ^ 12 ∧ 0 < b ∧ b < 2 ^ 2900 ∧ ∀ (d : Int) H', 0 ≤ d → d < b → GenAt H' g (n + 100) → But g H H' → Q (.int d) H'
theorem G_law_random (T : Top K mg) : FnOk P w K mg base CX0 2 T.f_law_random T.fd_law_random ["_law_generator_here", "_law_bound"] sp_law_random := by
  refine T.F_law_random.ok sc_law_random (fun vs H Q E h => by obtain ⟨g, b, n, rfl, _⟩ := h; rfl) (fun cdv A outer s H vs Q E hr h => ?_)
  obtain ⟨g, b, n, rfl, ⟨x, y, z, hg, z0, z1⟩, hn, b0, b1, q⟩ := h
  refine ⟨_, PSs.nox (pss_cons (ps_if (pt_cmpR op_gt (pe_ix (k_ixL K rfl) (pv 0) pe_int (fun _ _ => rfl)) pe_int (nomark _))
    (pss_cons (ps_set (i := 2) sc_law_random.nd rfl (by first | exact Or.inl rfl | exact Or.inr rfl) (pe_op op_mod (pe_callTy call_int1 (by rfl) T.n_int (by decide +kernel) (pa_cons (pe_ix (k_ixL K rfl) (pv 0) pe_int (fun _ _ => rfl)) pa_nil)) (pv 1)))
  (pss_cons (ps_asg (pe_op op_fdivW (pe_ix (k_ixL K rfl) (pv 0) pe_int (fun _ _ => rfl)) (pv 1)) (pg_sub (pv 0) pe_int set_list))
  (pss_one (ps_ret (pv 2)))))
    pss_nil)
  (pss_cons (ps_set (i := 2) sc_law_random.nd rfl (by first | exact Or.inl rfl | exact Or.inr rfl) pe_int)
  (pss_cons (ps_for PassesOwn.never rfl (pi_range1 (by rfl) T.n_range (pa_cons (pe_op op_add pe_int (pe_op op_fdivW (pe_bits (pv 1)) pe_int)) pa_nil)) (pg_name (i := 3) sc_law_random.nd rfl (by first | exact Or.inl rfl | exact Or.inr rfl))
    (pss_cons (ps_asg (pe_op op_add (pe_ix (k_ixL K rfl) (pv 0) pe_int (fun _ _ => rfl)) pe_int) (pg_sub (pv 0) pe_int set_list))
  (pss_one (ps_set (i := 2) sc_law_random.nd rfl (by first | exact Or.inl rfl | exact Or.inr rfl) (pe_op op_add (pe_op op_mul (pv 2) pe_int) (pe_call (G_law_hash (P := P) T) (hr.mono (by decide)) (by rfl) T.g_law_hash T.F_law_hash.kp T.b_law_hash .nil pass0 (pa_cons (pe_ix (k_ixL K rfl) (pv 0) pe_int (fun _ _ => rfl)) (pa_cons (pe_ix (k_ixL K rfl) (pv 0) pe_int (fun _ _ => rfl)) pa_nil))))))))
  (pss_one (ps_ret (pe_op op_mod (pe_callTy call_int1 (by rfl) T.n_int (by decide +kernel) (pa_cons (pv 2) pa_nil)) (pv 1))))))), ?_⟩
  have a0 : ∀ x y z : Int, atI [V.int x, .int y, .int z] 0 = some (.int x) := fun _ _ _ => rfl
  have a1 : ∀ x y z : Int, atI [V.int x, .int y, .int z] 1 = some (.int y) := fun _ _ _ => rfl
  have a2 : ∀ x y z : Int, atI [V.int x, .int y, .int z] 2 = some (.int z) := fun _ _ _ => rfl
  have hS : SqL K H g [.int x, .int y, .int z] := .inl (.inl hg)
  have nb : b.natAbs < 2 ^ 2900 := by
    have e : ((b.natAbs : Nat) : Int) < ((2 ^ 2900 : Nat) : Int) := by
      rw [Int.natCast_pow]
      omega
    exact Int.ofNat_lt.mp e
  refine ⟨_, rfl, g, _, 0, _, rfl, rfl, hS, a0 x y z, _, _, rfl, rfl, _, rfl, ite2 (fun e => ?_) (fun e => ?_)⟩
  · refine ⟨_, rfl, g, _, 0, _, rfl, rfl, hS, a0 x y z, .inl ⟨_, rfl, _, rfl, _, _, rfl, rfl, b0, ?_⟩⟩
    refine ⟨_, rfl, g, _, 0, _, rfl, rfl, hS, a0 x y z, _, rfl, _, _, rfl, rfl, wide_div b0 nb (by decide) (by decide), _, rfl, g, _, 0, 0, rfl, rfl, hg, rfl, _, rfl, ?_⟩
    exact q _ _ (Int.emod_nonneg _ (by omega)) (Int.emod_lt_of_pos _ b0) ⟨_, _, _, upd_same, z0, by omega⟩ (But.upd But.refl)
  · have hb : Builtin.Int.intBits b ≤ 2900 := PyProof.Rows.intBits_le nb
    have hq0 : (0 : Int) ≤ ((Builtin.Int.intBits b : Nat) : Int) / 30 := Int.ediv_nonneg (Int.natCast_nonneg _) (by decide)
    have hq1 : ((Builtin.Int.intBits b : Nat) : Int) / 30 ≤ 97 := by omega
    refine ⟨_, rfl, _, rfl, _, _, rfl, rfl, ⟨by decide, by decide +kernel⟩, _, _, rfl, rfl, _, rfl, by omega, by omega, ?_⟩
    refine for_range (lo := 0) (n := (1 + ((Builtin.Int.intBits b : Nat) : Int) / 30).toNat) (fun i σ H1 => ∃ (d z' : Int) (v : Option V), σ = [some (.ref g), some (.int b), some (.int d), v] ∧ H1 g = some (.lst [.int x, .int y, .int z']) ∧ 0 ≤ z' ∧ z' ≤ (n : Int) + (i : Int) ∧ But g H H1)
      ⟨0, z, none, rfl, hg, z0, by omega, But.refl⟩ ?_ ?_
    · rintro i σ H1 hi ⟨d, z', v, rfl, hg1, y0, y1, b1⟩
      have hS1 : SqL K H1 g [.int x, .int y, .int z'] := .inl (.inl hg1)
      refine ⟨_, rfl, g, _, 2, _, rfl, rfl, hS1, a2 x y z', _, _, rfl, rfl, _, rfl, g, _, 2, 2, rfl, rfl, hg1, rfl, ?_⟩
      have hS2 : SqL K (upd H1 g (.lst [.int x, .int y, .int (z' + 1)])) g [.int x, .int y, .int (z' + 1)] := .inl (.inl upd_same)
      refine ⟨_, rfl, _, _, rfl, rfl, .inr ⟨by decide, by decide⟩, _, rfl, g, _, 1, _, rfl, rfl, hS2, a1 _ _ _, _, rfl, g, _, 2, _, rfl, rfl, hS2, a2 _ _ _, _, _, rfl, by omega, by omega, fun r => ?_⟩
      exact ⟨_, _, rfl, rfl, _, z' + 1, _, rfl, upd_same, by omega, by omega, But.upd b1⟩
    · rintro σ H1 ⟨d, z', v, rfl, hg1, y0, y1, b1⟩
      refine ⟨_, rfl, .inl ⟨_, rfl, _, rfl, _, _, rfl, rfl, b0, ?_⟩⟩
      exact q _ _ (Int.emod_nonneg _ (by omega)) (Int.emod_lt_of_pos _ b0) ⟨_, _, _, hg1, y0, by omega⟩ b1
/-- a comprehension over a range that draws whole numbers -/
theorem lc_drawR {lo : Int} {n : Nat} {j : Nat} {te : TE} {vs : List Nat} {σ : L2.St} {H1 : Hp} {D : Addr} {Qd : Hp → Prop} (g : Addr) (m step : Nat) (P : Int → Prop) (nD : H1 D = none) (hG : GenAt H1 g m) (hz : n < sizeLine)
    (hw : ∀ x, wipe ((wipe σ vs).set j (some x)) vs = wipe σ vs)
    (hs : ∀ (i : Nat) (H' : Hp), i < n → But g H1 H' → GenAt H' g (m + step * i) → ∀ Qt : V → Hp → Prop, (∀ (y : Int) H'', P y → But g H' H'' → GenAt H'' g (m + step * (i + 1)) → Qt (.int y) H'') → te ((wipe σ vs).set j (some (.int (lo + (i : Int))))) H' Qt)
    (hd : ∀ H' (ys : List Int), But g H1 H' → GenAt H' g (m + step * n) → H' D = some (.lst (ys.map V.int)) → ys.length = n → (∀ y ∈ ys, P y) → Qd H') :
    ∃ W : Nat → Nat → Hp → Prop, (∃ m, W 0 m (upd H1 D (.lst []))) ∧ ∀ i m H, W i m H →
      ((Itr lo n).stop i H ∧ Qd H) ∨ ((Itr lo n).go i H ∧ ∃ Nx : Hp → Prop, (∀ H', Nx H' → ∃ m', m' < m ∧ W (i + 1) m' H') ∧ ∀ x H', (Itr lo n).yld i H x H' → gName j x (wipe σ vs) H' fun σ2 H2 => wipe σ2 vs = wipe σ vs ∧ tYes σ2 H2 fun b H3 =>
        if b = true then te σ2 H3 fun y H4 => ∃ acc, H4 D = some (.lst acc) ∧ acc.length < sizeLine ∧ Nx (upd H4 D (.lst (acc ++ [y]))) else Nx H3) := by
  have nDg : D ≠ g := hG.ne nD
  refine lc_range (lo := lo) (n := n) (fun i H => ∃ ys : List Int, But g H1 H ∧ GenAt H g (m + step * i) ∧ H D = some (.lst (ys.map V.int)) ∧ ys.length = i ∧ ∀ y ∈ ys, P y)
    ⟨[], But.of (same_upd nD), hG.same (same_upd nD), upd_same, rfl, (fun _ h => nomatch h)⟩ ?_ ?_
  · rintro i H hi ⟨ys, b, hg, hD, hl, hP⟩
    refine ⟨hw _, ?_⟩
    unfold tYes
    dsimp only
    rw [if_pos (show true = true from rfl)]
    refine hs i H hi b hg _ fun y H2 py b2 hg2 => ?_
    refine ⟨_, b2 _ _ nDg hD, by rw [List.length_map]; omega, ys ++ [y], ?_, ?_, ?_, ?_, ?_⟩
    · intro c o nc hc
      rw [upd_ne (ne_of_none hc nD)]
      exact b2 _ _ nc (b _ _ nc hc)
    · obtain ⟨x1, x2, x3, e1, e2⟩ := hg2
      exact ⟨x1, x2, x3, by rw [upd_ne nDg.symm]; exact e1, e2⟩
    · rw [upd_same, List.map_append]
      rfl
    · rw [List.length_append, hl]
      rfl
    · intro z hz
      rcases List.mem_append.mp hz with hz | hz
      · exact hP z hz
      · rw [List.mem_singleton.mp hz]
        exact py
  · rintro H ⟨ys, b, hg, hD, hl, hP⟩
    exact hd H ys b hg hD hl hP
end
end My

namespace My
open PySem PySem.Spec PyProof.Rows L2 Pre
/-- a comprehension over a list of whole numbers that draws whole numbers -/
theorem lc_drawL {K : PySem.W.Frag} {a : Addr} {xs : List Int} {j : Nat} {te : TE} {vs : List Nat} {σ : L2.St} {H1 : Hp} {D : Addr} {Qd : Hp → Prop} (g : Addr) (m step : Nat) (P : Int → Prop) (nD : H1 D = none) (hG : GenAt H1 g m) (hA : H1 a = some (.lst (xs.map V.int))) (ag : a ≠ g) (hz : xs.length < sizeLine)
    (hw : ∀ x, wipe ((wipe σ vs).set j (some x)) vs = wipe σ vs)
    (hs : ∀ (i : Nat) (x : Int) (H' : Hp), xs[i]? = some x → But g H1 H' → GenAt H' g (m + step * i) → ∀ Qt : V → Hp → Prop, (∀ (y : Int) H'', P y → But g H' H'' → GenAt H'' g (m + step * (i + 1)) → Qt (.int y) H'') → te ((wipe σ vs).set j (some (.int x))) H' Qt)
    (hd : ∀ H' (ys : List Int), But g H1 H' → GenAt H' g (m + step * xs.length) → H' D = some (.lst (ys.map V.int)) → ys.length = xs.length → (∀ y ∈ ys, P y) → Qd H') :
    ∃ W : Nat → Nat → Hp → Prop, (∃ m, W 0 m (upd H1 D (.lst []))) ∧ ∀ i m H, W i m H →
      ((Itl K a).stop i H ∧ Qd H) ∨ ((Itl K a).go i H ∧ ∃ Nx : Hp → Prop, (∀ H', Nx H' → ∃ m', m' < m ∧ W (i + 1) m' H') ∧ ∀ x H', (Itl K a).yld i H x H' → gName j x (wipe σ vs) H' fun σ2 H2 => wipe σ2 vs = wipe σ vs ∧ tYes σ2 H2 fun b H3 =>
        if b = true then te σ2 H3 fun y H4 => ∃ acc, H4 D = some (.lst acc) ∧ acc.length < sizeLine ∧ Nx (upd H4 D (.lst (acc ++ [y]))) else Nx H3) := by
  have nDg : D ≠ g := hG.ne nD
  have aD : a ≠ D := ne_of_none hA nD
  refine lc_list (K := K) (a := a) (xs := xs.map V.int) (fun i H => ∃ ys : List Int, But g H1 H ∧ GenAt H g (m + step * i) ∧ H D = some (.lst (ys.map V.int)) ∧ ys.length = i ∧ ∀ y ∈ ys, P y)
    ⟨[], But.of (same_upd nD), hG.same (same_upd nD), upd_same, rfl, (fun _ h => nomatch h)⟩ (fun i H _ ⟨_, b, _⟩ => .inl (.inl (b _ _ ag hA))) ?_ ?_
  · rintro i v H hi ⟨ys, b, hg, hD, hl, hP⟩
    obtain ⟨x, hx, rfl⟩ := int_at hi
    have hil := (List.getElem?_eq_some_iff.mp hx).1
    refine ⟨hw _, ?_⟩
    unfold tYes
    dsimp only
    rw [if_pos (show true = true from rfl)]
    refine hs i x H hx b hg _ fun y H2 py b2 hg2 => ?_
    refine ⟨_, b2 _ _ nDg hD, by rw [List.length_map]; omega, ys ++ [y], ?_, ?_, ?_, ?_, ?_⟩
    · intro c o nc hc
      rw [upd_ne (ne_of_none hc nD)]
      exact b2 _ _ nc (b _ _ nc hc)
    · obtain ⟨x1, x2, x3, e1, e2⟩ := hg2
      exact ⟨x1, x2, x3, by rw [upd_ne nDg.symm]; exact e1, e2⟩
    · rw [upd_same, List.map_append]
      rfl
    · rw [List.length_append, hl]
      rfl
    · intro z hz
      rcases List.mem_append.mp hz with hz | hz
      · exact hP z hz
      · rw [List.mem_singleton.mp hz]
        exact py
  · rintro H ⟨ys, b, hg, hD, hl, hP⟩
    rw [List.length_map] at hg hl
    exact hd H ys b hg hD hl hP
end My

namespace My
open PySem PySem.Spec PyProof.Rows L2 Pre
/-- a comprehension over a list that makes new things: R tells what is known of the i-th -/
theorem lc_relL {K : PySem.W.Frag} {a : Addr} {xs : List V} {j : Nat} {te : TE} {vs : List Nat} {σ : L2.St} {H1 : Hp} {D : Addr} {Qd : Hp → Prop} (R : Nat → V → Hp → Prop) (nD : H1 D = none) (hS : SqL K H1 a xs) (hz : xs.length < sizeLine)
    (mono : ∀ (i : Nat) (y : V) (H H' : Hp), Pre.Off D H H' → R i y H → R i y H') (hw : ∀ x, wipe ((wipe σ vs).set j (some x)) vs = wipe σ vs)
    (hs : ∀ (i : Nat) (x : V) (H' : Hp) (zs : List V), xs[i]? = some x → Same H1 H' → H' D = some (.lst zs) → ∀ Qt : V → Hp → Prop, (∀ y H'', Same H' H'' → R i y H'' → Qt y H'') → te ((wipe σ vs).set j (some x)) H' Qt)
    (hd : ∀ H' ys, Same H1 H' → H' D = some (.lst ys) → ys.length = xs.length → (∀ (i : Nat) (y : V), ys[i]? = some y → R i y H') → Qd H') :
    ∃ W : Nat → Nat → Hp → Prop, (∃ m, W 0 m (upd H1 D (.lst []))) ∧ ∀ i m H, W i m H →
      ((Itl K a).stop i H ∧ Qd H) ∨ ((Itl K a).go i H ∧ ∃ Nx : Hp → Prop, (∀ H', Nx H' → ∃ m', m' < m ∧ W (i + 1) m' H') ∧ ∀ x H', (Itl K a).yld i H x H' → gName j x (wipe σ vs) H' fun σ2 H2 => wipe σ2 vs = wipe σ vs ∧ tYes σ2 H2 fun b H3 =>
        if b = true then te σ2 H3 fun y H4 => ∃ acc, H4 D = some (.lst acc) ∧ acc.length < sizeLine ∧ Nx (upd H4 D (.lst (acc ++ [y]))) else Nx H3) := by
  refine lc_list (K := K) (a := a) (xs := xs) (RelPv R H1 D) ⟨[], same_upd nD, upd_same, rfl, fun k y h => by simp at h⟩ (fun i H _ ⟨_, s, _⟩ => s.seq hS) ?_ ?_
  · rintro i x H hx ⟨ys, s, hD, hl, hR⟩
    have hi : i < xs.length := (List.getElem?_eq_some_iff.mp hx).1
    refine ⟨hw _, ?_⟩
    unfold tYes
    dsimp only
    rw [if_pos (show true = true from rfl)]
    refine hs i x H ys hx s hD _ fun y H4 s4 r4 => ?_
    refine ⟨ys, s4 _ _ hD, by omega, ys ++ [y], same_over nD (s.trans s4), upd_same, by rw [List.length_append, hl]; rfl, fun k z hz => ?_⟩
    have off : Pre.Off D H4 (upd H4 D (.lst (ys ++ [y]))) := fun b o nb h => by rw [upd_ne nb]; exact h
    by_cases hk : k < ys.length
    · rw [List.getElem?_append_left hk] at hz
      exact mono k z H _ (fun b o nb h => off b o nb (s4 b o h)) (hR k z hz)
    · rw [List.getElem?_append_right (by omega)] at hz
      have hk2 : k - ys.length = 0 := by
        have h2 := (List.getElem?_eq_some_iff.mp hz).1
        rw [List.length_singleton] at h2
        omega
      rw [hk2] at hz
      cases hz
      have ek : k = i := by omega
      rw [ek]
      exact mono i y H4 _ off r4
  · rintro H ⟨ys, s, hD, hl, hR⟩
    exact hd H ys s hD hl hR
/-- a list of lists of whole numbers -/
def RowsIn (H : Hp) (p : Addr) (rows : List (List Int)) : Prop := ∃ as : List Addr, H p = some (.lst (as.map V.ref)) ∧ as.length = rows.length ∧ ∀ (i : Nat) (a : Addr) (r : List Int), as[i]? = some a → rows[i]? = some r → H a = some (.lst (r.map V.int))
theorem RowsIn.same {H H' : Hp} {p : Addr} {rows : List (List Int)} (h : RowsIn H p rows) (s : Same H H') : RowsIn H' p rows := by
  obtain ⟨as, h1, h2, h3⟩ := h
  exact ⟨as, s _ _ h1, h2, fun i a r ha hr => s _ _ (h3 i a r ha hr)⟩
section
variable {X : Cx}
theorem huD {k : Nat} {A : Around} (r : Room k A) : A.units + 65 < cLine := by have := r.un; omega
theorem k_inD (K : PySem.W.Frag) (h : X.K = K) (hu : X.A.units + 65 < cLine) : OpR X (compareOp .In) (rInD K) := by subst h; exact op_inD hu
theorem k_notInD (K : PySem.W.Frag) (h : X.K = K) (hu : X.A.units + 65 < cLine) : OpR X (compareOp .NotIn) (rNotInD K) := by subst h; exact op_notInD hu
theorem k_indexD (K : PySem.W.Frag) (h : X.K = K) (hu : X.A.units + 65 < cLine) : MtR X "list.index" (rIndexD K) := by subst h; exact mt_indexD hu
end
/-- rows as data -/
def rowD (r : List Int) : PyData := .list (r.map PyData.int)
theorem rows_dp {K : PySem.W.Frag} {H : Hp} : ∀ {as : List Addr} {rows : List (List Int)}, as.length = rows.length → (∀ (i : Nat) (a : Addr) (r : List Int), as[i]? = some a → rows[i]? = some r → H a = some (.lst (r.map V.int))) → DpAll K H (as.map V.ref) (rows.map rowD)
  | [], [], _, _ => .nil
  | [], _ :: _, h, _ => by simp at h
  | _ :: _, [], h, _ => by simp at h
  | a :: as, r :: rows, h, k => .cons (.lst (.inl (.inl (k 0 a r rfl rfl))) (Pre.dp_ints r)) (rows_dp (by simpa using h) fun i t q ht hq => k (i + 1) t q (by simpa using ht) (by simpa using hq))
theorem rowD_eqv (r q : List Int) : PyData.eqv (rowD r) (rowD q) = decide (r = q) := by
  unfold rowD
  rw [PyData.eqv, eqv_ints]
theorem rows_shaped (rows : List (List Int)) : SeqAt.shaped (.list (rows.map rowD)) = true := by
  have h1 : ∀ l : List (List Int), PyData.canLayAll0 (l.map rowD) = true := fun l => by
    induction l with
    | nil => rfl
    | cons r l ih =>
      show (PyData.canLay0 (rowD r) && PyData.canLayAll0 (l.map rowD)) = true
      rw [ih]
      unfold rowD
      rw [PyData.canLay0, lay_ints]
      rfl
  have h2 : ∀ l : List (List Int), PyData.depthAll (l.map rowD) ≤ 1 := fun l => by
    induction l with
    | nil => simp [PyData.depthAll]
    | cons r l ih =>
      show PyData.depthAll (rowD r :: l.map rowD) ≤ 1
      rw [PyData.depthAll]
      unfold rowD at *
      rw [PyData.depth, depth_ints]
      omega
  show (PyData.canLay0 (.list (rows.map rowD)) && decide (PyData.depth (.list (rows.map rowD)) ≤ 64)) = true
  rw [Bool.and_eq_true]
  have := h2 rows
  exact ⟨by rw [PyData.canLay0]; exact h1 rows, decide_eq_true (by rw [PyData.depth]; omega)⟩
end My

namespace My
open PySem PySem.Spec PyProof.Rows L2 Pre
/-! ### min and max of a list of pairs of whole numbers -/
def pairD (p : Int × Int) : PyData := .tuple [.int p.1, .int p.2]
def ltP2 (p q : Int × Int) : Prop := p.1 < q.1 ∨ (p.1 = q.1 ∧ p.2 < q.2)
instance (p q : Int × Int) : Decidable (ltP2 p q) := by unfold ltP2; infer_instance
theorem pair_lt (p q : Int × Int) : PySem.W.dataLt (pairD p) (pairD q) = decide (ltP2 p q) := PySem.W.dataLt_ii p.1 p.2 q.1 q.2
theorem ltP2_trans {p q r : Int × Int} (h : ¬ ltP2 q p) (k : ¬ ltP2 r q) : ¬ ltP2 r p := by
  unfold ltP2 at *
  omega
def minP (p : Int × Int) (ps : List (Int × Int)) : Int × Int := ps.foldl (fun a y => if ltP2 y a then y else a) p
def maxP (p : Int × Int) (ps : List (Int × Int)) : Int × Int := ps.foldl (fun a y => if ltP2 a y then y else a) p
theorem minP_data : ∀ (ps : List (Int × Int)) (p : Int × Int), PySem.W.minD (pairD p) (ps.map pairD) = pairD (minP p ps)
  | [], _ => rfl
  | q :: ps, p => by
    show PySem.W.minD (if PySem.W.dataLt (pairD q) (pairD p) = true then pairD q else pairD p) (ps.map pairD) = pairD (minP (if ltP2 q p then q else p) ps)
    rw [pair_lt]
    by_cases h : ltP2 q p
    · rw [decide_eq_true h, if_pos rfl, if_pos h, minP_data ps q]
    · rw [decide_eq_false h, if_neg (by decide), if_neg h, minP_data ps p]
theorem maxP_data : ∀ (ps : List (Int × Int)) (p : Int × Int), PySem.W.maxD (pairD p) (ps.map pairD) = pairD (maxP p ps)
  | [], _ => rfl
  | q :: ps, p => by
    show PySem.W.maxD (if PySem.W.dataLt (pairD p) (pairD q) = true then pairD q else pairD p) (ps.map pairD) = pairD (maxP (if ltP2 p q then q else p) ps)
    rw [pair_lt]
    by_cases h : ltP2 p q
    · rw [decide_eq_true h, if_pos rfl, if_pos h, maxP_data ps q]
    · rw [decide_eq_false h, if_neg (by decide), if_neg h, maxP_data ps p]
theorem minP_spec : ∀ (ps : List (Int × Int)) (p : Int × Int), minP p ps ∈ p :: ps ∧ ∀ q ∈ p :: ps, ¬ ltP2 q (minP p ps)
  | [], p => ⟨List.mem_cons_self, fun q hq => by
      rw [List.mem_singleton.mp hq]
      show ¬ ltP2 p p
      unfold ltP2
      omega⟩
  | r :: ps, p => by
    show minP (if ltP2 r p then r else p) ps ∈ _ ∧ ∀ q ∈ p :: r :: ps, ¬ ltP2 q (minP (if ltP2 r p then r else p) ps)
    by_cases h : ltP2 r p
    · rw [if_pos h]
      obtain ⟨h1, h2⟩ := minP_spec ps r
      refine ⟨List.mem_cons_of_mem _ h1, fun q hq => ?_⟩
      rcases List.mem_cons.mp hq with rfl | hq
      · have := h2 r List.mem_cons_self
        exact fun z => this (by unfold ltP2 at *; omega)
      · exact h2 q hq
    · rw [if_neg h]
      obtain ⟨h1, h2⟩ := minP_spec ps p
      refine ⟨?_, fun q hq => ?_⟩
      · rcases List.mem_cons.mp h1 with e | e
        · rw [e]; exact List.mem_cons_self
        · exact List.mem_cons_of_mem _ (List.mem_cons_of_mem _ e)
      · rcases List.mem_cons.mp hq with rfl | hq
        · exact h2 q List.mem_cons_self
        · rcases List.mem_cons.mp hq with rfl | hq
          · have := h2 p List.mem_cons_self
            exact fun z => this (by unfold ltP2 at *; omega)
          · exact h2 q (List.mem_cons_of_mem _ hq)
theorem maxP_spec : ∀ (ps : List (Int × Int)) (p : Int × Int), maxP p ps ∈ p :: ps ∧ ∀ q ∈ p :: ps, ¬ ltP2 (maxP p ps) q
  | [], p => ⟨List.mem_cons_self, fun q hq => by
      rw [List.mem_singleton.mp hq]
      show ¬ ltP2 p p
      unfold ltP2
      omega⟩
  | r :: ps, p => by
    show maxP (if ltP2 p r then r else p) ps ∈ _ ∧ ∀ q ∈ p :: r :: ps, ¬ ltP2 (maxP (if ltP2 p r then r else p) ps) q
    by_cases h : ltP2 p r
    · rw [if_pos h]
      obtain ⟨h1, h2⟩ := maxP_spec ps r
      refine ⟨List.mem_cons_of_mem _ h1, fun q hq => ?_⟩
      rcases List.mem_cons.mp hq with rfl | hq
      · have := h2 r List.mem_cons_self
        exact fun z => this (by unfold ltP2 at *; omega)
      · exact h2 q hq
    · rw [if_neg h]
      obtain ⟨h1, h2⟩ := maxP_spec ps p
      refine ⟨?_, fun q hq => ?_⟩
      · rcases List.mem_cons.mp h1 with e | e
        · rw [e]; exact List.mem_cons_self
        · exact List.mem_cons_of_mem _ (List.mem_cons_of_mem _ e)
      · rcases List.mem_cons.mp hq with rfl | hq
        · exact h2 q List.mem_cons_self
        · rcases List.mem_cons.mp hq with rfl | hq
          · have := h2 p List.mem_cons_self
            exact fun z => this (by unfold ltP2 at *; omega)
          · exact h2 q (List.mem_cons_of_mem _ hq)
theorem pairs_alike (ps : List (Int × Int)) : PySem.W.AlikeAll (ps.map pairD) := by
  refine ⟨fun x hx y hy => ?_, fun x hx => ?_⟩
  · obtain ⟨p, _, rfl⟩ := List.mem_map.mp hx
    obtain ⟨q, _, rfl⟩ := List.mem_map.mp hy
    rfl
  · obtain ⟨p, _, rfl⟩ := List.mem_map.mp hx
    exact fun z => nomatch z
theorem pairs_lay : ∀ ps : List (Int × Int), PyData.canLayAll0 (ps.map pairD) = true
  | [] => rfl
  | p :: ps => by simp [PyData.canLayAll0, PyData.canLay0, pairD, pairs_lay ps]
theorem pairs_depth : ∀ ps : List (Int × Int), PyData.depthAll (ps.map pairD) ≤ 2
  | [] => by simp [PyData.depthAll]
  | p :: ps => by
    have := pairs_depth ps
    simp only [List.map_cons, PyData.depthAll, pairD, PyData.depth]
    omega
/-- a list of pairs, at a -/
def PairsAt (K : PySem.W.Frag) (H : Hp) (a : Addr) (ps : List (Int × Int)) : Prop := ∃ as : List Addr, SqL K H a (as.map V.ref) ∧ as.length = ps.length ∧ ∀ (i : Nat) (t : Addr) (p : Int × Int), as[i]? = some t → ps[i]? = some p → SqT K H t [.int p.1, .int p.2]
theorem pairs_dp {K : PySem.W.Frag} {H : Hp} : ∀ {as : List Addr} {ps : List (Int × Int)}, as.length = ps.length → (∀ (i : Nat) (t : Addr) (p : Int × Int), as[i]? = some t → ps[i]? = some p → SqT K H t [.int p.1, .int p.2]) → DpAll K H (as.map V.ref) (ps.map pairD)
  | [], [], _, _ => .nil
  | [], _ :: _, h, _ => by simp at h
  | _ :: _, [], h, _ => by simp at h
  | a :: as, p :: ps, h, k => .cons (.tup (k 0 a p rfl rfl) (.cons (.int _) (.cons (.int _) .nil))) (pairs_dp (by simpa using h) fun i t q ht hq => k (i + 1) t q (by simpa using ht) (by simpa using hq))
def rMnP (K : PySem.W.Frag) (best : Int × Int → List (Int × Int) → Int × Int) : List V → Hp → VK → Prop := fun xs H Q => ∃ (a : Addr) (p : Int × Int) (ps : List (Int × Int)), xs = [.ref a] ∧ PairsAt K H a (p :: ps) ∧ ∀ t, SqT K H t [.int (best p ps).1, .int (best p ps).2] → Q (.ref t) H
section
variable {X : Cx} {K : PySem.W.Frag}
theorem pick {H : Hp} {s : Shared} {as : List Addr} {ps : List (Int × Int)} {its : List Value} {i : Nat} {v : Value} {h' : Heap} {bs cs : List Addr} {b : Int × Int} (hl : as.length = ps.length)
    (hT : ∀ (i : Nat) (t : Addr) (p : Int × Int), as[i]? = some t → ps[i]? = some p → SqT K H t [.int p.1, .int p.2]) (rv : Vals (as.map V.ref) its) (hr : ReadsAll s.heap its (ps.map pairD) cs) (hv : its.toArray[i]? = some v) (rd : Reads h' v (pairD b) bs)
    (hk : ∀ b o, s.heap.get? b = some o → h'.get? b = some o) : ∃ t, v = .ref t ∧ SqT K H t [.int b.1, .int b.2] := by
  have hv' : its[i]? = some v := by simpa using hv
  have hil : i < its.length := (List.getElem?_eq_some_iff.mp hv').1
  have hvl := rv.length
  rw [List.length_map] at hvl
  obtain ⟨u, hu, ru⟩ := rv.get (show (as.map V.ref)[i]? = some (.ref (as[i]'(by omega))) by rw [List.getElem?_map, List.getElem?_eq_getElem (by omega)]; rfl)
  rw [hv'] at hu
  cases hu
  have hp : ps[i]? = some (ps[i]'(by omega)) := List.getElem?_eq_getElem (by omega)
  obtain ⟨ds, r1, _, _, _⟩ := PySem.W.readsAll_at hr i v hv'
  have e1 : (ps.map pairD).getD i .none = pairD (ps[i]'(by omega)) := by
    rw [List.getD_eq_getElem?_getD, List.getElem?_map, hp]
    rfl
  rw [e1] at r1
  have e2 := PySem.SeqAt.Reads.unique (pairD b) _ v _ _ (by simp [pairD, PyData.canLay0, PyData.canLayAll0]) rd (Reads.keeps hk r1)
  have e3 : b = ps[i]'(by omega) := by
    unfold pairD at e2
    injection e2 with e2
    injection e2 with e4 e5
    injection e5 with e5 _
    injection e4 with e4
    injection e5 with e5
    exact Prod.ext e4 e5
  refine ⟨as[i]'(by omega), ru, ?_⟩
  rw [e3]
  exact hT i _ _ (List.getElem?_eq_getElem (by omega)) hp
theorem k_minP (K : PySem.W.Frag) (h : X.K = K) (hc : X.calm = true) (hu : X.A.units + 65 < cLine) : CallR X (.builtin "min") (rMnP K minP) := by
  subst h
  intro pins s σ H xs us Q I r h
  obtain ⟨a, p, ps, rfl, ⟨as, hS, hl, hT⟩, q⟩ := h
  obtain ⟨its, rv, hL, _⟩ := I.list hS
  rw [Vals.ref1 r]
  obtain ⟨cs, hr⟩ := Dp.readsAll I _ _ its (pairs_dp hl hT) rv
  have hd := pairs_depth (p :: ps)
  refine PySem.W.min_list_data (I.ok.hd hc) hL.isList (show ReadsAll s.heap its.toArray.toList (pairD p :: ps.map pairD) cs by simpa using hr) (pairs_alike (p :: ps)) (by rw [List.map_cons] at hd; omega) fun i v h' tk bs hv rd hk => ?_
  rw [minP_data] at rd
  obtain ⟨t, rfl, ht⟩ := pick hl hT rv hr hv rd hk
  exact ⟨.ref t, H, I.kept hk, rfl, q t ht⟩
theorem k_maxP (K : PySem.W.Frag) (h : X.K = K) (hc : X.calm = true) (hu : X.A.units + 65 < cLine) : CallR X (.builtin "max") (rMnP K maxP) := by
  subst h
  intro pins s σ H xs us Q I r h
  obtain ⟨a, p, ps, rfl, ⟨as, hS, hl, hT⟩, q⟩ := h
  obtain ⟨its, rv, hL, _⟩ := I.list hS
  rw [Vals.ref1 r]
  obtain ⟨cs, hr⟩ := Dp.readsAll I _ _ its (pairs_dp hl hT) rv
  have hd := pairs_depth (p :: ps)
  refine PySem.W.max_list_data (I.ok.hd hc) hL.isList (show ReadsAll s.heap its.toArray.toList (pairD p :: ps.map pairD) cs by simpa using hr) (pairs_alike (p :: ps)) (by rw [List.map_cons] at hd; omega) fun i v h' tk bs hv rd hk => ?_
  rw [maxP_data] at rd
  obtain ⟨t, rfl, ht⟩ := pick hl hT rv hr hv rd hk
  exact ⟨.ref t, H, I.kept hk, rfl, q t ht⟩
theorem huM {k : Nat} {A : Around} (r : Room k A) : A.units + 65 < cLine := by have := r.un; omega
end
end My

namespace My
open PySem PySem.Spec PyProof.Rows L2 Pre
/-! ### data in a heap: what is told of a value by lists and tuples that stand there (none of them frozen) -/
mutual
inductive Dt (H : Hp) : V → PyData → Prop
  | non : Dt H .non .none
  | bl (b : Bool) : Dt H (.bl b) (.bool b)
  | int (n : Int) : Dt H (.int n) (.int n)
  | str (x : Str) : Dt H (.str x) (.str x)
  | lst {a : Addr} {xs : List V} {ds : List PyData} : H a = some (.lst xs) → DtA H xs ds → Dt H (.ref a) (.list ds)
  | tup {a : Addr} {xs : List V} {ds : List PyData} : H a = some (.tup xs) → DtA H xs ds → Dt H (.ref a) (.tuple ds)
inductive DtA (H : Hp) : List V → List PyData → Prop
  | nil : DtA H [] []
  | cons {v : V} {vs : List V} {d : PyData} {ds : List PyData} : Dt H v d → DtA H vs ds → DtA H (v :: vs) (d :: ds)
end
mutual
theorem Dt.same {H H' : Hp} (s : Same H H') : ∀ {d : PyData} {v : V}, Dt H v d → Dt H' v d
  | .none, _, h => by cases h; exact .non
  | .bool _, _, h => by cases h; exact .bl _
  | .int _, _, h => by cases h; exact .int _
  | .str _, _, h => by cases h; exact .str _
  | .list _, _, h => by cases h with | lst a b => exact .lst (s _ _ a) (DtA.same s b)
  | .tuple _, _, h => by cases h with | tup a b => exact .tup (s _ _ a) (DtA.same s b)
  | .dict _, _, h => nomatch h
theorem DtA.same {H H' : Hp} (s : Same H H') : ∀ {ds : List PyData} {vs : List V}, DtA H vs ds → DtA H' vs ds
  | [], _, h => by cases h; exact .nil
  | _ :: _, _, h => by cases h with | cons a b => exact .cons (Dt.same s a) (DtA.same s b)
end
mutual
theorem Dt.dp {K : PySem.W.Frag} {H : Hp} : ∀ {d : PyData} {v : V}, Dt H v d → Dp K H v d
  | .none, _, h => by cases h; exact .non
  | .bool _, _, h => by cases h; exact .bl _
  | .int _, _, h => by cases h; exact .int _
  | .str _, _, h => by cases h; exact .str _
  | .list _, _, h => by cases h with | lst a b => exact .lst (.inl (.inl a)) (DtA.dp b)
  | .tuple _, _, h => by cases h with | tup a b => exact .tup (.inl (.inl a)) (DtA.dp b)
  | .dict _, _, h => nomatch h
theorem DtA.dp {K : PySem.W.Frag} {H : Hp} : ∀ {ds : List PyData} {vs : List V}, DtA H vs ds → DpAll K H vs ds
  | [], _, h => by cases h; exact .nil
  | _ :: _, _, h => by cases h with | cons a b => exact .cons (Dt.dp a) (DtA.dp b)
end
theorem DtA.len {H : Hp} : ∀ {ds : List PyData} {vs : List V}, DtA H vs ds → vs.length = ds.length
  | [], _, h => by cases h; rfl
  | _ :: _, _, h => by cases h with | cons a b => rw [List.length_cons, List.length_cons, DtA.len b]
theorem DtA.app {H : Hp} : ∀ {ds : List PyData} {vs : List V} {es : List PyData} {us : List V}, DtA H vs ds → DtA H us es → DtA H (vs ++ us) (ds ++ es)
  | [], _, _, _, h, k => by cases h; exact k
  | _ :: _, _, _, _, h, k => by cases h with | cons a b => exact .cons a (DtA.app b k)
theorem DtA.get {H : Hp} : ∀ {ds : List PyData} {vs : List V} {i : Nat} {d : PyData}, DtA H vs ds → ds[i]? = some d → ∃ v, vs[i]? = some v ∧ Dt H v d
  | [], _, _, _, _, k => by simp at k
  | _ :: _, _, 0, _, h, k => by
    cases h with
    | cons a b => rw [List.getElem?_cons_zero] at k; cases k; exact ⟨_, rfl, a⟩
  | _ :: _, _, i + 1, _, h, k => by
    cases h with
    | cons a b => rw [List.getElem?_cons_succ] at k; rw [List.getElem?_cons_succ]; exact DtA.get b k
theorem DtA.got {H : Hp} {ds : List PyData} {vs : List V} {i : Nat} {v : V} (h : DtA H vs ds) (k : vs[i]? = some v) : ∃ d, ds[i]? = some d ∧ Dt H v d := by
  have hi := (List.getElem?_eq_some_iff.mp k).1
  have hl := h.len
  obtain ⟨u, hu, d⟩ := h.get (List.getElem?_eq_getElem (show i < ds.length by omega))
  rw [k] at hu
  cases hu
  exact ⟨_, List.getElem?_eq_getElem (by omega), d⟩
theorem DtA.take {H : Hp} : ∀ {ds : List PyData} {vs : List V} (n : Nat), DtA H vs ds → DtA H (vs.take n) (ds.take n)
  | _, _, 0, _ => .nil
  | [], _, _ + 1, h => by cases h; exact .nil
  | _ :: _, _, n + 1, h => by cases h with | cons a b => exact .cons a (DtA.take n b)
theorem DtA.drop {H : Hp} : ∀ {ds : List PyData} {vs : List V} (n : Nat), DtA H vs ds → DtA H (vs.drop n) (ds.drop n)
  | _, _, 0, h => h
  | [], _, _ + 1, h => by cases h; exact .nil
  | _ :: _, _, n + 1, h => by cases h with | cons a b => exact DtA.drop n b
theorem DtA.rev {H : Hp} : ∀ {ds : List PyData} {vs : List V}, DtA H vs ds → DtA H vs.reverse ds.reverse
  | [], _, h => by cases h; exact .nil
  | _ :: _, _, h => by
    cases h with
    | cons a b => rw [List.reverse_cons, List.reverse_cons]; exact DtA.app (DtA.rev b) (.cons a .nil)
theorem DtA.ints {H : Hp} : ∀ ns : List Int, DtA H (ns.map V.int) (ns.map PyData.int)
  | [] => .nil
  | n :: r => .cons (.int n) (DtA.ints r)
theorem DtA.intsE {H : Hp} : ∀ {ns : List Int} {vs : List V}, DtA H vs (ns.map PyData.int) → vs = ns.map V.int
  | [], _, h => by cases h; rfl
  | n :: r, _, h => by
    cases h with
    | cons a b => cases a; rw [DtA.intsE b]; rfl
/-- a list of whole numbers -/
theorem Dt.ints {H : Hp} {a : Addr} {ns : List Int} (h : H a = some (.lst (ns.map V.int))) : Dt H (.ref a) (rowD ns) := .lst h (DtA.ints ns)
theorem Dt.intsE {H : Hp} {v : V} {ns : List Int} (h : Dt H v (rowD ns)) : ∃ a, v = .ref a ∧ H a = some (.lst (ns.map V.int)) := by
  unfold rowD at h
  cases h with
  | lst a b => rw [DtA.intsE b] at a; exact ⟨_, rfl, a⟩
theorem Dt.listE {H : Hp} {v : V} {ds : List PyData} (h : Dt H v (.list ds)) : ∃ a xs, v = .ref a ∧ H a = some (.lst xs) ∧ DtA H xs ds := by
  cases h with
  | lst a b => exact ⟨_, _, rfl, a, b⟩
theorem Dt.tupE {H : Hp} {v : V} {ds : List PyData} (h : Dt H v (.tuple ds)) : ∃ a xs, v = .ref a ∧ H a = some (.tup xs) ∧ DtA H xs ds := by
  cases h with
  | tup a b => exact ⟨_, _, rfl, a, b⟩
/-! ### what is owned (and changes) is left out -/
def rs (S : List Addr) (H : Hp) : Hp := fun a => if a ∈ S then none else H a
theorem rs_nil (H : Hp) : rs [] H = H := by funext a; simp [rs]
theorem rs_in {S : List Addr} {H : Hp} {a : Addr} (h : a ∈ S) : rs S H a = none := if_pos h
theorem rs_out {S : List Addr} {H : Hp} {a : Addr} (h : a ∉ S) : rs S H a = H a := if_neg h
theorem rs_some {S : List Addr} {H : Hp} {a : Addr} {o : HO} (h : rs S H a = some o) : a ∉ S ∧ H a = some o := by
  by_cases m : a ∈ S
  · rw [rs_in m] at h; cases h
  · rw [rs_out m] at h; exact ⟨m, h⟩
theorem rs_le {S : List Addr} {H : Hp} : Same (rs S H) H := fun _ _ h => (rs_some h).2
theorem rs_same {S : List Addr} {H H' : Hp} (s : Same H H') : Same (rs S H) (rs S H') := fun b o h => by
  obtain ⟨m, e⟩ := rs_some h
  rw [rs_out m]
  exact s b o e
theorem rs_upd {S : List Addr} {H : Hp} {p : Addr} {o : HO} (h : p ∈ S) : rs S (L2.upd H p o) = rs S H := by
  funext a
  by_cases m : a ∈ S
  · rw [rs_in m, rs_in m]
  · rw [rs_out m, rs_out m, upd_ne (fun e => m (by rw [e]; exact h))]
/-- all of them stand -/
def Has (S : List Addr) (H : Hp) : Prop := ∀ a ∈ S, ∃ o, H a = some o
theorem Has.nil {H : Hp} : Has [] H := fun _ h => nomatch h
theorem Has.same {S : List Addr} {H H' : Hp} (h : Has S H) (s : Same H H') : Has S H' := fun a m => by
  obtain ⟨o, e⟩ := h a m
  exact ⟨o, s a o e⟩
theorem Has.cons {S : List Addr} {H : Hp} {p : Addr} {o : HO} (h : Has S H) (e : H p = some o) : Has (p :: S) H := fun a m => by
  rcases List.mem_cons.mp m with rfl | m
  · exact ⟨o, e⟩
  · exact h a m
theorem Has.upd {S : List Addr} {H : Hp} {p : Addr} {o : HO} (h : Has S H) : Has S (L2.upd H p o) := fun a m => by
  by_cases e : a = p
  · subst e; exact ⟨o, upd_same⟩
  · rw [upd_ne e]; exact h a m
theorem Has.out {S : List Addr} {H : Hp} {p : Addr} (h : Has S H) (n : H p = none) : p ∉ S := fun m => by
  obtain ⟨o, e⟩ := h p m
  rw [n] at e
  cases e
theorem GenAt.has {H : Hp} {g : Addr} {n : Nat} (h : GenAt H g n) : Has [g] H := by
  obtain ⟨x, y, z, e, _⟩ := h
  exact Has.nil.cons e
/-- all but what is owned stays -/
def Sta (S : List Addr) (H H' : Hp) : Prop := Same (rs S H) (rs S H')
theorem Sta.of {S : List Addr} {H H' : Hp} (s : Same H H') : Sta S H H' := rs_same s
theorem Sta.trans {S : List Addr} {H H1 H2 : Hp} (a : Sta S H H1) (b : Sta S H1 H2) : Sta S H H2 := fun c o h => b c o (a c o h)
theorem Sta.at_ {S : List Addr} {H H' : Hp} (s : Sta S H H') {a : Addr} {o : HO} (m : a ∉ S) (h : H a = some o) : H' a = some o := (rs_some (s a o (by rw [rs_out m]; exact h))).2
theorem Sta.upd {S : List Addr} {H : Hp} {p : Addr} {o : HO} (h : p ∈ S) : Sta S H (L2.upd H p o) := fun c u e => by rw [rs_upd h]; exact e
theorem Sta.more {S : List Addr} {H H' : Hp} {p : Addr} (s : Sta S H H') : Sta (p :: S) H H' := fun c o h => by
  obtain ⟨m, e⟩ := rs_some h
  have m2 : c ∉ S := fun z => m (List.mem_cons_of_mem _ z)
  rw [rs_out m]
  exact s.at_ m2 e
theorem But.sta {g : Addr} {H H' : Hp} (b : But g H H') : Sta [g] H H' := fun c o h => by
  obtain ⟨m, e⟩ := rs_some h
  rw [rs_out m]
  exact b c o (fun z => m (by rw [z]; exact List.mem_cons_self)) e
/-- what was there ahead of a new thing does not speak of it -/
theorem under {S : List Addr} {H H' : Hp} {p : Addr} (n : H p = none) (s : Same H H') : Same (rs S H) (rs (p :: S) H') := fun c o h => by
  obtain ⟨m, e⟩ := rs_some h
  rw [rs_out (fun z => by
    rcases List.mem_cons.mp z with rfl | z
    · rw [n] at e; cases e
    · exact m z)]
  exact s c o e
theorem over {S : List Addr} {H : Hp} {p : Addr} : Same (rs (p :: S) H) (rs S H) := fun c o h => by
  obtain ⟨m, e⟩ := rs_some h
  rw [rs_out (fun z => m (List.mem_cons_of_mem _ z))]
  exact e
/-! ### a new list, a new tuple, a sum of lists -/
theorem dt_new {S : List Addr} {H : Hp} {p : Addr} {xs : List V} {ds : List PyData} (hS : Has S H) (n : H p = none) (h : DtA (rs S H) xs ds) : Dt (rs S (upd H p (.lst xs))) (.ref p) (.list ds) :=
  .lst (by rw [rs_out (hS.out n)]; exact upd_same) (h.same (rs_same (same_upd n)))
theorem dt_newT {S : List Addr} {H : Hp} {p : Addr} {xs : List V} {ds : List PyData} (hS : Has S H) (n : H p = none) (h : DtA (rs S H) xs ds) : Dt (rs S (upd H p (.tup xs))) (.ref p) (.tuple ds) :=
  .tup (by rw [rs_out (hS.out n)]; exact upd_same) (h.same (rs_same (same_upd n)))
theorem d_lst {S : List Addr} {H : Hp} {xs : List V} {ds : List PyData} {Q : VK} (hS : Has S H) (h : DtA (rs S H) xs ds) (hz : xs.length ≤ sizeLine) (k : ∀ p H', Same H H' → H p = none → H' p = some (.lst xs) → Dt (rs S H') (.ref p) (.list ds) → Q (.ref p) H') : xs.length ≤ sizeLine ∧ ∀ p, H p = none → Q (.ref p) (upd H p (.lst xs)) :=
  ⟨hz, fun p n => k p _ (same_upd n) n upd_same (dt_new hS n h)⟩
theorem d_tup {S : List Addr} {H : Hp} {xs : List V} {ds : List PyData} {Q : VK} (hS : Has S H) (h : DtA (rs S H) xs ds) (hz : xs.length ≤ sizeLine) (k : ∀ p H', Same H H' → H p = none → H' p = some (.tup xs) → Dt (rs S H') (.ref p) (.tuple ds) → Q (.ref p) H') : xs.length ≤ sizeLine ∧ ∀ p, H p = none → Q (.ref p) (upd H p (.tup xs)) :=
  ⟨hz, fun p n => k p _ (same_upd n) n upd_same (dt_newT hS n h)⟩
theorem d_cat {S : List Addr} {H : Hp} {v w : V} {ds es : List PyData} {Q : VK} (hS : Has S H) (hv : Dt (rs S H) v (.list ds)) (hw : Dt (rs S H) w (.list es)) (hz : ds.length + es.length ≤ sizeLine) (k : ∀ p H', Same H H' → H p = none → Dt (rs S H') (.ref p) (.list (ds ++ es)) → Q (.ref p) H') : rCat v w H Q := by
  obtain ⟨a, xs, rfl, ha, hx⟩ := hv.listE
  obtain ⟨b, ys, rfl, hb, hy⟩ := hw.listE
  exact ⟨a, b, xs, ys, rfl, rfl, (rs_some ha).2, (rs_some hb).2, by rw [hx.len, hy.len]; exact hz, fun p n => k p _ (same_upd n) n (dt_new hS n (hx.app hy))⟩
theorem d_eq {K : PySem.W.Frag} {H : Hp} {v w : V} {d e : PyData} {Q : VK} (hv : Dt H v d) (hw : Dt H w e) (sd : SeqAt.shaped d = true) (se : SeqAt.shaped e = true) (q : Q (.bl (PyData.eqv d e)) H) : rEqD K v w H Q := ⟨d, e, hv.dp, hw.dp, sd, se, q⟩
theorem d_ne {K : PySem.W.Frag} {H : Hp} {v w : V} {d e : PyData} {Q : VK} (hv : Dt H v d) (hw : Dt H w e) (sd : SeqAt.shaped d = true) (se : SeqAt.shaped e = true) (q : Q (.bl (!PyData.eqv d e)) H) : rNeD K v w H Q := ⟨d, e, hv.dp, hw.dp, sd, se, q⟩
/-! ### comprehensions -/
/-- what comes of an item: nothing, or data -/
def Out (S : List Addr) (H : Hp) : Option PyData → Option V → Prop
  | some d, some v => Dt (rs S H) v d
  | none, none => True
  | _, _ => False
def accP (S : List Addr) (H1 : Hp) (D : Addr) (ds : List PyData) (H : Hp) : Prop := Same H1 H ∧ ∃ ys, H D = some (.lst ys) ∧ DtA (rs (D :: S) H) ys ds
theorem acc_step {S : List Addr} {H1 : Hp} {D : Addr} {sel : List (Option PyData)} {i : Nat} {o : Option PyData} {H H4 : Hp} (nD : H1 D = none) (ho : sel[i]? = some o) (hz : sel.length < sizeLine) (h : accP S H1 D ((sel.take i).filterMap id) H) (s4 : Same H H4) :
    ∀ y : Option V, Out (D :: S) H4 o y → match y with
      | some v => ∃ acc, H4 D = some (.lst acc) ∧ acc.length < sizeLine ∧ accP S H1 D ((sel.take (i + 1)).filterMap id) (upd H4 D (.lst (acc ++ [v])))
      | none => accP S H1 D ((sel.take (i + 1)).filterMap id) H4 := by
  obtain ⟨s, ys, hD, hy⟩ := h
  intro y hO
  rw [take_fm ho]
  cases o with
  | none =>
    cases y with
    | none => exact ⟨s.trans s4, ys, s4 _ _ hD, by simpa using hy.same (rs_same s4)⟩
    | some v => exact absurd hO (fun z => z)
  | some d =>
    cases y with
    | none => exact absurd hO (fun z => z)
    | some v =>
      refine ⟨ys, s4 _ _ hD, ?_, same_over nD (s.trans s4), ys ++ [v], upd_same, ?_⟩
      · rw [hy.len]
        exact Nat.lt_of_le_of_lt (fm_len sel i) hz
      · rw [rs_upd List.mem_cons_self]
        exact (hy.same (rs_same s4)).app (.cons hO .nil)
theorem acc_end {S : List Addr} {H1 : Hp} {D : Addr} {ds : List PyData} {H : Hp} (hS : Has S H1) (nD : H1 D = none) (h : accP S H1 D ds H) : Dt (rs S H) (.ref D) (.list ds) := by
  obtain ⟨s, ys, hD, hy⟩ := h
  exact .lst (by rw [rs_out (hS.out nD)]; exact hD) (hy.same over)
theorem lc_dR {lo : Int} {n : Nat} {j : Nat} {tt : TT} {te : TE} {vs : List Nat} {σ : L2.St} {H1 : Hp} {D : Addr} {Qd : Hp → Prop} {S : List Addr} (hS : Has S H1) (sel : List (Option PyData)) (nD : H1 D = none) (hlen : sel.length = n) (hz : n < sizeLine)
    (hw : ∀ x, wipe ((wipe σ vs).set j (some x)) vs = wipe σ vs)
    (hs : ∀ (i : Nat) (o : Option PyData) (H' : Hp), i < n → sel[i]? = some o → Same H1 H' → Has (D :: S) H' → ∀ Qt : Option V → Hp → Prop, (∀ y H'', Same H' H'' → Out (D :: S) H'' o y → Qt y H'') →
      tt ((wipe σ vs).set j (some (.int (lo + (i : Int))))) H' fun b H3 => if b = true then te ((wipe σ vs).set j (some (.int (lo + (i : Int))))) H3 fun y H4 => Qt (some y) H4 else Qt none H3)
    (hd : ∀ H', Same H1 H' → H' D ≠ none → Dt (rs S H') (.ref D) (.list (sel.filterMap id)) → Qd H') :
    ∃ W : Nat → Nat → Hp → Prop, (∃ m, W 0 m (upd H1 D (.lst []))) ∧ ∀ i m H, W i m H →
      ((Itr lo n).stop i H ∧ Qd H) ∨ ((Itr lo n).go i H ∧ ∃ Nx : Hp → Prop, (∀ H', Nx H' → ∃ m', m' < m ∧ W (i + 1) m' H') ∧ ∀ x H', (Itr lo n).yld i H x H' → gName j x (wipe σ vs) H' fun σ2 H2 => wipe σ2 vs = wipe σ vs ∧ tt σ2 H2 fun b H3 =>
        if b = true then te σ2 H3 fun y H4 => ∃ acc, H4 D = some (.lst acc) ∧ acc.length < sizeLine ∧ Nx (upd H4 D (.lst (acc ++ [y]))) else Nx H3) := by
  refine lc_range (lo := lo) (n := n) (fun i H => accP S H1 D ((sel.take i).filterMap id) H) ⟨same_upd nD, [], upd_same, .nil⟩ ?_ ?_
  · rintro i H hi h
    refine ⟨hw _, ?_⟩
    have ho : sel[i]? = some (sel[i]'(by omega)) := List.getElem?_eq_getElem (by omega)
    obtain ⟨s, ys, hD, hy⟩ := id h
    exact hs i _ H hi ho s ((hS.same s).cons hD) (fun o H4 => match o with
      | some y => ∃ acc, H4 D = some (.lst acc) ∧ acc.length < sizeLine ∧ accP S H1 D ((sel.take (i + 1)).filterMap id) (upd H4 D (.lst (acc ++ [y])))
      | none => accP S H1 D ((sel.take (i + 1)).filterMap id) H4) fun y H4 s4 hO => acc_step nD ho (by omega) h s4 y hO
  · rintro H h
    rw [← hlen, List.take_length] at h
    refine hd H h.1 ?_ (acc_end hS nD h)
    obtain ⟨_, ys, hD, _⟩ := h
    rw [hD]
    exact fun z => nomatch z
theorem lc_dL {K : PySem.W.Frag} {a : Addr} {xs : List V} {j : Nat} {tt : TT} {te : TE} {vs : List Nat} {σ : L2.St} {H1 : Hp} {D : Addr} {Qd : Hp → Prop} {S : List Addr} (hS : Has S H1) (sel : List (Option PyData)) (nD : H1 D = none) (hA : SqL K H1 a xs) (hlen : sel.length = xs.length) (hz : xs.length < sizeLine)
    (hw : ∀ x, wipe ((wipe σ vs).set j (some x)) vs = wipe σ vs)
    (hs : ∀ (i : Nat) (x : V) (o : Option PyData) (H' : Hp), xs[i]? = some x → sel[i]? = some o → Same H1 H' → Has (D :: S) H' → ∀ Qt : Option V → Hp → Prop, (∀ y H'', Same H' H'' → Out (D :: S) H'' o y → Qt y H'') →
      tt ((wipe σ vs).set j (some x)) H' fun b H3 => if b = true then te ((wipe σ vs).set j (some x)) H3 fun y H4 => Qt (some y) H4 else Qt none H3)
    (hd : ∀ H', Same H1 H' → H' D ≠ none → Dt (rs S H') (.ref D) (.list (sel.filterMap id)) → Qd H') :
    ∃ W : Nat → Nat → Hp → Prop, (∃ m, W 0 m (upd H1 D (.lst []))) ∧ ∀ i m H, W i m H →
      ((Itl K a).stop i H ∧ Qd H) ∨ ((Itl K a).go i H ∧ ∃ Nx : Hp → Prop, (∀ H', Nx H' → ∃ m', m' < m ∧ W (i + 1) m' H') ∧ ∀ x H', (Itl K a).yld i H x H' → gName j x (wipe σ vs) H' fun σ2 H2 => wipe σ2 vs = wipe σ vs ∧ tt σ2 H2 fun b H3 =>
        if b = true then te σ2 H3 fun y H4 => ∃ acc, H4 D = some (.lst acc) ∧ acc.length < sizeLine ∧ Nx (upd H4 D (.lst (acc ++ [y]))) else Nx H3) := by
  refine lc_list (K := K) (a := a) (xs := xs) (fun i H => accP S H1 D ((sel.take i).filterMap id) H) ⟨same_upd nD, [], upd_same, .nil⟩ (fun i H _ p => p.1.seq hA) ?_ ?_
  · rintro i x H hx h
    refine ⟨hw _, ?_⟩
    have hi := (List.getElem?_eq_some_iff.mp hx).1
    have ho : sel[i]? = some (sel[i]'(by omega)) := List.getElem?_eq_getElem (by omega)
    obtain ⟨s, ys, hD, hy⟩ := id h
    exact hs i x _ H hx ho s ((hS.same s).cons hD) (fun o H4 => match o with
      | some y => ∃ acc, H4 D = some (.lst acc) ∧ acc.length < sizeLine ∧ accP S H1 D ((sel.take (i + 1)).filterMap id) (upd H4 D (.lst (acc ++ [y])))
      | none => accP S H1 D ((sel.take (i + 1)).filterMap id) H4) fun y H4 s4 hO => acc_step nD ho (by omega) h s4 y hO
  · rintro H h
    rw [← hlen, List.take_length] at h
    refine hd H h.1 ?_ (acc_end hS nD h)
    obtain ⟨_, ys, hD, _⟩ := h
    rw [hD]
    exact fun z => nomatch z
/-- maps: each item's data -/
theorem sel_map {α : Type} (l : List α) (f : α → PyData) : (l.map fun x => some (f x)).filterMap id = l.map f := by
  induction l with
  | nil => rfl
  | cons x l ih =>
    show f x :: (l.map fun x => some (f x)).filterMap id = _
    rw [ih]
    rfl
/-- over any walk -/
theorem lc_dW {J : It} {n : Nat} {G : Hp → Prop} {Y : Nat → Hp → V → Hp → Prop} (w : Walk J n G Y) {g : TG} {tt : TT} {te : TE} {vs : List Nat} {σ : L2.St} {H1 : Hp} {D : Addr} {Qd : Hp → Prop} {S : List Addr} (hS : Has S H1) (sel : List (Option PyData)) (nD : H1 D = none) (hlen : sel.length = n) (hz : n < sizeLine)
    (hG : ∀ H', Same H1 H' → G H')
    (hs : ∀ (i : Nat) (o : Option PyData) (H0 : Hp) (x : V) (H' : Hp), i < n → sel[i]? = some o → Same H1 H0 → Has (D :: S) H0 → Y i H0 x H' → ∀ Qt : Option V → Hp → Prop, (∀ y H'', Same H0 H'' → Out (D :: S) H'' o y → Qt y H'') →
      g x (wipe σ vs) H' fun σ2 H2 => wipe σ2 vs = wipe σ vs ∧ tt σ2 H2 fun b H3 => if b = true then te σ2 H3 fun y H4 => Qt (some y) H4 else Qt none H3)
    (hd : ∀ H', Same H1 H' → H' D ≠ none → Dt (rs S H') (.ref D) (.list (sel.filterMap id)) → Qd H') :
    ∃ W : Nat → Nat → Hp → Prop, (∃ m, W 0 m (upd H1 D (.lst []))) ∧ ∀ i m H, W i m H →
      (J.stop i H ∧ Qd H) ∨ (J.go i H ∧ ∃ Nx : Hp → Prop, (∀ H', Nx H' → ∃ m', m' < m ∧ W (i + 1) m' H') ∧ ∀ x H', J.yld i H x H' → g x (wipe σ vs) H' fun σ2 H2 => wipe σ2 vs = wipe σ vs ∧ tt σ2 H2 fun b H3 =>
        if b = true then te σ2 H3 fun y H4 => ∃ acc, H4 D = some (.lst acc) ∧ acc.length < sizeLine ∧ Nx (upd H4 D (.lst (acc ++ [y]))) else Nx H3) := by
  refine lc_it w (fun i H => accP S H1 D ((sel.take i).filterMap id) H) ⟨same_upd nD, [], upd_same, .nil⟩ (fun i H _ p => hG H p.1) ?_ ?_
  · rintro i x H H' hi h y
    have ho : sel[i]? = some (sel[i]'(by omega)) := List.getElem?_eq_getElem (by omega)
    obtain ⟨s, ys, hD, hy⟩ := id h
    exact hs i _ H x H' hi ho s ((hS.same s).cons hD) y (fun o H4 => match o with
      | some y => ∃ acc, H4 D = some (.lst acc) ∧ acc.length < sizeLine ∧ accP S H1 D ((sel.take (i + 1)).filterMap id) (upd H4 D (.lst (acc ++ [y])))
      | none => accP S H1 D ((sel.take (i + 1)).filterMap id) H4) fun y H4 s4 hO => acc_step nD ho (by omega) h s4 y hO
  · rintro H h
    rw [← hlen, List.take_length] at h
    refine hd H h.1 ?_ (acc_end hS nD h)
    obtain ⟨_, ys, hD, _⟩ := h
    rw [hD]
    exact fun z => nomatch z
theorem dt_pairs {K : PySem.W.Frag} {H : Hp} {a : Addr} {ps : List (Int × Int)} (h : Dt H (.ref a) (.list (ps.map pairD))) : PairsAt K H a ps := by
  cases h with
  | lst ha hx =>
    rename_i xs
    have key : ∀ (ps : List (Int × Int)) (xs : List V), DtA H xs (ps.map pairD) → ∃ as : List Addr, xs = as.map V.ref ∧ as.length = ps.length ∧ ∀ (i : Nat) (t : Addr) (p : Int × Int), as[i]? = some t → ps[i]? = some p → SqT K H t [.int p.1, .int p.2] := fun ps => by
      induction ps with
      | nil => intro xs h; cases h; exact ⟨[], rfl, rfl, fun i t p ht => by simp at ht⟩
      | cons p ps ih =>
        intro xs h
        cases h with
        | cons b c =>
          obtain ⟨as, rfl, hl, k⟩ := ih _ c
          obtain ⟨t, ys, rfl, ht, hy⟩ := (show Dt H _ (.tuple [.int p.1, .int p.2]) from b).tupE
          rw [DtA.intsE (ns := [p.1, p.2]) hy] at ht
          refine ⟨t :: as, rfl, by rw [List.length_cons, List.length_cons, hl], fun i u q hu hq => ?_⟩
          cases i with
          | zero =>
            rw [List.getElem?_cons_zero] at hu hq
            cases hu
            cases hq
            exact .inl (.inl ht)
          | succ i =>
            rw [List.getElem?_cons_succ] at hu hq
            exact k i u q hu hq
    obtain ⟨as, rfl, hl, k⟩ := key ps xs hx
    exact ⟨as, .inl (.inl ha), hl, k⟩
end My

namespace My
open PySem PySem.Spec PyProof.Rows L2 Pre
/-! ### set(a list of whole numbers) -/
/-- a set just made -/
abbrev sE (w : World) : Obj := { cls := .type "set", dict := none, data := .set #[] 0 (.fresh 0 0 (!w.params.followText "set-order")) }
section
variable {P : Program} {w : World} {A : Around} {E : Value → Shared → Prop} {s : Shared}
/-- all that stood ahead stands -/
def Ahead (h h' : Heap) : Prop := ∀ b o, h.get? b = some o → h'.get? b = some o
set_option maxHeartbeats 8000000 in
theorem set_of_list {l : Addr} {its : Array Value} (ns : List Int) {Q : Value → Shared → Prop} (calm : A.handled = none) (lst : s.heap.IsList l its) (are : IntsAre its.toList ns) (few : ns.length + 1 < scanBound)
    (fin : ∀ (h' : Heap) (tk c : Nat), SetR w h' s.heap.objs.size (fun j => decide (j ∈ ns)) c → c ≤ ns.length → Ahead s.heap h' → Q (.ref s.heap.objs.size) { s with heap := h', toks := tk }) :
    wpAny (model P w) A (call (.type "set") [.ref l]) Q E s := by
  have size : its.size = ns.length := (Array.length_toList (xs := its)).symm.trans are.length
  obtain ⟨c0, tl, hmro⟩ := F.called_set.mro; have hmade := F.called_set.made; have hsub := F.called_set.sub; have hlt := F.called_set.notType; have hcr := F.called_set.canCreate; have hct := F.typeCall_set_1 (.ref l)
  refine wpAny_call (codeAny_of_tree ?_); show wpAny _ _ (callAny (.type "set") _) _ _ _
  refine wpAny_pure ⟨Code.quiet_builtin _ (by decide +kernel), codeAny_builtin F.entry_type_call ?_⟩; rw [Around.under_plain (weight_type_call_type "set" [.ref l] []) rfl]
  repeat (any_goals (first | assumption | wp_step))
  let top := s.heap.objs.size
  let h1 := s.heap.push (sE w)
  refine codeAny_mono (code_set_led1 (.ref l) (E := E) (Q₁ := fun x t => x = .ref top ∧ t = { s with heap := h1 }) ⟨rfl, rfl⟩) fun r t hr => ?_
  rcases r with e | fl
  · exact hr
  cases fl with
  | ret x =>
    obtain ⟨rfl, rfl⟩ := hr
    have new : h1.get? top = some (sE w) := Heap.get?_push_size _ rfl
    have isSet : Shared.TypeIs { s with heap := h1 } (.ref top) "set" := ⟨_, new, rfl⟩
    have hli := F.called_set.init.lookup; have hbi := F.called_set.init.bind (.ref top)
    repeat (any_goals (first | assumption | wp_step))
    refine codeAny_mono (codeAny_call_builtin (R := wants (fun y u => y = .none ∧ ∃ h' tk c, u = { s with heap := h', toks := tk } ∧ SetR w h' top (fun j => decide (j ∈ ns)) c ∧ c ≤ ns.length ∧ Ahead s.heap h') E) F.called_set.init.plain F.entry_set_init (check_set_init_1 isSet ?_)) fun r2 u hu => ?_
    · obtain ⟨⟨oc, od, ot, os⟩, at_l, cl, nl, dl⟩ := lst
      simp only at cl dl; subst cl; subst dl
      have at1 : h1.get? l = some { cls := .type "list", dict := od, data := .seq its nl, slots := os } := Heap.get?_push_of_some _ at_l
      have n1 := F.sub_list_set; have n2 := F.sub_list_frozenset; have n3 : (Value.type "list" == Value.type "dict") = false := by decide
      have lst1 : h1.IsList l its := ⟨_, at1, rfl, nl, rfl⟩
      unfold Builtin.«set.__init__» noKeywords Builtin.Frozenset.updateFrom; generalize eI : pyIter = I
      wp_walk
      subst eI
      refine wpAny_pyIter_list lst1 ?_; refine wpAny_bind (wpAny_runValue ?_)
      have lt := Heap.lt_size at_l
      have calm3 : A.in1.in1.in1.handled = none := by simp [calm]
      have hz : h1.objs.size = top + 1 := Heap.size_push ..
      have apart : l ≠ h1.objs.size := by rw [hz]; exact Nat.ne_of_lt (Nat.lt_succ_of_lt lt)
      have notin : top ∉ [h1.objs.size, l] := by
        rw [hz]; intro z
        rcases List.mem_cons.mp z with z | z
        · omega
        · have := List.mem_singleton.mp z; exact Nat.lt_irrefl l (by rw [← this] at lt ⊢; exact lt)
      have each : ∀ (i : Nat) (v : Value), its[i]? = some v → ∃ k t, ns[i]? = some k ∧ v = .int k t := fun i v hv => by
        have hi := (Array.getElem?_eq_some_iff.mp hv).1; rw [size] at hi
        obtain ⟨t, e⟩ := IntsAre.int_at are i v ((Array.getElem?_toList (xs := its)).trans hv)
        exact ⟨ns[i], t, List.getElem?_eq_getElem hi, by rw [e, List.getD_eq_getElem?_getD, List.getElem?_eq_getElem hi]; rfl⟩
      refine set_update_ints ((Walks.list calm3 _ l apart its).toS) top notin ns size few each (its.size - 0) 0 _ (by omega) (Nat.zero_le _) ⟨⟨_, Heap.get?_push_size _ rfl, rfl, rfl⟩, (lst1.push _)⟩ ⟨0, Nat.le_refl 0, setR_new_at (Heap.get?_push_of_some _ new)⟩ fun s2 c mv hc set2 => ?_
      have es : s2 = { s with heap := s2.heap, toks := s2.toks } := by
        obtain ⟨a1, a2, a3, a4, a5⟩ := s2
        obtain rfl : a2 = s.gens := mv.gens
        obtain rfl : a3 = s.drawn := mv.drawn
        obtain rfl : a5 = s.os := mv.os
        rfl
      rw [size] at hc
      show wpAny _ _ _ _ _ _
      refine wpAny_pure ?_
      show wpAny _ _ (ret Value.none) _ _ _
      refine wpAny_pure ⟨rfl, s2.heap, s2.toks, c, es, set2, hc, fun b o e => mv.heap b o (fun z => ?_) (Heap.get?_push_of_some _ (Heap.get?_push_of_some _ e))⟩
      have lb := Heap.lt_size e
      rcases List.mem_cons.mp z with z | z
      · exact Nat.lt_irrefl _ (by rw [z] at lb; exact lb)
      · rw [List.mem_singleton.mp z, hz] at lb; exact absurd lb (by show ¬ top + 1 < top; omega)
    · rcases r2 with e | fl2
      · exact hu
      cases fl2 with
      | ret y =>
        obtain ⟨rfl, h', tk, c, rfl, a1, a2, a3⟩ := hu
        repeat (any_goals (first | assumption | wp_step))
        exact fin _ _ _ a1 a2 a3
      | _ => exact hu.elim
  | _ => exact hr.elim
end
section
variable {X : Cx}
def rSetL (K : PySem.W.Frag) (w : World) : List V → Hp → VK → Prop := fun xs H Q => ∃ (l : Addr) (ns : List Int), xs = [.ref l] ∧ SqL K H l (ns.map V.int) ∧ ns.length ≤ 1000 ∧ ∀ p c, H p = none → c ≤ ns.length → Q (.ref p) (upd H p (SetO w p (fun j => decide (j ∈ ns)) c))
theorem k_setL (K : PySem.W.Frag) (h : X.K = K) (hc : X.calm = true) : CallR X (.type "set") (rSetL K X.w) := by
  subst h
  intro pins s σ H xs us Q I r h
  obtain ⟨l, ns, rfl, hl, hz, q⟩ := h
  rw [Vals.ref1 r]
  obtain ⟨its, rv, pl, _⟩ := I.list hl
  have are : IntsAre its.toArray.toList ns := ints_of_vals rv
  exact set_of_list ns (I.ok.hd hc) pl.isList are (by unfold scanBound; omega) fun h' tk c R le kp => ⟨.ref _, _, I.laid (t' := tk) kp (Nat.le_refl _) (setO_new R), rfl, q _ c (I.hok.fresh (Nat.le_refl _)) le⟩
/-- sorted(a set of whole numbers) -/
theorem k_sortedSet (h : X.calm = true) : CallR X (.builtin "sorted") (rSortedSet X.w) := cr_sortedSet h
/-- not in a range -/
theorem op_notin_rng : OpR X (compareOp .NotIn) (fun x y H Q => ∃ i a lo hi, x = V.int i ∧ y = V.ref a ∧ H a = some (.rng lo hi) ∧ Q (.bl (!decide (lo ≤ i ∧ i < hi))) H) := by
  intro pins s σ H x y v u Q I rx ry h
  obtain ⟨i, a, lo, hi, rfl, rfl, ha, q⟩ := h
  obtain ⟨k, rfl⟩ := rx
  obtain rfl : u = Value.ref a := ry
  obtain ⟨t1, t2, t3, ho⟩ := I.hok a _ ha
  show wpAny _ _ (do return Value.bool (!(← contains (Value.ref a) (Value.int i k)))) _ _ s
  refine wpAny_bind (wpAny_contains_slot (T := "range") ⟨_, ho, rfl⟩ F.slot_range_contains (call_meets F.slot_range_contains ⟨_, ho, rfl⟩ F.entry_range_contains (F.args_range_contains_2 _ _) (q_contains a lo hi i t1 t2 t3 k) ⟨ho, wpAny_truthy_bool (wpAny_pure ⟨.bl _, H, I, rfl, ?_⟩)⟩))
  rw [place1]; exact q
variable {a b c d : Expr} {ta tb tc td : TE} {pos : Pos} {o1 o2 o3 : CmpOp} {r1 r2 r3 : R2}
def tChain3 (r1 r2 r3 : R2) (ta tb tc td : TE) : TE := fun σ H Q => ta σ H fun x H1 => tb σ H1 fun y H2 => r1 x y H2 fun z H3 => ∃ k, z = .bl k ∧ (if k = true then tc σ H3 fun u H4 => r2 y u H4 fun z2 H5 => ∃ k2, z2 = .bl k2 ∧ (if k2 = true then td σ H5 fun v H6 => r3 u v H6 Q else Q (.bl false) H5) else Q (.bl false) H3)
theorem pe_chain3 (h1 : OpR X (compareOp o1) r1) (h2 : OpR X (compareOp o2) r2) (h3 : OpR X (compareOp o3) r3) (ha : PE X a ta) (hb : PE X b tb) (hc : PE X c tc) (hd : PE X d td)
    (hm : lastMarks [o1, o2, o3] [b, c, d] = false := by with_unfolding_all rfl) : PE X (.Compare a [o1, o2, o3] [b, c, d] pos) (tChain3 r1 r2 r3 ta tb tc td) := by
  refine ⟨fun pins s σ H Q I h => Compare_chain (thn (ha.run pins s σ H _ I h) fun v s1 ⟨x, H1, I1, rx, q1⟩ => chain_link (thn (hb.run pins s1 σ H1 _ I1 q1) fun u s2 ⟨y, H2, I2, ry, q2⟩ => thn (h1 pins s2 σ H2 x y v u _ I2 rx ry q2) fun _ s3 ⟨_, H3, I3, rz, k, e, q3⟩ => ?_)) hm⟩
  subst e; cases rz; refine wpAny_truthy_bool ?_
  cases k
  · exact ite_ff ⟨.bl false, H3, I3, rfl, q3⟩
  refine ite_tt (chain_link (thn (hc.run pins s3 σ H3 _ I3 q3) fun w' s4 ⟨z', H4, I4, r4, q4⟩ => thn (h2 pins s4 σ H4 y z' u w' _ I4 ry r4 q4) fun _ s5 ⟨_, H5, I5, rz, k2, e, q5⟩ => ?_))
  subst e; cases rz; refine wpAny_truthy_bool ?_
  cases k2
  · exact ite_ff ⟨.bl false, H5, I5, rfl, q5⟩
  exact ite_tt (chain_last (thn (hd.run pins s5 σ H5 _ I5 q5) fun v6 s6 ⟨z6, H6, I6, r6, q6⟩ => h3 pins s6 σ H6 z' z6 w' v6 Q I6 r4 r6 q6))
theorem pt_chain3 (h1 : OpR X (compareOp o1) r1) (h2 : OpR X (compareOp o2) r2) (h3 : OpR X (compareOp o3) r3) (ha : PE X a ta) (hb : PE X b tb) (hc : PE X c tc) (hd : PE X d td)
    (hm : lastMarks [o1, o2, o3] [b, c, d] = false := by with_unfolding_all rfl) : PT X (.Compare a [o1, o2, o3] [b, c, d] pos) (tTest (tChain3 r1 r2 r3 ta tb tc td)) := by
  refine ⟨fun pins s σ H Q I h => isTrue_chain (thn (ha.run pins s σ H _ I h) fun v s1 ⟨x, H1, I1, rx, q1⟩ => test_link (thn (hb.run pins s1 σ H1 _ I1 q1) fun u s2 ⟨y, H2, I2, ry, q2⟩ => thn (h1 pins s2 σ H2 x y v u _ I2 rx ry q2) fun _ s3 ⟨_, H3, I3, rz, k, e, q3⟩ => ?_)) hm⟩
  subst e; cases rz; refine wpAny_truthy_bool ?_
  cases k
  · obtain ⟨k', e', q'⟩ := q3; cases e'; exact ite_ff ⟨H3, I3, q'⟩
  refine ite_tt (test_link (thn (hc.run pins s3 σ H3 _ I3 q3) fun w' s4 ⟨z', H4, I4, r4, q4⟩ => thn (h2 pins s4 σ H4 y z' u w' _ I4 ry r4 q4) fun _ s5 ⟨_, H5, I5, rz, k2, e, q5⟩ => ?_))
  subst e; cases rz; refine wpAny_truthy_bool ?_
  cases k2
  · obtain ⟨k', e', q'⟩ := q5; cases e'; exact ite_ff ⟨H5, I5, q'⟩
  refine ite_tt (test_last (thn (hd.run pins s5 σ H5 _ I5 q5) fun v6 s6 ⟨z6, H6, I6, r6, q6⟩ => thn (h3 pins s6 σ H6 z' z6 w' v6 _ I6 r4 r6 q6) fun _ s7 ⟨_, H7, I7, rz, k3, e, q7⟩ => ?_))
  subst e; cases rz; exact wpAny_truthy_bool ⟨H7, I7, q7⟩
end
end My

namespace My
open PySem PySem.Spec PyProof.Rows L2 Pre
/-! ### texts of bits -/
def sgn (b : Bool) : Nat := if b = true then 49 else 48
def bS (bs : List Bool) : Str := ⟨(bs.map sgn).toArray⟩
theorem bS_len (bs : List Bool) : (bS bs).length = bs.length := by simp [bS, Str.length]
theorem bS_size (bs : List Bool) : (bS bs).cps.size = bs.length := by simp [bS]
theorem bS_app (a b : List Bool) : bS a ++ bS b = bS (a ++ b) := by
  show (⟨(bS a).cps ++ (bS b).cps⟩ : Str) = _
  unfold bS
  rw [List.map_append, List.append_toArray]
theorem sgn_inj {a b : Bool} (h : sgn a = sgn b) : a = b := by cases a <;> cases b <;> first | rfl | (simp [sgn] at h)
theorem bS_inj {a b : List Bool} (h : bS a = bS b) : a = b := by
  have e : a.map sgn = b.map sgn := by
    have := congrArg (fun z : Str => z.cps.toList) h
    simpa [bS] using this
  induction a generalizing b with
  | nil => cases b with
    | nil => rfl
    | cons _ _ => simp at e
  | cons x r ih => cases b with
    | nil => simp at e
    | cons y q =>
      rw [List.map_cons, List.map_cons, List.cons.injEq] at e
      have hr : bS r = bS q := by
        have z : r.map sgn = q.map sgn := e.2
        unfold bS
        rw [z]
      rw [sgn_inj e.1, ih hr e.2]
theorem bS_at {bs : List Bool} {i c : Nat} (h : (bS bs).cps[i]? = some c) : ∃ b, bs[i]? = some b ∧ (⟨#[c]⟩ : Str) = bS [b] := by
  have e : (bs.map sgn)[i]? = some c := by
    unfold bS at h
    rw [← h]
    simp
  rw [List.getElem?_map] at e
  obtain ⟨b, hb, rfl⟩ := Option.map_eq_some_iff.mp e
  exact ⟨b, hb, rfl⟩
theorem bS_atI {bs : List Bool} {i : Nat} {b : Bool} (h : bs[i]? = some b) : atI (bS bs).cps.toList (i : Int) = some (sgn b) := by
  refine atI_nat ?_
  unfold bS
  simp [h]
theorem bS_one (b : Bool) : (⟨#[sgn b]⟩ : Str) = bS [b] := rfl
theorem str_one : (("1" : String) : Str) = bS [true] := by decide +kernel
theorem str_nil : (("" : String) : Str) = bS [] := by decide +kernel
theorem str_zero : (("0" : String) : Str) = bS [false] := by decide +kernel
theorem dec_bS (a b : List Bool) : decide (V.str (bS a) = V.str (bS b)) = decide (a = b) := by
  by_cases h : a = b
  · subst h; simp
  · rw [decide_eq_false h, decide_eq_false]
    exact fun z => h (bS_inj (V.str.inj z))
theorem one_sign (b : Bool) : decide (V.str (bS [b]) = V.str (("1" : String) : Str)) = b := by
  rw [str_one, dec_bS]
  cases b <;> rfl
theorem reps_list (c : List Nat) : ∀ (k : Nat) (acc : List Nat), (List.replicate k c.toArray).foldl (· ++ ·) acc.toArray = (acc ++ (List.replicate k c).flatten).toArray
  | 0, acc => by simp
  | k + 1, acc => by
    rw [List.replicate_succ, List.foldl_cons, List.append_toArray, reps_list c k, List.replicate_succ, List.flatten_cons, List.append_assoc]
theorem bS_mul (k : Nat) : Txt.mul (("0" : String) : Str) (k : Int) = bS (List.replicate k false) := by
  rw [str_zero]
  unfold Txt.mul
  by_cases h0 : (k : Int) < 1
  · rw [if_pos h0, show k = 0 by omega]
    rfl
  · rw [if_neg h0]
    by_cases h1 : k = 1
    · subst h1
      rfl
    · rw [if_neg (by
        rw [Bool.or_eq_true, beq_iff_eq, beq_iff_eq, bS_len]
        simp
        omega), Int.toNat_natCast]
      have := reps_list [48] k []
      unfold bS
      rw [List.map_replicate]
      show (⟨(List.replicate k ([48] : List Nat).toArray).foldl (· ++ ·) ([] : List Nat).toArray⟩ : Str) = _
      rw [this, List.nil_append]
      have e : (List.replicate k [48]).flatten = List.replicate k 48 := by
        clear this h0 h1
        induction k with
        | zero => rfl
        | succ k ih => rw [List.replicate_succ, List.flatten_cons, ih, List.replicate_succ]; rfl
      rw [e]
      rfl
theorem join_bits (bs : List Bool) : Txt.join (("" : String) : Str) (bs.map fun b => bS [b]) = bS bs := by
  rw [TL.join_eq]
  have e0 : TL.tl ((("" : String) : Str)) = [] := by rw [str_nil]; rfl
  have key : ∀ bs : List Bool, TL.joinL [] ((bs.map fun b => bS [b]).map TL.tl) = bs.map sgn := by
    intro bs
    induction bs with
    | nil => rfl
    | cons b r ih =>
      cases r with
      | nil => rfl
      | cons c q =>
        show TL.tl (bS [b]) ++ ([] ++ TL.joinL [] (((c :: q).map fun b => bS [b]).map TL.tl)) = _
        rw [ih]
        rfl
  have h := TL.tl_join (("" : String) : Str) (bs.map fun b => bS [b])
  rw [e0, key] at h
  unfold bS
  rw [← h]
  exact (TL.mk_tl _).symm
section
variable {X : Cx}
def rRepS : R2 := fun x y H Q => ∃ (z : Str) (n : Nat), x = .str z ∧ y = .int n ∧ z.length ≤ 100 ∧ n ≤ 10000 ∧ Q (.str (Txt.mul z n)) H
theorem op_rep_str : OpR X (binaryOp .Mult) rRepS := by
  intro pins s σ H x y v u Q I rx ry h
  obtain ⟨z, n, rfl, rfl, hz, hn, q⟩ := h
  obtain ⟨t, rfl⟩ := rx
  obtain ⟨t', rfl⟩ := ry
  exact PySem.SB.mul (mulOk_of 100 10000 hz (by omega) (by omega) (by decide) (by decide)) fun t' k => ⟨.str (Txt.mul z n), H, I.tok _, ⟨_, rfl⟩, q⟩
end
end My

namespace My
/-! ### folds in bits, read one by one -/
def vF (a : Nat) (bs : List Bool) : Nat := bs.foldl (fun n b => 2 * n + b.toNat) a
theorem vF_nil (a : Nat) : vF a [] = a := rfl
theorem vF_cons (a : Nat) (b : Bool) (r : List Bool) : vF a (b :: r) = vF (2 * a + b.toNat) r := rfl
theorem vF_app (a : Nat) (x y : List Bool) : vF a (x ++ y) = vF (vF a x) y := by unfold vF; rw [List.foldl_append]
theorem vF_eq (a : Nat) (bs : List Bool) : vF a bs = a * 2 ^ bs.length + vF 0 bs := by
  induction bs generalizing a with
  | nil => simp [vF]
  | cons b r ih =>
    rw [vF_cons, ih, vF_cons, ih (2 * 0 + b.toNat), List.length_cons, Nat.pow_succ, Nat.add_mul]
    have : 2 * a * 2 ^ r.length = a * (2 ^ r.length * 2) := by rw [Nat.mul_comm 2 a, Nat.mul_assoc, Nat.mul_comm 2]
    simp only [Nat.mul_zero, Nat.zero_add]
    omega
theorem vF_lt (bs : List Bool) : vF 0 bs < 2 ^ bs.length := by
  induction bs with
  | nil => simp [vF]
  | cons b r ih =>
    rw [vF_cons, vF_eq, List.length_cons, Nat.pow_succ]
    cases b <;> simp <;> omega
theorem vF_mono {a b : Nat} (h : a ≤ b) (bs : List Bool) : vF a bs ≤ vF b bs := by
  rw [vF_eq a, vF_eq b]
  have := Nat.mul_le_mul_right (2 ^ bs.length) h
  omega
theorem vF_ge (a : Nat) (bs : List Bool) : a ≤ vF a bs := by
  rw [vF_eq]
  have : a * 1 ≤ a * 2 ^ bs.length := Nat.mul_le_mul_left a (Nat.one_le_two_pow)
  omega
theorem vF_inj : ∀ {x y : List Bool}, x.length = y.length → vF 0 x = vF 0 y → x = y
  | [], [], _, _ => rfl
  | [], _ :: _, h, _ => nomatch h
  | _ :: _, [], h, _ => nomatch h
  | a :: x, b :: y, h, e => by
    have hl : x.length = y.length := Nat.succ.inj h
    rw [vF_cons, vF_cons, vF_eq (2 * 0 + a.toNat), vF_eq (2 * 0 + b.toNat), hl] at e
    have h1 := vF_lt x
    have h2 := vF_lt y
    rw [hl] at h1
    cases a <;> cases b <;> simp at e
    · rw [vF_inj hl e]
    · omega
    · omega
    · rw [vF_inj hl e]
/-- the low bits of a number, the high ones first -/
def bB (n : Nat) : Nat → List Bool
  | 0 => []
  | k + 1 => (n / 2 ^ k % 2 == 1) :: bB n k
theorem bB_len (n : Nat) : ∀ k, (bB n k).length = k
  | 0 => rfl
  | k + 1 => by unfold bB; rw [List.length_cons, bB_len n k]
theorem bB_val (n : Nat) : ∀ k, vF 0 (bB n k) = n % 2 ^ k
  | 0 => by simp [bB, vF, Nat.mod_one]
  | k + 1 => by
    unfold bB
    rw [vF_cons, vF_eq, bB_val n k, bB_len, Nat.pow_succ, Nat.mod_mul]
    rcases Nat.mod_two_eq_zero_or_one (n / 2 ^ k) with h | h <;> rw [h] <;> simp <;> omega
theorem bB_of (m : Nat) (bs : List Bool) : bB (m * 2 ^ bs.length + vF 0 bs) bs.length = bs := by
  refine vF_inj (bB_len _ _) ?_
  rw [bB_val, Nat.mul_add_mod_of_lt' (vF_lt bs)]
where
  Nat.mul_add_mod_of_lt' {a b c : Nat} (h : c < b) : (a * b + c) % b = c := by
    rw [Nat.add_comm, Nat.add_mul_mod_self_right, Nat.mod_eq_of_lt h]
def ones : List Bool → Nat
  | true :: r => ones r + 1
  | _ => 0
theorem ones_le : ∀ bs : List Bool, ones bs ≤ bs.length
  | [] => Nat.le_refl _
  | true :: r => by unfold ones; rw [List.length_cons]; have := ones_le r; omega
  | false :: r => by simp [ones]
theorem ones_at : ∀ (bs : List Bool) (i : Nat), i < ones bs → bs[i]? = some true
  | [], i, h => by simp [ones] at h
  | false :: r, i, h => by simp [ones] at h
  | true :: r, 0, _ => rfl
  | true :: r, i + 1, h => by
    rw [List.getElem?_cons_succ]
    exact ones_at r i (by unfold ones at h; omega)
theorem ones_stop : ∀ bs : List Bool, bs[ones bs]? ≠ some true
  | [] => by simp
  | false :: r => by simp [ones]
  | true :: r => by
    unfold ones
    rw [List.getElem?_cons_succ]
    exact ones_stop r
theorem ones_uniq {bs : List Bool} {k : Nat} (h1 : ∀ i, i < k → bs[i]? = some true) (h2 : bs[k]? ≠ some true) : ones bs = k := by
  rcases Nat.lt_trichotomy (ones bs) k with h | h | h
  · exact absurd (h1 _ h) (ones_stop bs)
  · exact h
  · exact absurd (ones_at bs k h) h2
theorem ones_split : ∀ (bs : List Bool), ones bs < bs.length → bs = List.replicate (ones bs) true ++ false :: bs.drop (ones bs + 1)
  | [], h => by simp at h
  | false :: r, _ => by simp [ones]
  | true :: r, h => by
    unfold ones at h ⊢
    rw [List.replicate_succ, List.drop_succ_cons, List.cons_append]
    rw [← ones_split r (by rw [List.length_cons] at h; omega)]
theorem ones_of (k : Nat) (r : List Bool) : ones (List.replicate k true ++ false :: r) = k := by
  induction k with
  | zero => rfl
  | succ k ih => rw [List.replicate_succ, List.cons_append]; unfold ones; rw [ih]
/-- the first fold of some bits, and how many bits it has -/
def foldR (w : Nat) (bs : List Bool) : Option (Nat × Nat) :=
  if ones bs + 1 + w ≤ bs.length then some (vF (ones bs) ((bs.drop (ones bs + 1)).take w), ones bs + 1 + w) else none
def rd (w : Nat) : Nat → List Bool → Nat → List (Nat × Nat)
  | 0, _, _ => []
  | k + 1, bs, p => match foldR w bs with
    | none => []
    | some x => (x.1, p + x.2) :: rd w k (bs.drop x.2) (p + x.2)
theorem rd_none {w k : Nat} {bs : List Bool} {p : Nat} (h : foldR w bs = none) : rd w (k + 1) bs p = [] := by
  show (match foldR w bs with
    | none => []
    | some x => (x.1, p + x.2) :: rd w k (bs.drop x.2) (p + x.2)) = _
  rw [h]
theorem rd_some {w k : Nat} {bs : List Bool} {p : Nat} {x : Nat × Nat} (h : foldR w bs = some x) : rd w (k + 1) bs p = (x.1, p + x.2) :: rd w k (bs.drop x.2) (p + x.2) := by
  show (match foldR w bs with
    | none => []
    | some x => (x.1, p + x.2) :: rd w k (bs.drop x.2) (p + x.2)) = _
  rw [h]
/-- all folds of some bits, each with the place behind it -/
def rdT (w : Nat) (bs : List Bool) : List (Nat × Nat) := rd w bs.length bs 0
theorem foldR_le {w : Nat} {bs : List Bool} {x : Nat × Nat} (h : foldR w bs = some x) : 0 < x.2 ∧ x.2 ≤ bs.length := by
  unfold foldR at h
  split at h
  · cases h; exact ⟨by show 0 < ones bs + 1 + w; omega, by assumption⟩
  · cases h
theorem rd_at (w : Nat) : ∀ (k : Nat) (bs : List Bool) (p0 : Nat), bs.length ≤ k → ∀ (j p : Nat), (p0 :: (rd w k bs p0).map (·.2))[j]? = some p →
    p0 ≤ p ∧ p ≤ p0 + bs.length ∧ (foldR w (bs.drop (p - p0))).map (fun x => (x.1, p + x.2)) = (rd w k bs p0)[j]?
  | 0, bs, p0, h, j, p, e => by
    have hb : bs = [] := List.eq_nil_of_length_eq_zero (by omega)
    subst hb
    cases j with
    | zero =>
      cases e
      refine ⟨Nat.le_refl _, Nat.le_refl _, ?_⟩
      have : foldR w ([] : List Bool) = none := by
        unfold foldR
        rw [if_neg (by simp [ones])]
      simp [this, rd]
    | succ j => simp [rd] at e
  | k + 1, bs, p0, h, j, p, e => by
    cases hf : foldR w bs with
    | none =>
      have e1 : rd w (k + 1) bs p0 = [] := rd_none hf
      rw [e1] at e ⊢
      cases j with
      | zero =>
        cases e
        exact ⟨Nat.le_refl _, by omega, by simp [hf]⟩
      | succ j => simp at e
    | some x =>
      obtain ⟨l1, l2⟩ := foldR_le hf
      have e1 : rd w (k + 1) bs p0 = (x.1, p0 + x.2) :: rd w k (bs.drop x.2) (p0 + x.2) := rd_some hf
      rw [e1] at e ⊢
      cases j with
      | zero =>
        cases e
        exact ⟨Nat.le_refl _, by omega, by simp [hf]⟩
      | succ j =>
        rw [List.getElem?_cons_succ, List.map_cons] at e
        obtain ⟨q1, q2, q3⟩ := rd_at w k (bs.drop x.2) (p0 + x.2) (by rw [List.length_drop]; omega) j p e
        rw [List.length_drop] at q2
        refine ⟨by omega, by omega, ?_⟩
        rw [List.getElem?_cons_succ, ← q3, List.drop_drop]
        have : x.2 + (p - (p0 + x.2)) = p - p0 := by omega
        rw [this]
/-- the place at which the fold number j begins -/
def plc (w : Nat) (bs : List Bool) (j : Nat) : Nat := ((0 :: (rdT w bs).map (·.2))[j]?).getD 0
theorem plc_get {w : Nat} {bs : List Bool} {j : Nat} (h : j ≤ (rdT w bs).length) : (0 :: (rdT w bs).map (·.2))[j]? = some (plc w bs j) := by
  unfold plc
  rw [List.getElem?_eq_getElem (by simp; omega), Option.getD_some]
theorem plc_zero (w : Nat) (bs : List Bool) : plc w bs 0 = 0 := rfl
theorem plc_step {w : Nat} {bs : List Bool} {j : Nat} (h : j ≤ (rdT w bs).length) : plc w bs j ≤ bs.length ∧ (foldR w (bs.drop (plc w bs j))).map (fun x => (x.1, plc w bs j + x.2)) = (rdT w bs)[j]? := by
  obtain ⟨q1, q2, q3⟩ := rd_at w bs.length bs 0 (Nat.le_refl _) j _ (plc_get h)
  rw [Nat.sub_zero] at q3
  exact ⟨by omega, q3⟩
theorem plc_next {w : Nat} {bs : List Bool} {j : Nat} {x : Nat × Nat} (h : (rdT w bs)[j]? = some x) : plc w bs (j + 1) = x.2 := by
  unfold plc
  rw [List.getElem?_cons_succ, List.getElem?_map, h]
  rfl
theorem rd_len (w : Nat) : ∀ (k : Nat) (bs : List Bool) (p : Nat), (rd w k bs p).length ≤ bs.length
  | 0, _, _ => by simp [rd]
  | k + 1, bs, p => by
    cases hf : foldR w bs with
    | none => rw [rd_none hf]; simp
    | some x =>
      rw [rd_some hf]
      obtain ⟨l1, l2⟩ := foldR_le hf
      have := rd_len w k (bs.drop x.2) (p + x.2)
      rw [List.length_drop] at this
      simp only [List.length_cons]
      omega
theorem rdT_len (w : Nat) (bs : List Bool) : (rdT w bs).length ≤ bs.length := rd_len w _ _ _
/-- the bits of one fold -/
def tx1 (w f : Nat) : List Bool := List.replicate (f / 2 ^ w) true ++ false :: bB f w
def txF (w : Nat) (fs : List Nat) : List Bool := fs.flatMap (tx1 w)
theorem tx1_len (w f : Nat) : (tx1 w f).length = f / 2 ^ w + 1 + w := by
  unfold tx1
  rw [List.length_append, List.length_replicate, List.length_cons, bB_len]
  omega
theorem foldR_tx1 (w f : Nat) (r : List Bool) : foldR w (tx1 w f ++ r) = some (f, (tx1 w f).length) := by
  have e : tx1 w f ++ r = List.replicate (f / 2 ^ w) true ++ false :: (bB f w ++ r) := by
    unfold tx1
    rw [List.append_assoc, List.cons_append]
  unfold foldR
  rw [tx1_len, e, ones_of]
  rw [if_pos (by rw [List.length_append, List.length_replicate, List.length_cons, List.length_append, bB_len]; omega)]
  have e2 : (List.replicate (f / 2 ^ w) true ++ false :: (bB f w ++ r)).drop (f / 2 ^ w + 1) = bB f w ++ r := by
    rw [List.drop_append_of_le_length' , List.length_replicate]
    · have : f / 2 ^ w + 1 - f / 2 ^ w = 1 := by omega
      rw [this]
      simp
  have e3 : (bB f w ++ r).take w = bB f w := by
    rw [List.take_append_of_le_length (by rw [bB_len]; exact Nat.le_refl _), List.take_of_length_le (by rw [bB_len]; exact Nat.le_refl _)]
  rw [e2, e3, vF_eq, bB_val, bB_len]
  have := Nat.div_add_mod f (2 ^ w)
  rw [Nat.mul_comm, ] at this
  rw [this]
where
  List.drop_append_of_le_length' {n : Nat} {a b : List Bool} : (a ++ b).drop n = a.drop n ++ b.drop (n - a.length) := List.drop_append
/-- written and read -/
theorem rd_tx (w : Nat) : ∀ (fs : List Nat) (more : List Bool) (k p : Nat), (txF w fs ++ more).length ≤ k →
    ((rd w k (txF w fs ++ more) p).take fs.length).map (·.1) = fs ∧ (p :: (rd w k (txF w fs ++ more) p).map (·.2))[fs.length]? = some (p + (txF w fs).length)
  | [], more, k, p, _ => by simp [txF]
  | f :: fs, more, k, p, h => by
    have e : txF w (f :: fs) ++ more = tx1 w f ++ (txF w fs ++ more) := by
      show (tx1 w f ++ txF w fs) ++ more = _
      rw [List.append_assoc]
    have el : (txF w (f :: fs)).length = (tx1 w f).length + (txF w fs).length := by
      show (tx1 w f ++ txF w fs).length = _
      rw [List.length_append]
    rw [e] at h ⊢
    have hp : 1 ≤ (tx1 w f).length := by
      rw [tx1_len]
      exact Nat.le_trans (Nat.le_add_left 1 _) (Nat.le_add_right _ _)
    rw [List.length_append] at h
    cases k with
    | zero => omega
    | succ k =>
      rw [rd_some (foldR_tx1 w f _)]
      have e2 : (tx1 w f ++ (txF w fs ++ more)).drop (tx1 w f).length = txF w fs ++ more := by simp
      rw [e2]
      obtain ⟨q1, q2⟩ := rd_tx w fs more k (p + (tx1 w f).length) (by omega)
      refine ⟨?_, ?_⟩
      · rw [List.length_cons, List.take_succ_cons, List.map_cons, q1]
      · rw [List.length_cons, List.getElem?_cons_succ, List.map_cons, q2, el]
        congr 1
        omega
theorem rdT_tx (w : Nat) (fs : List Nat) (more : List Bool) : ((rdT w (txF w fs ++ more)).take fs.length).map (·.1) = fs ∧ fs.length ≤ (rdT w (txF w fs ++ more)).length ∧ plc w (txF w fs ++ more) fs.length = (txF w fs).length := by
  obtain ⟨q1, q2⟩ := rd_tx w fs more _ 0 (Nat.le_refl _)
  refine ⟨q1, ?_, ?_⟩
  · have := congrArg List.length q1
    rw [List.length_map, List.length_take] at this
    have : min fs.length (rdT w (txF w fs ++ more)).length = fs.length := this
    omega
  · unfold plc
    show ((0 :: (rd w _ (txF w fs ++ more) 0).map (·.2))[fs.length]?).getD 0 = _
    rw [q2, Option.getD_some, Nat.zero_add]
/-! ### read whole -/
def whole (w : Nat) (bs : List Bool) : Bool := plc w bs (rdT w bs).length == bs.length
theorem lastE {w : Nat} {bs : List Bool} : (0 :: (rdT w bs).map (·.2)).getLast (by simp) = plc w bs (rdT w bs).length := by
  unfold plc
  rw [List.getLast_eq_getElem]
  simp
def goS (w s : Int) (b : Bool) : Int := if 0 < s then s - 1 else if b = true then -1 else w
def runS (w s : Int) (bs : List Bool) : Int := bs.foldl (goS w) s
theorem run_cons (w s : Int) (b : Bool) (r : List Bool) : runS w s (b :: r) = runS w (goS w s b) r := rfl
theorem run_app (w s : Int) (x y : List Bool) : runS w s (x ++ y) = runS w (runS w s x) y := by unfold runS; rw [List.foldl_append]
theorem run_ones (w : Int) (k : Nat) : runS w 0 (List.replicate k true) = if k = 0 then 0 else -1 := by
  cases k with
  | zero => rfl
  | succ k =>
    rw [if_neg (by omega), List.replicate_succ, run_cons]
    show runS w (-1) _ = -1
    induction k with
    | zero => rfl
    | succ k ih => rw [List.replicate_succ, run_cons]; exact ih
theorem run_down (w : Nat) : ∀ (n : Nat) (bs : List Bool), runS w n bs = if bs.length < n then ((n - bs.length : Nat) : Int) else runS w 0 (bs.drop n)
  | 0, bs => by rw [if_neg (by omega)]; rfl
  | n + 1, [] => by rw [if_pos (by simp)]; rfl
  | n + 1, b :: r => by
    rw [run_cons]
    have e : goS w ((n + 1 : Nat) : Int) b = (n : Nat) := by
      unfold goS
      rw [if_pos (by omega)]
      omega
    rw [e, run_down w n r, List.length_cons, List.drop_succ_cons]
    by_cases h : r.length < n
    · rw [if_pos h, if_pos (by omega)]
      congr 1
      omega
    · rw [if_neg h, if_neg (by omega)]
def lastP (p : Nat) (l : List (Nat × Nat)) : Nat := (p :: l.map (·.2)).getLast (by simp)
theorem lastP_cons (p : Nat) (x : Nat × Nat) (l : List (Nat × Nat)) : lastP p (x :: l) = lastP x.2 l := by
  unfold lastP
  simp
theorem whole_run (w : Nat) : ∀ (k : Nat) (bs : List Bool) (p : Nat), bs.length ≤ k → (lastP p (rd w k bs p) = p + bs.length ↔ runS w 0 bs = 0)
  | 0, bs, p, h => by
    have hb : bs = [] := List.eq_nil_of_length_eq_zero (by omega)
    subst hb
    simp [rd, lastP, runS]
  | k + 1, bs, p, h => by
    have ho := ones_le bs
    by_cases h0 : ones bs < bs.length
    · have sp := ones_split bs h0
      have hrun : runS w 0 bs = runS w w (bs.drop (ones bs + 1)) := by
        conv => lhs; rw [sp]
        rw [run_app, run_ones, run_cons]
        have : goS w (if ones bs = 0 then 0 else -1) false = w := by
          unfold goS
          rw [if_neg (by split <;> omega), if_neg (by simp)]
        rw [this]
      rw [hrun, run_down, List.length_drop]
      by_cases h1 : ones bs + 1 + w ≤ bs.length
      · have hf : foldR w bs = some (vF (ones bs) ((bs.drop (ones bs + 1)).take w), ones bs + 1 + w) := by
          unfold foldR
          rw [if_pos h1]
        rw [if_neg (by omega), rd_some hf, lastP_cons, List.drop_drop]
        have ih := whole_run w k (bs.drop (ones bs + 1 + w)) (p + (ones bs + 1 + w)) (by rw [List.length_drop]; omega)
        rw [List.length_drop] at ih
        show lastP (p + (ones bs + 1 + w)) (rd w k (bs.drop (ones bs + 1 + w)) (p + (ones bs + 1 + w))) = _ ↔ _
        rw [← ih]
        constructor <;> intro e <;> omega
      · have hf : foldR w bs = none := by
          unfold foldR
          rw [if_neg h1]
        rw [if_pos (by omega), rd_none hf]
        show p = p + bs.length ↔ _
        constructor <;> intro e <;> omega
    · have e1 : ones bs = bs.length := by omega
      have hf : foldR w bs = none := by
        unfold foldR
        rw [if_neg (by omega)]
      rw [rd_none hf]
      have hr : bs = List.replicate (ones bs) true := by
        refine List.eq_replicate_iff.mpr ⟨e1.symm, fun b hb => ?_⟩
        obtain ⟨i, hi, rfl⟩ := List.getElem_of_mem hb
        have := ones_at bs i (by omega)
        rw [List.getElem?_eq_getElem hi] at this
        exact Option.some.inj this
      have hrun : runS w 0 bs = if ones bs = 0 then 0 else -1 := by
        conv => lhs; rw [hr]
        exact run_ones _ _
      rw [hrun]
      show p = p + bs.length ↔ _
      by_cases h2 : ones bs = 0
      · rw [if_pos h2]; constructor <;> intro e <;> omega
      · rw [if_neg h2]; constructor <;> intro e <;> omega
theorem whole_iff (w : Nat) (bs : List Bool) : whole w bs = true ↔ runS w 0 bs = 0 := by
  rw [← whole_run w bs.length bs 0 (Nat.le_refl _), Nat.zero_add]
  unfold whole
  rw [beq_iff_eq, ← lastE]
  exact Iff.rfl
theorem tx_rd (w : Nat) : ∀ (k : Nat) (bs : List Bool) (p : Nat), bs.length ≤ k → lastP p (rd w k bs p) = p + bs.length → txF w ((rd w k bs p).map (·.1)) = bs
  | 0, bs, p, h, _ => by
    have hb : bs = [] := List.eq_nil_of_length_eq_zero (by omega)
    subst hb
    rfl
  | k + 1, bs, p, h, e => by
    cases hf : foldR w bs with
    | none =>
      rw [rd_none hf] at e ⊢
      have e' : p = p + bs.length := e
      have hb : bs = [] := List.eq_nil_of_length_eq_zero (by omega)
      subst hb
      rfl
    | some x =>
      obtain ⟨l1, l2⟩ := foldR_le hf
      rw [rd_some hf, lastP_cons] at e
      rw [rd_some hf]
      have ih := tx_rd w k (bs.drop x.2) (p + x.2) (by rw [List.length_drop]; omega) (by rw [List.length_drop]; simp only at e; omega)
      show tx1 w x.1 ++ txF w ((rd w k (bs.drop x.2) (p + x.2)).map (·.1)) = bs
      rw [ih]
      unfold foldR at hf
      split at hf
      · rename_i h1
        cases hf
        have hl : ((bs.drop (ones bs + 1)).take w).length = w := by rw [List.length_take, List.length_drop]; omega
        have lo := vF_lt ((bs.drop (ones bs + 1)).take w)
        rw [hl] at lo
        show tx1 w (vF (ones bs) ((bs.drop (ones bs + 1)).take w)) ++ bs.drop (ones bs + 1 + w) = bs
        unfold tx1
        have e1 : vF (ones bs) ((bs.drop (ones bs + 1)).take w) = ones bs * 2 ^ w + vF 0 ((bs.drop (ones bs + 1)).take w) := by rw [vF_eq, hl]
        have e2 : vF (ones bs) ((bs.drop (ones bs + 1)).take w) / 2 ^ w = ones bs := by
          rw [e1, Nat.add_comm, Nat.add_mul_div_right _ _ (Nat.two_pow_pos w), Nat.div_eq_of_lt lo, Nat.zero_add]
        have e3 : bB (vF (ones bs) ((bs.drop (ones bs + 1)).take w)) w = (bs.drop (ones bs + 1)).take w := by
          rw [e1]
          conv => lhs; arg 2; rw [← hl]
          rw [show ones bs * 2 ^ w = ones bs * 2 ^ ((bs.drop (ones bs + 1)).take w).length by rw [hl]]
          exact bB_of _ _
        have e4 : bs.drop (ones bs + 1 + w) = (bs.drop (ones bs + 1)).drop w := List.drop_drop.symm
        rw [e2, e3, e4, List.append_assoc, List.cons_append, List.take_append_drop]
        exact (ones_split bs (by omega)).symm
      · cases hf
theorem tx_whole {w : Nat} {bs : List Bool} (h : whole w bs = true) : txF w ((rdT w bs).map (·.1)) = bs := by
  refine tx_rd w _ bs 0 (Nat.le_refl _) ?_
  rw [Nat.zero_add]
  unfold whole at h
  rw [beq_iff_eq, ← lastE] at h
  exact h
end My

namespace My
open PySem PySem.Spec PyProof.Rows L2 Pre
/-! ### a dict display of one tuple; sets in comprehensions; texts of bits -/
def tDisp1T (tk tv : TE) : TE := fun σ H Q => ∀ p, H p = none → tk σ (L2.upd H p (.dT [])) fun x H1 => tv σ H1 fun y H2 => H2 p = some (.dT []) ∧ ∃ (b : Addr) (k : List Key), x = .ref b ∧ H2 b = some (.tup (k.map kV)) ∧ Q (.ref p) (L2.upd H2 p (.dT [(k, y)]))
section
variable {X : Cx} {k v : Expr} {tk tv : TE} {pos : Pos}
theorem pe_disp1T (hu : X.A.units + 1 < cLine) (hk : PE X k tk) (hv : PE X v tv) : PE X (.Dict [some k] [v] pos) (tDisp1T tk tv) := by
  refine ⟨fun pins s σ H Q I q => ?_⟩
  have hn := I.hok.fresh (Nat.le_refl s.heap.objs.size)
  have I1 := I.laid (a := s.heap.objs.size) (o := .dT []) (h' := s.heap.push { cls := .type "dict", data := .dict #[] }) (t' := s.toks) (fun _ _ q => Heap.get?_push_of_some _ q) (Nat.le_refl _) (dt_empty s.heap I.big)
  have hl := pairTrees_length [some k] [v] X.env pos rfl rfl
  rw [arm_eval_Dict, zip_pairTrees [some k] [v] X.env pos rfl rfl, dictDisplay_pairs _ (fun e => by rw [e] at hl; cases hl) (by rw [hl]; show 1 < 17; decide)]
  refine wpAny_bind (wpAny_standAt (wpAny_bind (wpAny_subDictH (knd := tupleKind (mixKind X.prog X.w)) (show X.A.units < cLine by omega) (by rw [hl]; show 1 ≤ 15; decide) ?_)))
  refine pairTrees_cons_walk (thn (hk.run pins _ σ _ _ I1 (q _ hn)) fun u s1 ⟨x, H1, I2, rx, q2⟩ => thn (hv.run pins s1 σ H1 _ I2 q2) fun w s2 ⟨y, H2, I3, ry, e, b, kk, ex, eb, q3⟩ => pairTrees_nil_walk ?_)
  subst ex
  cases (show u = Value.ref b from rx)
  obtain ⟨z, hd, xs, rel, dd⟩ := dt_of I3.hok e
  cases rel
  refine ⟨[(kk, b, w)], ⟨rfl, rfl, key_of I3.hok eb, trivial⟩, dd, fun h' tk' dd' hs => wpAny_pure ⟨.ref s.heap.objs.size, _, ?_, rfl, q3⟩⟩
  obtain ⟨qo, es, ep, hq, h2, h3, h4, _, h5⟩ := dd'
  have hne : b ≠ s.heap.objs.size := ne_of eb e (fun z => nomatch z)
  refine d_write I3 (by rw [e]; exact True.intro) hs ⟨qo, hq⟩ ⟨by show 1 ≤ sizeLine; decide, hd, _, .cons ⟨rfl, ?_, ry⟩ .nil, qo, es, ep, hq, h2, h3, h4, h5⟩
  show (L2.upd H2 s.heap.objs.size _) b = _
  rw [upd_ne hne]
  exact eb
theorem k_sIn (w : World) (h : X.w = w) : OpR X (compareOp .In) (rSIn w) := by subst h; exact or_sin
theorem k_setLW (K : PySem.W.Frag) (w : World) (h : X.K = K) (hw : X.w = w) (hc : X.calm = true) : CallR X (.type "set") (rSetL K w) := by subst hw; exact k_setL K h hc
end
/-! ### texts -/
theorem bS_tl (bs : List Bool) : (bS bs).cps.toList = bs.map sgn := by unfold bS; simp
theorem find_at {bs : List Bool} {i : Nat} : StrLaws.At (bS bs) (bS [false]) (bS bs).length i ↔ bs[i]? = some false := by
  have h := StrLaws.subAt_one (bS bs) 48 i
  show (i + (⟨#[48]⟩ : Str).length ≤ (bS bs).length ∧ Builtin.Str.subAt (bS bs) ⟨#[48]⟩ i = true) ↔ _
  rw [h, bS_tl, List.getElem?_map]
  constructor
  · intro e
    obtain ⟨b, hb, eb⟩ := Option.map_eq_some_iff.mp e
    cases b with
    | false => exact hb
    | true => simp [sgn] at eb
  · intro e
    rw [e]
    rfl
theorem range'_splitN {s n a : Nat} {pre post : List Nat} (h : List.range' s n = pre ++ a :: post) : a < s + n ∧ s ≤ a ∧ ∀ k, s ≤ k → k < a → k ∈ pre := by
  have hm : a ∈ List.range' s n := by rw [h]; simp
  have hr := List.mem_range'_1.mp hm
  refine ⟨hr.2, hr.1, fun k h1 h2 => ?_⟩
  have hk : k ∈ List.range' s n := List.mem_range'_1.mpr ⟨h1, by omega⟩
  rw [h] at hk
  rcases List.mem_append.mp hk with hk | hk
  · exact hk
  · rcases List.mem_cons.mp hk with hk | hk
    · omega
    · have pw : (List.range' s n).Pairwise (· < ·) := List.pairwise_lt_range'
      rw [h] at pw
      have := (List.pairwise_cons.mp (List.pairwise_append.mp pw).2.1).1 k hk
      omega
/-- the first 0 from a place on -/
theorem find_zero {bs : List Bool} {p : Nat} (hp : p ≤ bs.length) : Txt.find3 (bS bs) (bS [false]) (p : Int) = if p + ones (bs.drop p) < bs.length then ((p + ones (bs.drop p) : Nat) : Int) else -1 := by
  unfold Txt.find3
  have ef : fromIndex (bS bs).length (p : Int) = p := by
    unfold fromIndex
    rw [if_neg (by omega)]
    omega
  rw [ef, StrLaws.occ_eq]
  have key := StrLaws.occ_first (bS bs) (bS [false]) (bS bs).length 1 (Nat.le_refl 1) (List.range' p ((bS bs).length + 1 - p)) p (fun i hi => (List.mem_range'_1.mp hi).1)
  generalize (forIn (List.range' p ((bS bs).length + 1 - p)) ((#[] : Array Nat), p) (StrLaws.occBody (bS bs) (bS [false]) (bS bs).length 1)).run.fst = arr at key
  have hl : (bS bs).length = bs.length := bS_len bs
  rcases key with ⟨h0, hn⟩ | ⟨pre, a, post, e, h0, ha, hn⟩
  · rw [if_neg, h0]
    intro hlt
    have h1 := ones_stop (bs.drop p)
    have h2 : (bs.drop p)[ones (bs.drop p)]? = some false := by
      have h3 : ones (bs.drop p) < (bs.drop p).length := by rw [List.length_drop]; omega
      rw [List.getElem?_eq_getElem h3] at h1 ⊢
      cases h4 : (bs.drop p)[ones (bs.drop p)] with
      | true => rw [h4] at h1; exact absurd rfl h1
      | false => rfl
    rw [List.getElem?_drop] at h2
    exact hn _ (List.mem_range'_1.mpr ⟨by omega, by rw [hl]; omega⟩) (find_at.mpr h2)
  · obtain ⟨s1, s2, s3⟩ := range'_splitN e
    have ha' := find_at.mp ha
    have eo : ones (bs.drop p) = a - p := by
      refine ones_uniq (fun i hi => ?_) ?_
      · rw [List.getElem?_drop]
        have hx := hn (p + i) (s3 _ (by omega) (by omega))
        rw [find_at] at hx
        have hlt : p + i < bs.length := by
          have := (List.getElem?_eq_some_iff.mp ha').1
          omega
        rw [List.getElem?_eq_getElem hlt] at hx ⊢
        cases hb : bs[p + i] with
        | true => rfl
        | false => rw [hb] at hx; exact absurd rfl hx
      · rw [List.getElem?_drop]
        have : p + (a - p) = a := by omega
        rw [this, ha']
        simp
    have hlt := (List.getElem?_eq_some_iff.mp ha').1
    rw [if_pos (by omega)]
    have h1 : arr.toList[0]? = some a := by simpa using h0
    cases hL : arr.toList with
    | nil => rw [hL] at h1; cases h1
    | cons b t =>
      rw [hL] at h1
      simp at h1
      subst h1
      show ((b : Nat) : Int) = _
      omega
theorem bS_mul1 (k : Nat) : Txt.mul (("1" : String) : Str) (k : Int) = bS (List.replicate k true) := by
  rw [str_one]
  unfold Txt.mul
  by_cases h0 : (k : Int) < 1
  · rw [if_pos h0, show k = 0 by omega]
    rfl
  · rw [if_neg h0]
    by_cases h1 : k = 1
    · subst h1
      rfl
    · rw [if_neg (by
        rw [Bool.or_eq_true, beq_iff_eq, beq_iff_eq, bS_len]
        simp
        omega), Int.toNat_natCast]
      have := reps_list [49] k []
      unfold bS
      rw [List.map_replicate]
      show (⟨(List.replicate k ([49] : List Nat).toArray).foldl (· ++ ·) ([] : List Nat).toArray⟩ : Str) = _
      rw [this, List.nil_append]
      have e : (List.replicate k [49]).flatten = List.replicate k 49 := by
        clear this h0 h1
        induction k with
        | zero => rfl
        | succ k ih => rw [List.replicate_succ, List.flatten_cons, ih, List.replicate_succ]; rfl
      rw [e]
      rfl
theorem bit_int (b : Bool) : PySem.intText? (bS [b]) = some (b.toNat : Int) := by cases b <;> decide +kernel
theorem str_01 : (("01" : String) : Str) = bS [false, true] := by decide +kernel
theorem str_10 : (("10" : String) : Str) = bS [true, false] := by decide +kernel
theorem join_texts (ts : List (List Bool)) : Txt.join (("" : String) : Str) (ts.map bS) = bS ts.flatten := by
  rw [TL.join_eq]
  have e0 : TL.tl ((("" : String) : Str)) = [] := by rw [str_nil]; rfl
  have key : ∀ ts : List (List Bool), TL.joinL [] ((ts.map bS).map TL.tl) = ts.flatten.map sgn := by
    intro ts
    induction ts with
    | nil => rfl
    | cons b r ih =>
      have eb : TL.tl (bS b) = b.map sgn := bS_tl b
      cases r with
      | nil =>
        show TL.tl (bS b) = _
        rw [eb]
        simp
      | cons c q =>
        show TL.tl (bS b) ++ ([] ++ TL.joinL [] (((c :: q).map bS).map TL.tl)) = _
        rw [ih, eb]
        simp
  have h := TL.tl_join (("" : String) : Str) (ts.map bS)
  rw [e0, key] at h
  show _ = (⟨(ts.flatten.map sgn).toArray⟩ : Str)
  rw [← h]
end My

namespace My
open PySem PySem.Spec PyProof.Rows L2 Pre
/-! ### texts of bits: slices, numbers, lists of counts -/
theorem shrN (a k : Nat) : (a : Int) / 2 ^ ((k : Int)).toNat = ((a / 2 ^ k : Nat) : Int) := by
  rw [Int.toNat_natCast, Int.natCast_ediv, Int.natCast_pow]
  rfl
theorem shlN (a k : Nat) : (a : Int) * 2 ^ ((k : Int)).toNat = ((a * 2 ^ k : Nat) : Int) := by
  rw [Int.toNat_natCast, Int.natCast_mul, Int.natCast_pow]
  rfl
theorem and1N (n : Nat) : Builtin.bitAnd (n : Int) 1 = ((n % 2 : Nat) : Int) := by
  rw [bitAnd_m1]
  omega
theorem small4 {n : Nat} (h : n ≤ 100000) : n < sizeLine := by rw [sizeLine_eq]; omega
theorem cut_list {α : Type} (l : List α) (i j : Nat) : (l.drop (min i l.length)).take (min j l.length - min i l.length) = (l.drop i).take (j - i) := by
  rcases Nat.le_total i l.length with h | h
  · rw [Nat.min_eq_left h]
    rcases Nat.le_total j l.length with k | k
    · rw [Nat.min_eq_left k]
    · rw [Nat.min_eq_right k, List.take_of_length_le (l := l.drop i) (i := l.length - i) (by rw [List.length_drop]; exact Nat.le_refl _), List.take_of_length_le (by rw [List.length_drop]; omega)]
  · rw [Nat.min_eq_right h, List.drop_of_length_le (Nat.le_refl _), List.drop_of_length_le h]
    simp
theorem bS_list (bs : List Bool) : (bS bs).cps.toList = bs.map sgn := by unfold bS; simp
theorem cut_bS (bs : List Bool) (i j : Nat) : cutS (bS bs) (some (i : Int)) (some (j : Int)) = bS ((bs.drop i).take (j - i)) := by
  unfold cutS
  rw [HT.sIx_nat, HT.sIx_nat, bS_list, bS_len]
  have h := cut_list (bs.map sgn) i j
  rw [List.length_map] at h
  rw [h, ← List.map_drop, ← List.map_take]
  rfl
theorem cut_bSd (bs : List Bool) (i : Nat) : cutS (bS bs) (some (i : Int)) none = bS (bs.drop i) := by
  unfold cutS
  rw [HT.sIx_nat, HT.sIx_none, bS_list, bS_len]
  have h := cut_list (bs.map sgn) i bs.length
  rw [List.length_map, Nat.min_self] at h
  rw [h, ← List.map_drop, ← List.map_take, List.take_of_length_le (by rw [List.length_drop]; exact Nat.le_refl _)]
  rfl
theorem cut_bSt (bs : List Bool) (j : Nat) : cutS (bS bs) none (some (j : Int)) = bS (bs.take j) := by
  unfold cutS
  rw [HT.sIx_nat, HT.sIx_none, bS_list, bS_len]
  have h := cut_list (bs.map sgn) 0 j
  rw [List.length_map, Nat.zero_min] at h
  rw [h, List.drop_zero, Nat.sub_zero, ← List.map_take]
  rfl
theorem bB_get (n : Nat) : ∀ k i, i < k → (bB n k)[i]? = some (n / 2 ^ (k - 1 - i) % 2 == 1)
  | k + 1, 0, _ => by unfold bB; simp
  | k + 1, i + 1, h => by
    unfold bB
    rw [List.getElem?_cons_succ, bB_get n k i (by omega)]
    have : k - 1 - i = k + 1 - 1 - (i + 1) := by omega
    rw [this]
theorem bit_nat (x : Nat) : x % 2 = (x % 2 == 1).toNat := by
  rcases Nat.mod_two_eq_zero_or_one x with h | h <;> rw [h] <;> rfl
theorem fm_noneN {α β : Type} (l : List α) : (l.map fun _ => (none : Option β)).filterMap id = [] := by
  induction l with
  | nil => rfl
  | cons n r ih => simp
theorem sign_01 (b : Bool) : decide (sgn b ∈ ((("01" : String) : Str)).cps.toList) = true := by
  have e : (("01" : String) : Str).cps.toList = [48, 49] := by decide +kernel
  rw [e]
  cases b <;> decide
/-- a list of counts -/
abbrev nI (fs : List Nat) : List Int := fs.map fun (n : Nat) => (n : Int)
theorem nI_len (fs : List Nat) : ((nI fs).map V.int).length = fs.length := by rw [List.length_map, List.length_map]
theorem nI_at {fs : List Nat} {i : Nat} {x : V} (h : ((nI fs).map V.int)[i]? = some x) : ∃ n : Nat, fs[i]? = some n ∧ x = .int n := by
  obtain ⟨n, hn, rfl⟩ := int_at h
  rw [List.getElem?_map] at hn
  obtain ⟨m, hm, rfl⟩ := Option.map_eq_some_iff.mp hn
  exact ⟨m, hm, rfl⟩
theorem nI_get {fs : List Nat} {i n : Nat} (h : fs[i]? = some n) : ((nI fs).map V.int)[i]? = some (.int n) := by
  rw [List.getElem?_map, List.getElem?_map, h]
  rfl
theorem nI_inj {a b : List Nat} : nI a = nI b ↔ a = b := ⟨fun h => (List.map_inj_right fun x y e => by omega).mp h, fun h => by rw [h]⟩
theorem bool_nat (b : Bool) : (if b = true then (1 : Int) else 0) = ((b.toNat : Nat) : Int) := by cases b <;> rfl
theorem bit_int' (b : Bool) : PySem.intText? (bS [b]) = some (b.toNat : Int) := by cases b <;> decide +kernel
theorem vF_take {bs : List Bool} {i : Nat} {b : Bool} (h : bs[i]? = some b) : vF 0 (bs.take (i + 1)) = 2 * vF 0 (bs.take i) + b.toNat := by
  rw [List.take_add_one, h, vF_app]
  rfl
end My

namespace My
open PySem PySem.Spec PyProof.Rows L2 Pre
/-! ### promises for callers that stand in no repr: within them repr of lists shows its items -/
structure FnG (P : Program) (w : World) (K : PySem.W.Frag) (mg : Str → Option Value) (base : Heap) (CX : CXT) (k : Nat) (f : Addr) (fd : FuncData) (ps : List Str) (sp : Sp) : Prop where
  many : ∀ xs H Q E, sp xs H Q E → xs.length = ps.length
  does : ∀ (A : Around), A.guards = some [] → Room k A → ∀ (fr : List Env) (t : Shared) (H : Hp), Env0 P w K mg base A fr t H → ∀ (ar : Args) (us : List Value) (xs : List V), BindsTo t fd ar (ps.zip us) → Vals xs us →
    ∀ (Q : VK) (E : XK), sp xs H Q E → codeAny (model P w) A (.call (.ref f) ar) (CR CX fr P w H t Q E) t
section
variable {P : Program} {w : World} {K : PySem.W.Frag} {mg : Str → Option Value} {base : Heap} {CX : CXT} {k : Nat} {f : Addr} {fd : FuncData} {ps : List Str} {sp : Sp}
theorem FnG.of (F : FnOk P w K mg base CX k f fd ps sp) : FnG P w K mg base CX k f fd ps sp :=
  ⟨F.len, fun A _ hr fr t H e ar us xs b v Q E h => F.run A fr t H ar us xs Q E hr e b v h⟩
/-- a body makes a promise -/
theorem FnG.body {x qual : Str} {pr : Arguments} {bd : List Stmt} {sc : Scope} {dvs : List V} {kws : List (Str × V)} {N : List Str} (F : FunD K x qual pr bd sc dvs kws f fd) (S : FnScope N ps sc) (hm : ∀ xs H Q E, sp xs H Q E → xs.length = ps.length)
    (go : ∀ (cv : Value) (A : Around) (fr : List Env) (t : Shared) (H : Hp) (xs : List V) (Q : VK) (E : XK), A.guards = some [] → Room k (A.deeper (envOfC qual sc t.heap.objs.size f cv)) → sp xs H Q E →
      ∃ τ, PSs (cxOf CX P w K mg base N qual sc f cv A fr t H E) bd τ ∧ τ { nx := fun _ H1 => Q .non H1, rt := Q } (start N xs) H) : FnG P w K mg base CX (k + 1) f fd ps sp := by
  obtain ⟨c0, d0, dv, kv, dc, pm, an, cv, ct, sl, rfl, lk, hcode, _, _⟩ := F.ex
  refine ⟨hm, fun A gd hr fr t H e0 ar us xs hb rv Q E hs => ?_⟩
  have hin : K.In t.heap := e0.mod.kin.keeps fun b o z => (e0.bs b o z).1
  have hno : t.heap.NoLimit := e0.mod.nolimit.keeps fun b o z => (e0.bs b o z).1
  refine codeAny_call_function hr.depth (hin _ _ lk) rfl S.co S.gen rfl (PySem.W.codeRec_of hin hcode) (hb _ _ _ _ ?_)
  refine wpAny_newFunctionEnv_cells S.kind (fun y hy => ?_) fun env he t1 hx => ?_
  · obtain ⟨n, u⟩ := y
    rcases S.par n (List.of_mem_zip hy).1 with z | z
    · exact Or.inl z
    · exact Or.inr ⟨z, PySem.W.cellsFrom_some _ _ _ (Or.inl z)⟩
  · subst he
    refine ⟨hno.keeps hx.toInCall.keep, codeAny_func ?_⟩
    obtain ⟨τ, hτ, hq⟩ := go cv A fr t H xs Q E gd (hr.deeper _) hs
    have J := inv_start (CX := CX) (E := E) S hr.hd e0 (hm _ _ _ _ hs) rv hx
    refine wpAny_mono (hτ.run [] t1 (start N xs) H _ J hq) (fun fl t2 h2 => ?_) fun _ _ z => z
    cases fl with
    | brk => exact False.elim h2.choose_spec.choose_spec.2
    | cont => exact False.elim h2.choose_spec.choose_spec.2
    | next =>
      obtain ⟨σ2, H2, J2, q2⟩ := h2
      exact ⟨V.non, H2, J2.os, J2.bare, J2.base, J2.hok, rfl, q2⟩
    | ret u =>
      obtain ⟨v2, σ2, H2, J2, r2, q2⟩ := h2
      exact ⟨v2, H2, J2.os, J2.bare, J2.base, J2.hok, r2, q2⟩
end
section
variable {X : Cx} {CX : CXT} {k : Nat} {f : Addr} {fd : FuncData} {ps : List Str} {sp : Sp} {dvs : List V} {ds : List Value} {E : XK} {x : Str} {p pos : Pos} {e : Expr} {es : List Expr} {t : TA}
theorem go_g {pins : List (Addr × Obj)} {σ : L2.St} {H : Hp} {s : Shared} {Q : VK} {us : List Value} {xs : List V} (F : FnG X.prog X.w X.K X.mg X.base CX k f fd ps sp) (gd : X.A.guards = some []) (hr : Room k X.A) (hb : Binds X.K fd ps ds) (hd : Vals dvs ds)
    (hx : Passes CX X E) (I : Inv X pins σ H s) (r : Vals xs us) (h : sp (xs ++ dvs) H Q E) : wpAny (model X.prog X.w) X.A (call (.ref f) us) (EP X pins σ Q) X.xe s := by
  have rr := Vals.append r hd
  refine wpAny_call (codeAny_mono (F.does X.A gd hr X.stack s H I.env0 ⟨us, []⟩ (us ++ ds) (xs ++ dvs) (hb s us I.kIn (by rw [← rr.length]; exact F.many _ _ _ _ h)) rr Q E h) fun z s2 hz => ?_)
  match z, hz with
  | .error e, hz => exact hx pins σ H s e s2 I hz
  | .ok (.ret u), hz => exact I.after hz
theorem pe_callG (F : FnG X.prog X.w X.K X.mg X.base CX k f fd ps sp) (gd : X.A.guards = some []) (hr : Room k X.A) (hg : Gl X x) (hm : X.mg x = some (.ref f)) (hk : PySem.W.keepIn X.K (.ref f) = true) (hb : Binds X.K fd ps ds) (hd : Vals dvs ds) (hx : Passes CX X E)
    (ha : PA X (e :: es) t) (hdb : (x == ("__debug__" : Str)) = false := by decide) (he : starEach (e :: es) X.env = (false, eval e X.env) :: starEach es X.env := by rfl) (hpl : (backTo pos (starEach es X.env)).any (·.1) = false := by rfl) :
    PE X (.Call (.Name x p) (e :: es) [] pos) (tCall sp dvs E t) :=
  ⟨fun pins s σ H Q I h => wpAny_Call_Name_kw (ld_glob I hg hm (PySem.W.callWith_K (h₀ := X.base) I.ok.mod.kin hk (thn (ha.run pos pins s σ H _ I h) fun us s1 ⟨vs, H1, J, r, q⟩ => ⟨J.kIn, go_g F gd hr hb hd hx J r q⟩) he hpl) hdb)⟩
theorem pe_callG0 (F : FnG X.prog X.w X.K X.mg X.base CX k f fd ps sp) (gd : X.A.guards = some []) (hr : Room k X.A) (hg : Gl X x) (hm : X.mg x = some (.ref f)) (hk : PySem.W.keepIn X.K (.ref f) = true) (hb : Binds X.K fd ps ds) (hd : Vals dvs ds) (hx : Passes CX X E)
    (hdb : (x == ("__debug__" : Str)) = false := by decide) : PE X (.Call (.Name x p) [] [] pos) (tCall sp dvs E tNil) :=
  ⟨fun pins s σ H Q I h => wpAny_Call_Name_kw (ld_glob I hg hm (PySem.W.callWith_K0 I.kIn hk (go_g (us := []) F gd hr hb hd hx I .nil h)) hdb)⟩
end
/-! ### repr -/
def rRepr (K : PySem.W.Frag) : List V → Hp → VK → Prop := fun xs H Q => ∃ (x : V) (d : PyData), xs = [x] ∧ Dp K H x d ∧ d.showable = true ∧ SeqAt.shaped d = true ∧ d.shown.length ≤ sizeLine ∧ Q (.str d.shown) H
theorem call_repr {X : Cx} (gd : X.A.guards = some []) (hu : X.A.units + 65 < cLine) : CallR X (.builtin "repr") (rRepr X.K) := by
  intro pins s σ H xs us Q I r h
  obtain ⟨x, d, rfl, hd, hs, hsh, hl, q⟩ := h
  cases r with
  | cons rx rr =>
    cases rr
    rename_i u
    have hlay : d.canLay0 = true := SeqAt.canLay_of_shaped hsh
    have hdep : d.depth ≤ 64 := by
      have z : (d.canLay0 && decide (d.depth ≤ 64)) = true := hsh
      exact of_decide_eq_true (Bool.and_eq_true_iff.mp z).2
    obtain ⟨as, rd⟩ := Dp.reads I d x u hd rx
    have fin : ∀ h' v tk, (∀ b o, s.heap.get? b = some o → h'.get? b = some o) → EP X pins σ Q (.str d.shown v) { s with heap := h', toks := tk } := fun h' v tk hk => ⟨.str d.shown, H, I.kept hk, ⟨v, rfl⟩, q⟩
    cases hd with
    | non => cases rx; exact PySem.P.repr_of_none (fin _ _ _ fun _ _ z => z)
    | bl b => cases rx; exact PySem.P.repr_of_bool (fin _ _ _ fun _ _ z => z)
    | int i => obtain ⟨t, rfl⟩ := rx; exact PySem.P.repr_of_int (of_decide_eq_true hs) (fin _ _ _ fun _ _ z => z)
    | str y => obtain ⟨t, rfl⟩ := rx; exact PySem.P.repr_of_str (fin _ _ _ fun _ _ z => z) hl
    | lst _ _ => cases rx; exact repr_of_reads' rd hs (PyData.noDict_hsm (PyData.hasDict_of_canLay _ hlay)) gd (by omega) (fun _ _ z => z) fin hl
    | tup _ _ => cases rx; exact repr_of_reads' rd hs (PyData.noDict_hsm (PyData.hasDict_of_canLay _ hlay)) gd (by omega) (fun _ _ z => z) fin hl
theorem k_repr {X : Cx} (K : PySem.W.Frag) (h : X.K = K) (gd : X.A.guards = some []) (hu : X.A.units + 65 < cLine) : CallR X (.builtin "repr") (rRepr K) := by subst h; exact call_repr gd hu
theorem hu65 {k : Nat} {A : Around} (r : Room k A) : A.units + 65 < cLine := by have := r.un; omega
/-- rows of whole numbers, shown -/
theorem dp_ints {K : PySem.W.Frag} {H : Hp} : ∀ ns : List Int, DpAll K H (ns.map V.int) (ns.map PyData.int)
  | [] => .nil
  | n :: ns => .cons (.int n) (dp_ints ns)
theorem dp_row {K : PySem.W.Frag} {H : Hp} {a : Addr} {ns : List Int} (h : SqL K H a (ns.map V.int)) : Dp K H (.ref a) (.list (ns.map PyData.int)) := .lst h (dp_ints ns)
def shownR (ns : List Int) : Str := PyData.shown (.list (ns.map PyData.int))
theorem ints_lay : ∀ ns : List Int, PyData.canLayAll0 (ns.map PyData.int) = true
  | [] => rfl
  | n :: ns => by simp [PyData.canLayAll0, PyData.canLay0, ints_lay ns]
theorem ints_depth : ∀ ns : List Int, PyData.depthAll (ns.map PyData.int) ≤ 1
  | [] => by simp [PyData.depthAll]
  | n :: ns => by
    have := ints_depth ns
    simp only [List.map_cons, PyData.depthAll, PyData.depth]
    omega
theorem row_shaped (ns : List Int) : SeqAt.shaped (.list (ns.map PyData.int)) = true := by
  have h := ints_depth ns
  show (PyData.canLay0 (.list (ns.map PyData.int)) && decide (PyData.depth (.list (ns.map PyData.int)) ≤ 64)) = true
  rw [Bool.and_eq_true]
  exact ⟨by simp only [PyData.canLay0]; exact ints_lay ns, decide_eq_true (by simp only [PyData.depth]; omega)⟩
theorem ints_show : ∀ ns : List Int, (∀ n ∈ ns, n.natAbs.log2 < 1920) → PyData.showableAll (ns.map PyData.int) = true
  | [], _ => rfl
  | n :: ns, h => by
    simp only [List.map_cons, PyData.showableAll, PyData.showable]
    rw [decide_eq_true (h n List.mem_cons_self), ints_show ns fun m hm => h m (List.mem_cons_of_mem _ hm)]
    rfl
/-! ### sorted, any number -/
theorem k_sortedI {X : Cx} (K : PySem.W.Frag) (h : X.K = K) : CallR X (.builtin "sorted") (rSortedI K) := by subst h; exact cr_sortedI
def rSortedA (K : PySem.W.Frag) : List V → Hp → VK → Prop := fun vs H Q => ∃ (a : Addr) (xs : List Str), vs = [V.ref a] ∧ SqL K H a (xs.map V.str) ∧ ∀ (ys : List Str) (p : Addr), ys.Perm xs → sortedS ys = true → H p = none → Q (.ref p) (upd H p (.lst (ys.map V.str)))
theorem k_sortedS {X : Cx} (K : PySem.W.Frag) (h : X.K = K) : CallR X (.builtin "sorted") (rSortedA K) := by
  subst h
  intro pins s σ H vs us Q I r h
  obtain ⟨a, xs, rfl, hs, q⟩ := h
  obtain ⟨its, rv, hl, hz⟩ := I.list hs
  rw [Vals.ref1 r]
  refine sorted_strsAny hl.isList rv.strs (by rw [← rv.length]; exact hz) fun out ys h1 h2 h3 => ?_
  obtain ⟨ep, at_⟩ := sortedAll_at s.heap its out
  refine ⟨.ref _, upd H (s.heap.objs.size + 1) (.lst (ys.map V.str)), I.laid (t' := s.toks) (fun _ _ => sortedAll_old) (Nat.le_succ _) ⟨?_, out.toList, ep, vals_of_strs h1, at_⟩, rfl, q ys _ h2 h3 (I.hok.fresh (Nat.le_succ _))⟩
  rw [List.length_map, h2.length_eq]
  rw [List.length_map] at hz
  exact hz
theorem sorted_le : ∀ (l : List Str) (p : Str), risingS p l = true → (p :: l).Pairwise fun x y => x.cps.toList ≤ y.cps.toList
  | [], p, _ => List.pairwise_singleton _ _
  | x :: r, p, h => by
    obtain ⟨h1, h2⟩ := Bool.and_eq_true_iff.mp (show (!ltCps x.cps.toList p.cps.toList && risingS x r) = true from h)
    have hpx : p.cps.toList ≤ x.cps.toList := by
      rw [ltCps_eq] at h1
      intro z
      rw [decide_eq_true z] at h1
      cases h1
    have ih := sorted_le r x h2
    refine List.pairwise_cons.mpr ⟨fun y hy => ?_, ih⟩
    rcases List.mem_cons.mp hy with rfl | hy
    · exact hpx
    · exact List.le_trans hpx ((List.pairwise_cons.mp ih).1 y hy)
theorem sorted_uniq {xs ys : List Str} (h : xs.Perm ys) (hx : sortedS xs = true) (hy : sortedS ys = true) : xs = ys := by
  have pw : ∀ l : List Str, sortedS l = true → l.Pairwise fun x y => x.cps.toList ≤ y.cps.toList := fun l hl => by
    cases l with
    | nil => exact .nil
    | cons x r => exact sorted_le r x hl
  refine List.Perm.eq_of_pairwise (fun x y _ _ h1 h2 => ?_) (pw _ hx) (pw _ hy) h
  have e := List.le_antisymm h1 h2
  cases x with | mk a => cases y with | mk b => exact congrArg Str.mk (Array.toList_inj.mp e)
end My

namespace My
open PySem PySem.Spec PyProof.Rows L2 Pre
/-! ### the end of a law whose promise stands in no repr -/
/-- the script, tracked or one of the module's own objects -/
theorem script_env {P : Program} {w : World} {K : PySem.W.Frag} {mg mb : Str → Option Value} {a : Addr} {t : Shared} {us : List Value} {ns : List Int} (hin : K.In t.heap) (hgl : t.heap.Ns mainGlobals mg) (hbl : t.heap.Ns builtinsNs mb)
    (hbo : ∀ x : Str, x ≠ "__name__" → mb x = bootBuiltins x) (hno : t.heap.NoLimit) (hgs : t.gens = #[]) (at_a : t.heap.get? a = some { cls := .type "list", data := .seq us.toArray }) (ints_ : IntsAre us ns) (few : ns.length ≤ sizeLine) :
    ∃ (H : Hp) (base : Heap), Only H ∧ SqL K H a (ns.map V.int) ∧ K.In base ∧ base.Ns mainGlobals mg ∧ Env0 P w K mg base callerA [] t H := by
  have rv := vals_ints ints_
  have ul := ints_.length
  -- the module and the rest of the heap, whatever is tracked at a alone
  have rest : ∀ H : Hp, Only H → (∀ b, b ≠ a → H b = none) → (H a = none ∨ K.lookup a = none) → HOk P w H t.heap → SqL K H a (ns.map V.int) → ∃ (H : Hp) (base : Heap), Only H ∧ SqL K H a (ns.map V.int) ∧ K.In base ∧ base.Ns mainGlobals mg ∧ Env0 P w K mg base callerA [] t H := by
    intro H h1 h2 h3 h4 h5
    have dictFree : ∀ b o, t.heap.get? b = some o → (∃ es n, o.data = Data.dict es n) → H b = none := fun b o z ⟨es, n, d⟩ => by
      by_cases hb : b = a
      · rw [hb, at_a] at z
        cases z
        cases d
      · exact h2 b hb
    have nsKept : ∀ (b : Addr) (m : Str → Option Value), t.heap.Ns b m → (hidT t.heap H).Ns b m := fun b m z => by
      obtain ⟨o, es, ep, z1, z2, z3⟩ := z
      exact ⟨o, es, ep, hidT_get z1 (dictFree b o z1 ⟨_, _, z2⟩), z2, z3⟩
    have inKept : K.In (hidT t.heap H) := fun b o z => hidT_get (hin b o z) (by
      by_cases hb : b = a
      · rcases h3 with z3 | z3
        · rw [hb]; exact z3
        · rw [hb, z3] at z; cases z
      · exact h2 b hb)
    obtain ⟨mc, l1, l2⟩ := hno
    refine ⟨H, hidT t.heap H, h1, h5, inKept, nsKept _ _ hgl, ⟨rfl, ⟨inKept, nsKept _ _ hgl, ⟨mb, nsKept _ _ hbl, hbo⟩, ⟨mc, nsKept _ _ l1, l2⟩⟩, fun b o z => of_hidT z, ?_, trivial, fun b z => (nomatch z), h4, .of_eq hgs⟩⟩
    rw [hidT_size]
    exact Nat.le_refl _
  cases hk : K.lookup a with
  | some o =>
    have z := hin a o hk
    rw [at_a] at z
    cases z
    exact rest (fun _ => none) (fun _ => .inl rfl) (fun _ _ => rfl) (.inl rfl) (fun _ _ z => nomatch z) (.inr ⟨_, us.toArray, _, hk, rfl, rfl, rfl, by rw [List.size_toArray, ul]; exact few, by simpa using rv⟩)
  | none =>
    refine rest (upd (fun _ => none) a (.frz { cls := .type "list", data := .seq us.toArray } (.lst (ns.map V.int)))) (fun b => ?_) (fun b hb => upd_ne hb) (.inr hk) (fun b u z => ?_) (.inl (.inr ⟨_, upd_same⟩))
    · by_cases hb : b = a
      · rw [hb]; exact .inr ⟨_, _, upd_same⟩
      · exact .inl (upd_ne hb)
    · by_cases hb : b = a
      · subst hb
        rw [upd_same] at z
        cases z
        exact ⟨at_a, by rw [List.length_map]; exact few, us, _, rv, at_a⟩
      · rw [upd_ne hb] at z
        cases z
theorem end_g {l : PySem.W.OpenLaw} {n k : Nat} {q : Program} {loose : List Str} {XP : (Str → Option Value) → Heap → Prop} {YP : World → Heap → Prop} {d : DefRec} {x : Str} (hn : l.most = some n) (hn2 : n ≤ sizeLine) (hdf : d.params.defaults = []) (hr : Room k callerA)
    (F : ∀ (w : World) (mg : Str → Option Value) (fa : Addr) (h : Heap), YP w h → h.Ns mainGlobals mg → mg d.name = some (.ref fa) →
      ∃ (K : PySem.W.Frag) (fd : FuncData) (sp : Sp), K.In h ∧ (∀ (s : Shared) (u : Value), BindsTo s fd ⟨[u], []⟩ [(x, u)]) ∧
        (∀ (H : Hp) (a : Addr) (ns : List Int), ns.length ≤ n → SqL K H a (ns.map V.int) → sp [.ref a] H (fun v _ => v = .bl true) fun _ _ _ => False) ∧
        ∀ base : Heap, K.In base → base.Ns mainGlobals mg → FnG l.prog w K mg base CX0 k fa fd [x] sp) :
    PySem.W.WalkO q loose XP YP l.row.toRowW d [] (fun f vs => PySem.call f vs) := by
  refine Att.attach_call hn hdf fun w s₀ t mg mb fa o pm cd doc a us ns G Y ho hd hcd hmg at_a hi hl hg => ?_
  obtain ⟨K, fd, sp, hin, hb, hsp, hF⟩ := F w mg fa _ Y G.T.g hmg
  obtain ⟨H, base, only, hS, hKb, hgb, e0⟩ := script_env (P := l.prog) (w := w) hin G.T.g G.T.b G.T.builtins G.T.nolimit hg at_a hi (Nat.le_trans hl hn2)
  refine codeAny_mono ((hF base hKb hgb).does callerA rfl hr [] t H e0 ⟨[.ref a], []⟩ [.ref a] [.ref a] (hb t (.ref a)) (.cons rfl .nil) _ _ (hsp H a ns hl hS)) fun r t2 h => ?_
  match r, h with
  | .error e, h => exact (show False from h).elim
  | .ok (.ret u), h =>
    obtain ⟨v, H2, os, bare, un, hok2, rv, qv⟩ := h
    have qv : v = .bl true := qv
    subst qv
    have rv : u = Value.bool true := rv
    subst rv
    refine ⟨rfl, OldK.of_keep fun b o z => ?_, os, bare⟩
    rcases only b with hb | ⟨ob, ys, hb⟩
    · exact un.keep b o z hb (fun y => nomatch y) (fun y => nomatch y)
    · have z1 : t.heap.get? b = some ob := (e0.hok b _ hb).1
      have z2 : t2.heap.get? b = some ob := (hok2 b _ (un.frzs b ob _ hb)).1
      rw [z] at z1
      cases z1
      exact z2
end My

namespace My
open PySem PySem.Spec PyProof.Rows L2 Pre
/-! ### repr of an empty dict, too -/
def rReprX (K : PySem.W.Frag) : List V → Hp → VK → Prop := fun xs H Q => rRepr K xs H Q ∨ ∃ a : Addr, xs = [.ref a] ∧ H a = some (.dK []) ∧ Q (.str (PyData.dict []).shown) H
theorem call_reprX {X : Cx} (gd : X.A.guards = some []) (hu : X.A.units + 65 < cLine) : CallR X (.builtin "repr") (rReprX X.K) := by
  intro pins s σ H xs us Q I r h
  rcases h with h | ⟨a, rfl, ha, q⟩
  · exact call_repr gd hu pins s σ H xs us Q I r h
  · cases r with
    | cons rx rr =>
      cases rr
      cases rx
      have hx := I.hok a _ ha
      obtain ⟨t1, t2, vs, rel, o, es, ep, ho, h2, h3, h4⟩ := hx
      obtain rfl : vs = [] := by cases rel; rfl
      have he : es.toList = [] := by
        have h5 := h4.2.1
        cases hl : es.toList with
        | nil => rfl
        | cons e r => rw [hl] at h5; cases h5
      have rd : Reads s.heap (.ref a) (.dict []) [a] := .dict (as := []) (bs := []) ho h2.1 h3 (by rw [he]; exact .nil) (by rw [he]; exact .nil)
      have hd : (PyData.dict []).depth ≤ 64 := by decide +kernel
      have fin : ∀ h' v tk, (∀ b o, s.heap.get? b = some o → h'.get? b = some o) → EP X pins σ Q (.str (PyData.dict []).shown v) { s with heap := h', toks := tk } := fun h' v tk hk => ⟨.str (PyData.dict []).shown, H, I.kept hk, ⟨v, rfl⟩, q⟩
      exact repr_of_reads' rd rfl (fun _ m => by
        rw [List.mem_singleton] at m
        rw [← m] at t2
        simp at t2) gd (by omega) (fun _ _ z => z) fin (by decide +kernel)
theorem k_reprX {X : Cx} (K : PySem.W.Frag) (h : X.K = K) (gd : X.A.guards = some []) (hu : X.A.units + 65 < cLine) : CallR X (.builtin "repr") (rReprX K) := by subst h; exact call_reprX gd hu
end My

namespace My
open PySem PySem.Spec PyProof.Rows PySem.W L2 Pre
/-- products of one small number, or of two that are not too great -/
def CMulA (i j : Int) : Prop := CMul i j ∨ CMulX i j
theorem op_mulA {X : Cx} : OpR X (binaryOp .Mult) (rI CMulA fun i j => .int (i * j)) := fun pins s σ H x y v u Q I r1 r2 h => by
  obtain ⟨i, j, ex, ey, hc, q⟩ := h
  rcases hc with hc | hc
  · exact op_mul pins s σ H x y v u Q I r1 r2 ⟨i, j, ex, ey, hc, q⟩
  · exact op_mulX pins s σ H x y v u Q I r1 r2 ⟨i, j, ex, ey, hc, q⟩
end My

namespace My
open PySem PySem.Spec PyProof.Rows L2 Pre
theorem _root_.L2.TyX.same {K : PySem.W.Frag} {H H' : Hp} {v : V} {t : Value} (s : Same H H') (h : TyX K H v t) : TyX K H' v t := by
  cases h with
  | base b => exact .base (by
    cases b with
    | non => exact .non
    | bl y => exact .bl y
    | int i => exact .int i
    | str y => exact .str y
    | flt y => exact .flt y
    | lst e => exact .lst (s _ _ e)
    | frz e => exact .frz (s _ _ e)
    | tup e => exact .tup (s _ _ e)
    | dK e => exact .dK (s _ _ e)
    | dT e => exact .dT (s _ _ e)
    | ins e cl ha hn htk hm => exact .ins (s _ _ e) cl ha hn htk hm)
  | byt b => exact .byt b
  | set e => exact .set (s _ _ e)
  | kList e c => exact .kList e c
  | kTuple e c => exact .kTuple e c
  | kDict e c => exact .kDict e c
  | fTuple e => exact .fTuple (s _ _ e)
  | fDict e => exact .fDict (s _ _ e)
end My

namespace My
open PySem PySem.Spec PyProof.Rows L2 Pre
/-! ### whole numbers, and what is none -/
/-- what is no whole number -/
def BadN (K : PySem.W.Frag) (H : Hp) (v : V) : Prop := (∃ b : Bool, v = .bl b) ∨ ∃ T : String, TyX K H v (.type T) ∧ kitB T "int" = some false
def NumV (K : PySem.W.Frag) (H : Hp) (v : V) (lo : Int) (hi : Option Int) (b : Bool) : Prop := (∃ i : Int, v = .int i ∧ b = decide (lo ≤ i ∧ ∀ j, hi = some j → i ≤ j)) ∨ (BadN K H v ∧ b = false)
theorem BadN.same {K : PySem.W.Frag} {H H' : Hp} {v : V} (s : Same H H') (h : BadN K H v) : BadN K H' v := by
  rcases h with h | ⟨T, ty, e⟩
  · exact .inl h
  · exact .inr ⟨T, ty.same s, e⟩
theorem NumV.same {K : PySem.W.Frag} {H H' : Hp} {v : V} {lo : Int} {hi : Option Int} {b : Bool} (s : Same H H') (h : NumV K H v lo hi b) : NumV K H' v lo hi b := by
  rcases h with h | ⟨h, e⟩
  · exact .inl h
  · exact .inr ⟨h.same s, e⟩
/-- a bound: a number or None -/
def hiV : Option Int → V
  | some j => .int j
  | none => .non
local macro_rules | `(tactic| walk_at "go") => `(tactic| repeat (first | (with_reducible first | refine iteT ?_ | refine iteF ?_ | refine iteNtt ?_ | refine iteNff ?_ | refine iteET (by omega) ?_ | refine iteEF (by omega) ?_ | refine iteENT (by omega) ?_ | refine iteENF (by omega) ?_ | refine iteDT (by omega) ?_ | refine iteDF (by omega) ?_ | refine iteNT (by omega) ?_ | refine iteNF (by omega) ?_) | refine ⟨_, rfl, ?_⟩ | refine ⟨_, _, rfl, rfl, ?_⟩ | refine ⟨_, _, rfl, ?_⟩ | refine ⟨rfl, ?_⟩ | refine .inl ⟨_, rfl, ?_⟩ | refine .inr ⟨_, rfl, ?_⟩))
local macro_rules | `(tactic| walk_at "b") => `(tactic| try dsimp (config := { proj := false, iota := false, eta := false, zeta := false }) only)
section
variable {P : Program} {w : World} {K : PySem.W.Frag} {mg : Str → Option Value} {base : Heap} [pf : Sup.PF P fileS]
def sp_is_whole (K : PySem.W.Frag) : Sp := fun vs H Q _ => ∃ v : V, vs = [v] ∧ ((∃ i : Int, v = .int i ∧ Q (.bl true) H) ∨ (BadN K H v ∧ Q (.bl false) H))
theorem G_is_whole (T : Top K mg) : FnOk P w K mg base CX0 1 T.f_is_whole T.fd_is_whole ["value"] (sp_is_whole K) := by
  refine T.F_is_whole.ok sc_is_whole (fun vs H Q E h => by obtain ⟨v, rfl, _⟩ := h; rfl) (fun cdv A outer s H vs Q E hr h => ?_)
  obtain ⟨v, rfl, h⟩ := h
  refine ⟨_, PSs.nox (pss_one (ps_ret (pe_and (pe_callB (k_isi K rfl) (by rfl) T.n_isinstance (by decide +kernel) (pa_cons (pv 0) (pa_cons (pe_bltn (v := .ty "int") (by rfl) T.n_int (by decide +kernel) rfl) pa_nil))) (pe_one (pe_not (pe_callB (k_isi K rfl) (by rfl) T.n_isinstance (by decide +kernel) (pa_cons (pv 0) (pa_cons (pe_bltn (v := .ty "bool") (by rfl) T.n_bool (by decide +kernel) rfl) pa_nil)))))))), ?_⟩
  rcases h with ⟨i, rfl, q⟩ | ⟨⟨b, rfl⟩ | ⟨T, ty, hT⟩, q⟩
  · refine ⟨_, rfl, _, _, _, _, true, rfl, .ty _, .base (.int i), kit_ty (by decide +kernel), true, rfl, iteT ?_⟩
    exact ⟨_, rfl, _, _, _, _, false, rfl, .ty _, .base (.int i), kit_ty (by decide +kernel), false, rfl, q⟩
  · refine ⟨_, rfl, _, _, _, _, true, rfl, .ty _, .base (.bl b), kit_ty (by decide +kernel), true, rfl, iteT ?_⟩
    exact ⟨_, rfl, _, _, _, _, true, rfl, .ty _, .base (.bl b), kit_ty (by decide +kernel), true, rfl, q⟩
  · exact ⟨_, rfl, _, _, _, _, false, rfl, .ty _, ty, kit_ty hT, false, rfl, iteF q⟩
def sp_is_between (K : PySem.W.Frag) : Sp := fun vs H Q _ => ∃ (v : V) (lo : Int) (hi : Option Int) (b : Bool), vs = [v, .int lo, hiV hi] ∧ NumV K H v lo hi b ∧ Q (.bl b) H
theorem G_is_between (T : Top K mg) : FnOk P w K mg base CX0 2 T.f_is_between T.fd_is_between ["value", "low", "high"] (sp_is_between K) := by
  refine T.F_is_between.ok sc_is_between (fun vs H Q E h => by obtain ⟨v, lo, hi, b, rfl, _⟩ := h; rfl) (fun cdv A outer s H vs Q E hr h => ?_)
  obtain ⟨v, lo, hi, b, rfl, hv, q⟩ := h
  refine ⟨_, PSs.nox (pss_one (ps_ret (pe_and (pe_call (G_is_whole (P := P) T) (hr.mono (by decide)) (by rfl) T.g_is_whole T.F_is_whole.kp T.b_is_whole .nil pass0 (pa_cons (pv 0) pa_nil)) (pe_and (pe_cmpR op_le (pv 1) (pv 0) (nomark _)) (pe_one (pe_or (pe_cmpR op_isN (pv 2) pe_non (nomark _)) (pe_one (pe_cmpR op_le (pv 0) (pv 2) (nomark _))))))))), ?_⟩
  rcases hv with ⟨i, rfl, rfl⟩ | ⟨hv, rfl⟩
  · refine ⟨_, rfl, _, rfl, .inl ⟨i, rfl, true, rfl, iteT ?_⟩⟩
    refine ⟨_, rfl, _, rfl, _, _, rfl, rfl, _, rfl, ite2 (fun e => ?_) (fun e => ?_)⟩
    · have e1 : lo ≤ i := of_decide_eq_true e
      cases hi with
      | none =>
        refine ⟨_, rfl, rfl, _, rfl, iteT ?_⟩
        rw [decide_eq_true ⟨e1, fun j h => nomatch h⟩] at q
        exact q
      | some j =>
        refine ⟨_, rfl, rfl, _, rfl, iteF ⟨_, rfl, _, rfl, _, _, rfl, rfl, ?_⟩⟩
        have e2 : decide (lo ≤ i ∧ ∀ j', some j = some j' → i ≤ j') = decide (i ≤ j) := by
          by_cases h : i ≤ j
          · rw [decide_eq_true h, decide_eq_true]
            exact ⟨e1, fun j' e => by cases e; exact h⟩
          · rw [decide_eq_false h, decide_eq_false]
            exact fun z => h (z.2 j rfl)
        rw [e2] at q
        exact q
    · have e1 : ¬ lo ≤ i := fun h => e (decide_eq_true h)
      rw [decide_eq_false fun z => e1 z.1] at q
      exact q
  · exact ⟨_, rfl, _, rfl, .inr ⟨hv, false, rfl, iteF q⟩⟩
def sp_check_number (K : PySem.W.Frag) (C : Addr) : Sp := fun vs H Q E => ∃ (v : V) (lo : Int) (hi : Option Int) (b : Bool), vs = [v, .int lo, hiV hi] ∧ NumV K H v lo hi b ∧ (b = true → Q .non H) ∧ (b = false → ∀ d, H d = none → E (.ref C) (some d) (upd H d (.xd [("value", v)])))
end
end My

namespace My
open PySem PySem.Spec PyProof.Rows L2 Pre
/-! ### rules, in a program: what is asked of them -/
def isI : V → Bool
  | .int _ => true
  | _ => false
/-- an item that may stand in a list of weights -/
def Simple (x : V) : Prop := x = .non ∨ (∃ b, x = .bl b) ∨ ∃ i, x = .int i
/-- what is no list -/
def NoL (K : PySem.W.Frag) (H : Hp) (v : V) : Prop := ∃ T : String, TyX K H v (.type T) ∧ kitB T "list" = some false
theorem NoL.same {K : PySem.W.Frag} {H H' : Hp} {v : V} (s : Same H H') (h : NoL K H v) : NoL K H' v := by
  obtain ⟨T, ty, e⟩ := h
  exact ⟨T, ty.same s, e⟩
/-- what is no rule -/
def BadR (K : PySem.W.Frag) (H : Hp) (v : V) : Prop := NoL K H v ∨ ∃ (a : Addr) (xs : List V), v = .ref a ∧ H a = some (.lst xs) ∧ xs.length ≤ 1000 ∧ (∀ x ∈ xs, Simple x) ∧ (xs.all isI = false ∨ ∃ ws : List Int, xs = ws.map V.int ∧ (8 < ws.length ∨ ∃ w ∈ ws, 32768 < (w.natAbs : Nat)))
theorem BadR.same {K : PySem.W.Frag} {H H' : Hp} {v : V} (s : Same H H') (h : BadR K H v) : BadR K H' v := by
  rcases h with h | ⟨a, xs, e, h, r⟩
  · exact .inl (h.same s)
  · exact .inr ⟨a, xs, e, s _ _ h, r⟩
def GoodR (ws : List Int) : Prop := ws.length ≤ 8 ∧ ∀ w ∈ ws, w.natAbs ≤ 32768
theorem bad_data : ∀ xs : List V, (∀ x ∈ xs, Simple x) → ∃ ds, (∀ {K : PySem.W.Frag} {H : Hp}, DpAll K H (xs.filter fun x => !isI x) ds) ∧ PyData.canLayAll0 ds = true ∧ PyData.depthAll ds = 0 ∧ (ds = [] ↔ xs.all isI = true)
  | [], _ => ⟨[], .nil, rfl, rfl, by simp⟩
  | x :: r, h => by
    obtain ⟨ds, h1, h2, h3, h4⟩ := bad_data r fun y hy => h y (List.mem_cons_of_mem _ hy)
    rcases h x List.mem_cons_self with rfl | ⟨b, rfl⟩ | ⟨i, rfl⟩
    · exact ⟨.none :: ds, .cons .non h1, by rw [PyData.canLayAll0, h2]; rfl, by rw [PyData.depthAll, h3]; rfl, by simp [isI]⟩
    · exact ⟨.bool b :: ds, .cons (.bl b) h1, by rw [PyData.canLayAll0, h2]; rfl, by rw [PyData.depthAll, h3]; rfl, by simp [isI]⟩
    · exact ⟨ds, h1, h2, h3, by rw [h4]; simp [isI]⟩
local macro_rules | `(tactic| walk_at "go") => `(tactic| repeat (first | (with_reducible first | refine iteT ?_ | refine iteF ?_ | refine iteNtt ?_ | refine iteNff ?_ | refine iteET (by omega) ?_ | refine iteEF (by omega) ?_ | refine iteENT (by omega) ?_ | refine iteENF (by omega) ?_ | refine iteDT (by omega) ?_ | refine iteDF (by omega) ?_ | refine iteNT (by omega) ?_ | refine iteNF (by omega) ?_) | refine ⟨_, rfl, ?_⟩ | refine ⟨_, _, rfl, rfl, ?_⟩ | refine ⟨_, _, rfl, ?_⟩ | refine ⟨rfl, ?_⟩ | refine .inl ⟨_, rfl, ?_⟩ | refine .inr ⟨_, rfl, ?_⟩))
local macro_rules | `(tactic| walk_at "b") => `(tactic| try dsimp (config := { proj := false, iota := false, eta := false, zeta := false }) only)
section
variable {P : Program} {w : World} {K : PySem.W.Frag} {mg : Str → Option Value} {base : Heap} [pf : Sup.PF P fileS]
def sp_are_wholes (K : PySem.W.Frag) : Sp := fun vs H Q _ => ∃ v : V, vs = [v] ∧ ((NoL K H v ∧ Q (.bl false) H) ∨ ∃ (a : Addr) (xs : List V), v = .ref a ∧ H a = some (.lst xs) ∧ xs.length ≤ 1000 ∧ (∀ x ∈ xs, Simple x) ∧ ∀ H', Same H H' → Q (.bl (xs.all isI)) H')
theorem G_are_wholes (T : Top K mg) : FnOk P w K mg base CX0 2 T.f_are_wholes T.fd_are_wholes ["value"] (sp_are_wholes K) := by
  refine T.F_are_wholes.ok sc_are_wholes (fun vs H Q E h => by obtain ⟨v, rfl, _⟩ := h; rfl) (fun cdv A outer s H vs Q E hr h => ?_)
  obtain ⟨v, rfl, h⟩ := h
  refine ⟨_, PSs.nox (pss_one (ps_ret (pe_and (pe_callB (k_isi K rfl) (by rfl) T.n_isinstance (by decide +kernel) (pa_cons (pv 0) (pa_cons (pe_bltn (v := .ty "list") (by rfl) T.n_list (by decide +kernel) rfl) pa_nil))) (pe_one (pe_cmpR (k_eqD K rfl hr.units) (pe_lc (own := [("item", 1)]) (g := gName 1) (by rfl) sc_are_wholes.nd (k_piL K rfl (pv 0)) (blkOk_by (own := [("item", 1)]) (N := N_are_wholes) (sc := defScope s_are_wholes) (by decide +kernel)) (fun _ _ _ _ _ => (pg_name (i := 1) sc_are_wholes.nd rfl (by first | exact Or.inl rfl | exact Or.inr rfl))) (fun _ _ _ _ _ => (pts_one (pt_not (pt_val (pe_call (G_is_whole (P := P) T) (hr.mono (by decide)) (by rfl) T.g_is_whole T.F_is_whole.kp T.b_is_whole .nil pass0 (pa_cons (pv 1) pa_nil)))))) (fun _ _ _ _ _ => (pv 1))) (pe_lst pa_nil) (nomark _)))))), ?_⟩
  rcases h with ⟨⟨T, ty, hT⟩, q⟩ | ⟨a, xs, rfl, ha, hz, hs, q⟩
  · exact ⟨_, rfl, _, _, _, _, false, rfl, .ty _, ty, kit_ty hT, false, rfl, iteF q⟩
  · refine ⟨_, rfl, _, _, _, _, true, rfl, .ty _, .base (.lst ha), kit_ty (by decide +kernel), true, rfl, iteT ?_⟩
    refine ⟨_, rfl, a, rfl, ⟨_, .inl (.inl ha)⟩, fun D nD => ?_⟩
    refine lc_selL (K := K) (xs := xs) (xs.map fun x => if (!isI x) = true then some x else none) nD (.inl (.inl ha)) (by rw [List.length_map]) (small4 (by omega)) (fun x => rfl) ?_ ?_
    · intro i x o H' hx ho s Qt qt
      rw [List.getElem?_map, hx] at ho
      cases ho
      dsimp only at qt
      rcases hs x (List.mem_of_getElem? hx) with rfl | ⟨b, rfl⟩ | ⟨i, rfl⟩
      · exact ⟨_, rfl, _, rfl, .inr ⟨.inr ⟨_, .base .non, by decide +kernel⟩, _, rfl, iteT ⟨_, rfl, qt _ (Same.refl _)⟩⟩⟩
      · exact ⟨_, rfl, _, rfl, .inr ⟨.inl ⟨b, rfl⟩, _, rfl, iteT ⟨_, rfl, qt _ (Same.refl _)⟩⟩⟩
      · exact ⟨_, rfl, _, rfl, .inl ⟨i, rfl, _, rfl, iteF (qt _ (Same.refl _))⟩⟩
    · intro H1 s1 hD
      obtain ⟨ds, d1, d2, d3, d4⟩ := bad_data xs hs
      have ef : (xs.map fun x => if (!isI x) = true then some x else none).filterMap id = xs.filter fun x => !isI x := by
        clear hD d1 d2 d3 d4 ha hz hs q
        induction xs with
        | nil => rfl
        | cons x r ih =>
          rw [List.map_cons, List.filterMap_cons, List.filter_cons]
          by_cases c : (!isI x) = true
          · rw [if_pos c, if_pos c, ← ih]; rfl
          · rw [if_neg c, if_neg c, ← ih]; rfl
      rw [ef] at hD
      refine ⟨Nat.zero_le _, fun p np => ?_⟩
      have sh : SeqAt.shaped (.list ds) = true := by
        unfold SeqAt.shaped
        rw [PyData.canLay0, d2, PyData.depth, d3]
        rfl
      refine ⟨.list ds, .list [], .lst (.inl (.inl (same_upd np _ _ hD))) d1, .lst (.inl (.inl upd_same)) .nil, sh, rfl, ?_⟩
      have ee : PyData.eqv (.list ds) (.list []) = xs.all isI := by
        rw [Bool.eq_iff_iff, ← d4]
        cases ds with
        | nil => exact ⟨fun _ => rfl, fun _ => rfl⟩
        | cons y r => exact ⟨fun h => (by cases h), fun h => (by cases h)⟩
      rw [ee]
      exact q _ (s1.trans (same_upd np))
def sp_check_depth (K : PySem.W.Frag) (C : Addr) : Sp := fun vs H Q E => ∃ (v : V) (hi : Int) (b : Bool), vs = [v, .int hi] ∧ NumV K H v 1 (some hi) b ∧ (b = true → Q .non H) ∧ (b = false → ∀ d, H d = none → E (.ref C) (some d) (upd H d (.xd [("value", v)])))
theorem G_check_depth (T : Top K mg) : FnOk P w K mg base (L2.CX P w) 3 T.f_check_depth T.fd_check_depth ["depth", "most"] (sp_check_depth K T.C_InvalidDepth) := by
  refine T.F_check_depth.ok (CX := L2.CX P w) sc_check_depth (fun vs H Q E h => by obtain ⟨v, hi, b, rfl, _⟩ := h; rfl) (fun cdv A outer s H vs Q E hr h => ?_)
  obtain ⟨v, hi, b, rfl, hv, q1, q2⟩ := h
  refine ⟨_, (pss_one (ps_if (pt_not (pt_val (pe_call (G_is_between (P := P) T) (hr.mono (by decide)) (by rfl) T.g_is_between T.F_is_between.kp T.b_is_between .nil pass0 (pa_cons (pv 0) (pa_cons pe_int (pa_cons (pv 1) pa_nil))))))
    (pss_one (ps_raise rfl (takes_of rfl rfl rfl rfl) (pmk_oex T.er_InvalidDepth.sup.T T.er_InvalidDepth.ini T.er_InvalidDepth.ity (G_InvalidDepth___init__ (P := P) (CX := CX0) T) (hr.mono (by decide)) T.er_InvalidDepth.bnd .nil pass0 (by rfl) T.gc_InvalidDepth (pa_cons (pv 0) pa_nil))))
    pss_nil)), ?_⟩
  refine ⟨_, rfl, _, rfl, v, 1, some hi, b, rfl, hv, _, rfl, ?_⟩
  cases b with
  | true => exact iteF (q1 rfl)
  | false => exact iteT ⟨_, rfl, mk_sup fun d nd => q2 rfl d nd⟩
theorem all_ints : ∀ ws : List Int, (ws.map V.int).all isI = true
  | [] => rfl
  | w :: r => by rw [List.map_cons, List.all_cons, all_ints r]; rfl
theorem simple_ints (ws : List Int) : ∀ x ∈ ws.map V.int, Simple x := fun x hx => by
  obtain ⟨i, _, rfl⟩ := List.mem_map.mp hx
  exact .inr (.inr ⟨i, rfl⟩)
def sp_check_rule (K : PySem.W.Frag) (C : Addr) : Sp := fun vs H Q E => ∃ v : V, vs = [v] ∧ ((∃ (a : Addr) (ws : List Int), v = .ref a ∧ H a = some (.lst (ws.map V.int)) ∧ GoodR ws ∧ ∀ H', Same H H' → Q .non H') ∨
  (BadR K H v ∧ ∀ H' d, Same H H' → H' d = none → E (.ref C) (some d) (upd H' d (.xd [("value", v)]))))
theorem G_check_rule (T : Top K mg) : FnOk P w K mg base (L2.CX P w) 3 T.f_check_rule T.fd_check_rule ["weights"] (sp_check_rule K T.C_InvalidWeights) := by
  refine T.F_check_rule.ok (CX := L2.CX P w) sc_check_rule (fun vs H Q E h => by obtain ⟨v, rfl, _⟩ := h; rfl) (fun cdv A outer s H vs Q E hr h => ?_)
  obtain ⟨v, rfl, h⟩ := h
  refine ⟨_, (pss_cons (ps_if (PW.pt (pw_or (pt_not (pt_val (pe_call (G_are_wholes (P := P) T) (hr.mono (by decide)) (by rfl) T.g_are_wholes T.F_are_wholes.kp T.b_are_wholes .nil pass0 (pa_cons (pv 0) pa_nil)))) (pw_or1 (pt_cmpR op_gt (pe_callB (k_len K rfl) (by rfl) T.n_len (by decide +kernel) (pa_cons (pv 0) pa_nil)) (pe_glob (v := .int 8) rfl T.m_MOST_WEIGHTS ⟨_, rfl⟩) (nomark _)))))
    (pss_one (ps_raise rfl (takes_of rfl rfl rfl rfl) (pmk_oex T.er_InvalidWeights.sup.T T.er_InvalidWeights.ini T.er_InvalidWeights.ity (G_InvalidWeights___init__ (P := P) (CX := CX0) T) (hr.mono (by decide)) T.er_InvalidWeights.bnd .nil pass0 (by rfl) T.gc_InvalidWeights (pa_cons (pv 0) pa_nil))))
    pss_nil)
  (pss_one (ps_if (pt_cmpR (k_neD K rfl hr.units) (pe_lc (own := [("weight", 1)]) (g := gName 1) (by rfl) sc_check_rule.nd (k_piL K rfl (pv 0)) (blkOk_by (own := [("weight", 1)]) (N := N_check_rule) (sc := defScope s_check_rule) (by decide +kernel)) (fun _ _ _ _ _ => (pg_name (i := 1) sc_check_rule.nd rfl (by first | exact Or.inl rfl | exact Or.inr rfl))) (fun _ _ _ _ _ => (pts_one (pt_cmpR op_gt (pe_callB call_abs (by rfl) T.n_abs (by decide +kernel) (pa_cons (pv 1) pa_nil)) (pe_glob (v := .int 32768) rfl T.m_MOST_WEIGHT ⟨_, rfl⟩) (nomark _)))) (fun _ _ _ _ _ => (pv 1))) (pe_lst pa_nil) (nomark _))
    (pss_one (ps_raise rfl (takes_of rfl rfl rfl rfl) (pmk_oex T.er_InvalidWeights.sup.T T.er_InvalidWeights.ini T.er_InvalidWeights.ity (G_InvalidWeights___init__ (P := P) (CX := CX0) T) (hr.mono (by decide)) T.er_InvalidWeights.bnd .nil pass0 (by rfl) T.gc_InvalidWeights (pa_cons (pv 0) pa_nil))))
    pss_nil))), ?_⟩
  rcases h with ⟨a, ws, rfl, ha, ⟨g1, g2⟩, q⟩ | ⟨hv | ⟨a, xs, rfl, ha, hz, hs, hb⟩, q⟩
  · refine ⟨_, rfl, _, rfl, .inr ⟨a, _, rfl, ha, by rw [List.length_map]; omega, simple_ints ws, fun H1 s1 => ?_⟩⟩
    rw [all_ints]
    refine ⟨_, rfl, iteF ?_⟩
    refine ⟨_, rfl, a, _, rfl, .inl (.inl (.inl (s1 _ _ ha))), _, _, rfl, rfl, _, rfl, iteDF (by rw [List.length_map]; omega) ?_⟩
    refine ⟨_, rfl, a, rfl, ⟨_, .inl (.inl (s1 _ _ ha))⟩, fun D nD => ?_⟩
    refine lc_selL (K := K) (xs := ws.map V.int) (ws.map fun _ => none) nD (.inl (.inl (s1 _ _ ha))) (by rw [List.length_map, List.length_map]) (by rw [List.length_map]; exact small4 (by omega)) (fun x => rfl) ?_ ?_
    · intro i x o H' hx ho s Qt qt
      obtain ⟨w, hw, rfl⟩ := int_at hx
      rw [List.getElem?_map, hw] at ho
      cases ho
      have := g2 w (List.mem_of_getElem? hw)
      refine ⟨_, rfl, _, rfl, _, _, rfl, rfl, _, rfl, iteDF ?_ (qt _ (Same.refl _))⟩
      split <;> omega
    · intro H2 s2 hD
      rw [fm_noneN] at hD
      refine ⟨Nat.zero_le _, fun p np => ?_⟩
      refine ne_lst (ns := []) (.inl (.inl (same_upd np _ _ hD))) (.inl (.inl upd_same)) ⟨_, rfl, iteF ?_⟩
      exact q _ ((s1.trans s2).trans (same_upd np))
  · refine ⟨_, rfl, v, rfl, .inl ⟨hv, ⟨_, rfl, iteT ?_⟩⟩⟩
    exact iteT ⟨_, rfl, mk_sup fun d nd => q _ d (Same.refl _) nd⟩
  · refine ⟨_, rfl, _, rfl, .inr ⟨a, xs, rfl, ha, hz, hs, fun H1 s1 => ?_⟩⟩
    rcases hb with hb | ⟨ws, rfl, hb⟩
    · rw [hb]
      refine ⟨_, rfl, iteT ?_⟩
      exact iteT ⟨_, rfl, mk_sup fun d nd => q _ d s1 nd⟩
    · rw [all_ints]
      rw [List.length_map] at hz
      refine ⟨_, rfl, iteF ?_⟩
      refine ⟨_, rfl, a, _, rfl, .inl (.inl (.inl (s1 _ _ ha))), _, _, rfl, rfl, _, rfl, ?_⟩
      by_cases h8 : 8 < ws.length
      · refine iteDT (by rw [List.length_map]; omega) ?_
        exact ⟨_, rfl, mk_sup fun d nd => q _ d s1 nd⟩
      · refine iteDF (by rw [List.length_map]; omega) ?_
        obtain ⟨w0, hw0, hbig⟩ := hb.resolve_left h8
        refine ⟨_, rfl, a, rfl, ⟨_, .inl (.inl (s1 _ _ ha))⟩, fun D nD => ?_⟩
        refine lc_selL (K := K) (xs := ws.map V.int) (ws.map fun w => if decide (32768 < w.natAbs) = true then some (V.int w) else none) nD (.inl (.inl (s1 _ _ ha))) (by rw [List.length_map, List.length_map]) (by rw [List.length_map]; exact small4 (by omega)) (fun x => rfl) ?_ ?_
        · intro i x o H' hx ho s Qt qt
          obtain ⟨w, hw, rfl⟩ := int_at hx
          rw [List.getElem?_map, hw] at ho
          cases ho
          dsimp only at qt
          refine ⟨_, rfl, _, rfl, _, _, rfl, rfl, _, rfl, ?_⟩
          by_cases c : 32768 < w.natAbs
          · rw [if_pos (decide_eq_true c)] at qt
            refine iteDT ?_ ⟨_, rfl, qt _ (Same.refl _)⟩
            split <;> omega
          · rw [if_neg (by rw [decide_eq_false c]; decide)] at qt
            refine iteDF ?_ (qt _ (Same.refl _))
            split <;> omega
        · intro H2 s2 hD
          have ef : (ws.map fun w => if decide (32768 < w.natAbs) = true then some (V.int w) else none).filterMap id = (ws.filter fun w => decide (32768 < w.natAbs)).map V.int := by
            clear hD hw0 hbig hb ha hs h8 hz
            induction ws with
            | nil => rfl
            | cons x r ih =>
              rw [List.map_cons, List.filterMap_cons, List.filter_cons]
              by_cases c : decide (32768 < x.natAbs) = true
              · rw [if_pos c, if_pos c, List.map_cons, ← ih]; rfl
              · rw [if_neg c, if_neg c, ← ih]; rfl
          rw [ef] at hD
          refine ⟨Nat.zero_le _, fun p np => ?_⟩
          refine neD_lst (ns := ws.filter fun w => decide (32768 < w.natAbs)) (ms := []) (.inl (.inl (same_upd np _ _ hD))) (.inl (.inl upd_same)) ⟨_, rfl, ?_⟩
          rw [decide_eq_false (fun e => by
            have : w0 ∈ ws.filter fun w => decide (32768 < w.natAbs) := List.mem_filter.mpr ⟨hw0, decide_eq_true hbig⟩
            rw [e] at this
            cases this)]
          exact iteT ⟨_, rfl, mk_sup fun d nd => q _ d ((s1.trans s2).trans (same_upd np)) nd⟩
end
end My

namespace My
open PySem PySem.Spec PyProof.Rows L2 Pre
/-! ### rules led, in a program -/
/-- a row of whole numbers told by a function -/
def rowZ (n : Nat) (f : Nat → Int) : List V := (List.range n).map fun p => V.int (f p)
theorem rowZ_len (n : Nat) (f : Nat → Int) : (rowZ n f).length = n := by unfold rowZ; rw [List.length_map, List.length_range]
theorem rowZ_get {n : Nat} (f : Nat → Int) {i : Nat} (h : i < n) : (rowZ n f)[i]? = some (.int (f i)) := by
  unfold rowZ
  rw [List.getElem?_map, List.getElem?_range h]
  rfl
theorem rowZ_ext {n : Nat} {f : Nat → Int} {xs : List V} (hl : xs.length = n) (h : ∀ i, i < n → xs[i]? = some (.int (f i))) : xs = rowZ n f := by
  refine List.ext_getElem? fun i => ?_
  by_cases hi : i < n
  · rw [h i hi, rowZ_get f hi]
  · rw [List.getElem?_eq_none (by omega), List.getElem?_eq_none (by rw [rowZ_len]; omega)]
theorem rowZ_congr {n : Nat} {f g : Nat → Int} (e : ∀ i, i < n → f i = g i) : rowZ n f = rowZ n g := rowZ_ext (rowZ_len n f) fun i hi => by rw [rowZ_get f hi, e i hi]
theorem rowZ_ints (n : Nat) (f : Nat → Int) : rowZ n f = ((List.range n).map f).map V.int := by
  unfold rowZ
  rw [List.map_map]
  rfl
theorem ints_rowZ (ws : List Int) : ws.map V.int = rowZ ws.length fun p => ws.getD p 0 := rowZ_ext (List.length_map _) fun i hi => by
  rw [List.getElem?_map, List.getD_eq_getElem?_getD, List.getElem?_eq_getElem hi]
  rfl
theorem rowZ_set {n s : Nat} {v : Int} {f g : Nat → Int} (hs : s < n) (e1 : g s = v) (e2 : ∀ i, i ≠ s → f i = g i) : (rowZ n f).set s (.int v) = rowZ n g := by
  refine rowZ_ext (by rw [List.length_set, rowZ_len]) fun i hi => ?_
  rw [List.getElem?_set]
  by_cases c : s = i
  · subst c
    rw [if_pos rfl, if_pos (by rw [rowZ_len]; exact hs), e1]
  · rw [if_neg c, rowZ_get f hi, e2 i fun h => c h.symm]
theorem rowZ_take {n k : Nat} (h : k ≤ n) (f : Nat → Int) : (rowZ n f).take k = rowZ k f := rowZ_ext (by rw [List.length_take, rowZ_len]; omega) fun i hi => by rw [List.getElem?_take, if_pos hi, rowZ_get f (by omega)]
theorem rep_int (k : Nat) (x : Int) : (List.replicate k [V.int x]).flatten = (List.replicate k x).map V.int := by
  induction k with
  | zero => rfl
  | succ k ih => rw [List.replicate_succ, List.flatten_cons, ih, List.replicate_succ]; rfl
/-- powers padded -/
theorem pad_row (N : Int) (w q : List Int) : (q.map fun x => V.int (x % N)) ++ (List.replicate (w.length - q.length) (0 : Int)).map V.int = rowZ (lenP w q) (iniP N q) := by
  refine rowZ_ext (by rw [List.length_append, List.length_map, List.length_map, List.length_replicate]; unfold lenP; omega) fun i hi => ?_
  unfold iniP
  by_cases c : i < q.length
  · rw [List.getElem?_append_left (by rw [List.length_map]; exact c), List.getElem?_map, List.getD_eq_getElem?_getD, List.getElem?_eq_getElem c]
    rfl
  · rw [List.getElem?_append_right (by rw [List.length_map]; omega), List.length_map, List.getElem?_map, List.getElem?_replicate, if_pos (by unfold lenP at hi; omega), List.getD_eq_getElem?_getD, List.getElem?_eq_none (l := q) (by omega)]
    show some (V.int 0) = some (V.int ((0 : Int) % N))
    rw [Int.zero_emod]
/-- the last one alone -/
def aloL (m : Nat) : List Int := List.replicate (m - 1) 0 ++ List.replicate (min m 1) (-1)
/-- the last power that is not nought -/
def topsL (m : Nat) (f : Nat → Int) : List Nat := (List.range m).filter fun p => decide (f p ≠ 0)
/-- what leads_all tells: the place, or nothing -/
def placeO (N : Int) (w u : List Int) : Option Nat := (topsL w.length (redP N w (asP u))).getLast?.map fun t => u.length + w.length - 1 - t
theorem updW_step {N : Int} {w : List Int} {f : Nat → Int} {top k : Nat} (h : k < w.length) (ht : w.length ≤ top) (p : Nat) : updW N w f top (k + 1) p = if p = top - 1 - k then (updW N w f top k p + f top * w.getD k 0) % N else updW N w f top k p := by
  unfold updW
  by_cases e : p = top - 1 - k
  · rw [if_pos e, if_pos ⟨by omega, by omega⟩, if_neg (by omega), show top - 1 - p = k by omega]
  · rw [if_neg e]
    by_cases c : p < top ∧ top - 1 - p < k
    · rw [if_pos ⟨c.1, by omega⟩, if_pos c]
    · rw [if_neg (by omega), if_neg c]
theorem updW_top {N : Int} {w : List Int} {f : Nat → Int} {top k : Nat} : updW N w f top k top = f top := by
  unfold updW
  rw [if_neg (by omega)]
theorem updW_nil {N : Int} {w : List Int} {f : Nat → Int} {top : Nat} (p : Nat) : updW N w f top 0 p = f p := by
  unfold updW
  rw [if_neg (by omega)]
theorem pow_le_pow2 {d : Nat} (h : d ≤ 24) : (2 : Int) ^ d ≤ 2 ^ 24 := by
  have := Nat.pow_le_pow_right (show 0 < 2 by decide) h
  have e : (((2 ^ d : Nat)) : Int) ≤ ((2 ^ 24 : Nat) : Int) := Int.ofNat_le.mpr this
  rw [Int.natCast_pow, Int.natCast_pow] at e
  exact e
local macro_rules | `(tactic| walk_at "go") => `(tactic| repeat (first | (with_reducible first | refine iteT ?_ | refine iteF ?_ | refine iteNtt ?_ | refine iteNff ?_ | refine iteET (by omega) ?_ | refine iteEF (by omega) ?_ | refine iteENT (by omega) ?_ | refine iteENF (by omega) ?_ | refine iteDT (by omega) ?_ | refine iteDF (by omega) ?_ | refine iteNT (by omega) ?_ | refine iteNF (by omega) ?_) | refine ⟨_, rfl, ?_⟩ | refine ⟨_, _, rfl, rfl, ?_⟩ | refine ⟨_, _, rfl, ?_⟩ | refine ⟨rfl, ?_⟩ | refine .inl ⟨_, rfl, ?_⟩ | refine .inr ⟨_, rfl, ?_⟩))
local macro_rules | `(tactic| walk_at "b") => `(tactic| try dsimp (config := { proj := false, iota := false, eta := false, zeta := false }) only)
section
variable {P : Program} {w : World} {K : PySem.W.Frag} {mg : Str → Option Value} {base : Heap} [pf : Sup.PF P fileS]
def sp_reduced (K : PySem.W.Frag) : Sp := fun vs H Q _ => ∃ (a b : Addr) (ws q : List Int) (N : Int), vs = [.ref a, .ref b, .int N] ∧ H a = some (.lst (ws.map V.int)) ∧ H b = some (.lst (q.map V.int)) ∧ GoodR ws ∧ q.length ≤ 9 ∧ 0 < N ∧ N ≤ 2 ^ 24 ∧ ∀ H' p, Same H H' → H' p = some (.lst (rowZ ws.length (redP N ws q))) → Q (.ref p) H'
theorem G_reduced (T : Top K mg) : FnOk P w K mg base CX0 1 T.f_reduced T.fd_reduced ["weights", "powers", "size"] (sp_reduced K) := by
  refine T.F_reduced.ok sc_reduced (fun vs H Q E h => by obtain ⟨a, b, ws, qs, N, rfl, _⟩ := h; rfl) (fun cdv A outer s H vs Q E hr h => ?_)
  obtain ⟨a, b, ws, qs, N, rfl, ha, hb, ⟨g1, g2⟩, hq, hN, hN2, q⟩ := h
  refine ⟨_, PSs.nox (pss_cons (ps_set (i := 3) sc_reduced.nd rfl (by first | exact Or.inl rfl | exact Or.inr rfl) (pe_callB (k_len K rfl) (by rfl) T.n_len (by decide +kernel) (pa_cons (pv 0) pa_nil)))
  (pss_cons (ps_set (i := 4) sc_reduced.nd rfl (by first | exact Or.inl rfl | exact Or.inr rfl) (pe_op op_cat (pe_lc (own := [("number", 9)]) (g := gName 9) (tt := tYes) (by rfl) sc_reduced.nd (k_piL K rfl (pv 1)) (blkOk_by (own := [("number", 9)]) (N := N_reduced) (sc := defScope s_reduced) (by decide +kernel)) (fun _ _ _ _ _ => (pg_name (i := 9) sc_reduced.nd rfl (by first | exact Or.inl rfl | exact Or.inr rfl))) (fun _ _ _ _ _ => pts_nil) (fun _ _ _ _ _ => (pe_op op_mod (pv 9) (pv 2)))) (pe_op op_rep (pe_lst (pa_cons pe_int pa_nil)) (pe_op op_sub (pv 3) (pe_callB (k_len K rfl) (by rfl) T.n_len (by decide +kernel) (pa_cons (pv 1) pa_nil))))))
  (pss_cons (ps_for PassesOwn.never rfl (pi_range3 (by rfl) T.n_range (pa_cons (pe_op op_sub (pe_callB (k_len K rfl) (by rfl) T.n_len (by decide +kernel) (pa_cons (pv 4) pa_nil)) pe_int) (pa_cons (pe_op op_sub (pv 3) pe_int) (pa_cons (pe_un un_neg pe_int) pa_nil)))) (pg_name (i := 5) sc_reduced.nd rfl (by first | exact Or.inl rfl | exact Or.inr rfl))
    (pss_cons (ps_set (i := 6) sc_reduced.nd rfl (by first | exact Or.inl rfl | exact Or.inr rfl) (pe_ix (k_ixL K rfl) (pv 4) (pv 5) (fun _ _ => rfl)))
  (pss_one (ps_for PassesOwn.never rfl (k_piE K rfl (by rfl) T.n_enumerate (pa_cons (pv 0) pa_nil)) (k_pgT K rfl (by rfl) (pgs_cons (pg_name (i := 7) sc_reduced.nd rfl (by first | exact Or.inl rfl | exact Or.inr rfl)) (pgs_cons (pg_name (i := 8) sc_reduced.nd rfl (by first | exact Or.inl rfl | exact Or.inr rfl)) pgs_nil)))
    (pss_one (ps_asg (pe_op op_mod (pe_op op_add (pe_ix (k_ixL K rfl) (pv 4) (pe_op op_sub (pe_op op_sub (pv 5) pe_int) (pv 7)) (fun _ _ => rfl)) (pe_op op_mul (pv 6) (pv 8))) (pv 2)) (pg_sub (pv 4) (pe_op op_sub (pe_op op_sub (pv 5) pe_int) (pv 7)) set_list)))))))
  (pss_one (ps_ret (pe_slice (k_slL K rfl) (pv 4) po_none (po_some (pv 3)))))))), ?_⟩
  refine ⟨_, rfl, a, _, rfl, .inl (.inl (.inl ha)), ?_⟩
  rw [List.length_map]
  refine ⟨_, rfl, b, rfl, ⟨_, .inl (.inl hb)⟩, fun D nD => ?_⟩
  refine lc_mapL (K := K) (xs := qs.map V.int) (qs.map fun x => V.int (x % N)) nD (.inl (.inl hb)) (by rw [List.length_map, List.length_map]) (by rw [List.length_map]; exact small4 (by omega)) (fun x => rfl) ?_ ?_
  · intro i x y H' hx hy s Qt qt
    obtain ⟨n, hn, rfl⟩ := int_at hx
    rw [List.getElem?_map, hn] at hy
    cases hy
    exact ⟨_, rfl, _, rfl, _, _, rfl, rfl, hN, qt _ (Same.refl _)⟩
  · intro H1 s1 hD
    refine ⟨(by show 1 ≤ sizeLine; decide), fun p1 np1 => ?_⟩
    obtain ⟨H2, e2, s2, hp1⟩ := fresh (.lst [V.int 0]) np1
    rw [e2]
    refine ⟨_, rfl, _, rfl, b, _, rfl, .inl (.inl (.inl (s2 _ _ (s1 _ _ hb)))), _, _, rfl, rfl, ?_⟩
    dsimp only
    rw [List.length_map]
    refine ⟨p1, _, _, rfl, rfl, hp1, by omega, by omega, by rw [sizeLine_eq]; show 1 * _ ≤ _; omega, fun p2 np2 => ?_⟩
    rw [show (((ws.length : Nat) : Int) - ((qs.length : Nat) : Int)).toNat = ws.length - qs.length by omega, rep_int]
    obtain ⟨H3, e3, s3, hp2⟩ := fresh (.lst ((List.replicate (ws.length - qs.length) (0 : Int)).map V.int)) np2
    rw [e3]
    refine ⟨D, p2, _, _, rfl, rfl, s3 _ _ (s2 _ _ hD), hp2, by rw [List.length_map, List.length_map, List.length_replicate, sizeLine_eq]; omega, fun p3 np3 => ?_⟩
    rw [pad_row]
    have hL : lenP ws qs ≤ 9 := by unfold lenP; omega
    have hLw : ws.length ≤ lenP ws qs := by unfold lenP; omega
    obtain ⟨H4, e4, s4, hp3⟩ := fresh (.lst (rowZ (lenP ws qs) (iniP N qs))) np3
    rw [e4]
    have s04 := ((s1.trans s2).trans s3).trans s4
    have np3H : H p3 = none := ((s1.trans s2).trans s3).free np3
    have ha4 := s04 _ _ ha
    refine ⟨_, rfl, p3, _, rfl, .inl (.inl (.inl hp3)), _, _, rfl, rfl, _, rfl, _, _, rfl, rfl, _, rfl, ?_⟩
    refine ⟨_, _, _, _, rfl, RgC.neg (by rw [rowZ_len]; omega) (by rw [rowZ_len]; omega) (by omega) (by omega), ?_⟩
    walk_at "b"
    rw [rowZ_len, show (((lenP ws qs : Nat) : Int) - 1 - (((ws.length : Nat) : Int) - 1)).toNat = lenP ws qs - ws.length by omega]
    refine for_rangeC (lo := ((lenP ws qs : Nat) : Int) - 1) (c := -1) (n := lenP ws qs - ws.length) (fun t σ H5 => ∃ v5 v6 v7 v8 : Option V, σ = [some (.ref a), some (.ref b), some (.int N), some (.int (ws.length : Nat)), some (.ref p3), v5, v6, v7, v8, none] ∧ Same H H5 ∧ H5 p3 = some (.lst (rowZ (lenP ws qs) (ledN N ws (iniP N qs) (lenP ws qs) t)))) ⟨none, none, none, none, rfl, s04, hp3⟩ ?_ ?_
    · rintro t σ H5 ht ⟨v5, v6, v7, v8, rfl, s5, hp5⟩
      rw [show (((lenP ws qs : Nat) : Int) - 1 + (t : Nat) * (-1)) = ((lenP ws qs - 1 - t : Nat) : Int) by omega]
      have hled : ledN N ws (iniP N qs) (lenP ws qs) (t + 1) = updW N ws (ledN N ws (iniP N qs) (lenP ws qs) t) (lenP ws qs - 1 - t) ws.length := rfl
      rw [hled]
      have htop : ws.length ≤ lenP ws qs - 1 - t := by omega
      have htl : lenP ws qs - 1 - t < lenP ws qs := by omega
      generalize ledN N ws (iniP N qs) (lenP ws qs) t = f at *
      generalize lenP ws qs - 1 - t = top at *
      generalize lenP ws qs = L at *
      refine ⟨_, rfl, _, rfl, p3, _, _, _, rfl, rfl, .inl (.inl hp5), atI_nat (rowZ_get f htl), ?_⟩
      refine ⟨_, rfl, a, _, rfl, .inl (.inl (s5 _ _ ha)), ?_⟩
      refine for_it (walk_enum (K := K) (a := a) (xs := ws.map V.int)) (fun k σ H6 => ∃ v7 v8 : Option V, σ = [some (.ref a), some (.ref b), some (.int N), some (.int (ws.length : Nat)), some (.ref p3), some (.int (top : Nat)), some (.int (f top)), v7, v8, none] ∧ Same H H6 ∧ H6 p3 = some (.lst (rowZ L (updW N ws f top k)))) ⟨v7, v8, rfl, s5, by rw [hp5, rowZ_congr fun i _ => (updW_nil i).symm]⟩ (fun k σ H6 _ ⟨_, _, _, s6, _⟩ => .inl (.inl (s6 _ _ ha))) ?_ ?_
      · rintro k x σ H6 H7 hk ⟨v7, v8, rfl, s6, hp6⟩ ⟨T1, x1, y1, rfl, nT, rfl, ex, ey⟩
        dsimp only at ex ey
        cases ex
        obtain ⟨wk, hwk, rfl⟩ := int_at ey
        have hk' : k < ws.length := by rw [List.length_map] at hk; exact hk
        have ewk : ws.getD k 0 = wk := by rw [List.getD_eq_getElem?_getD, hwk]; rfl
        refine ⟨T1, _, rfl, .inl (.inl upd_same), rfl, _, _, rfl, _, _, rfl, rfl, ?_⟩
        have sT := same_upd (o := .tup [V.int (k : Int), V.int wk]) nT
        have hp7 := sT _ _ hp6
        generalize upd H6 T1 (.tup [V.int (k : Int), V.int wk]) = H7 at *
        have eix : ((top : Int) - 1 - (k : Int)) = ((top - 1 - k : Nat) : Int) := by omega
        have hix : top - 1 - k < L := by omega
        have hw := g2 wk (List.mem_of_getElem? hwk)
        refine ⟨_, rfl, _, rfl, _, _, rfl, rfl, _, rfl, _, _, rfl, rfl, p3, _, _, _, rfl, rfl, .inl (.inl hp7), by rw [eix]; exact atI_nat (rowZ_get _ hix), ?_⟩
        refine ⟨_, rfl, _, rfl, _, _, rfl, rfl, .inr ⟨by omega, by omega⟩, _, _, rfl, rfl, _, rfl, _, _, rfl, rfl, hN, ?_⟩
        refine ⟨_, rfl, _, rfl, _, _, rfl, rfl, _, rfl, _, _, rfl, rfl, p3, _, _, top - 1 - k, rfl, rfl, hp7, ?_, ?_⟩
        · rw [eix]
          unfold ixN
          rw [if_pos (by omega), if_pos (by rw [rowZ_len]; omega)]
          rfl
        · refine ⟨_, _, rfl, same_over np3H (s6.trans sT), ?_⟩
          rw [upd_same]
          dsimp only
          rw [rowZ_set (g := updW N ws f top (k + 1)) hix (by rw [updW_step hk' htop, if_pos rfl, ewk]) fun i hi => by rw [updW_step hk' htop, if_neg hi]]
      · rintro σ H6 ⟨v7, v8, rfl, s6, hp6⟩
        rw [List.length_map] at hp6
        exact ⟨_, _, _, _, rfl, s6, hp6⟩
    · rintro σ H5 ⟨v5, v6, v7, v8, rfl, s5, hp5⟩
      refine ⟨_, rfl, _, rfl, _, rfl, p3, _, rfl, .inl (.inl hp5), fun p np => ?_⟩
      refine q _ p (s5.trans (same_upd np)) ?_
      rw [upd_same, cut_take, rowZ_take hLw]
      rfl
def sp_last_alone (K : PySem.W.Frag) : Sp := fun vs H Q _ => ∃ (a : Addr) (ws : List Int), vs = [.ref a] ∧ H a = some (.lst (ws.map V.int)) ∧ ws.length ≤ 8 ∧ ∀ H' p, Same H H' → H p = none → H' p = some (.lst ((aloL ws.length).map V.int)) → Q (.ref p) H'
theorem G_last_alone (T : Top K mg) : FnOk P w K mg base CX0 1 T.f_last_alone T.fd_last_alone ["weights"] (sp_last_alone K) := by
  refine T.F_last_alone.ok sc_last_alone (fun vs H Q E h => by obtain ⟨a, ws, rfl, _⟩ := h; rfl) (fun cdv A outer s H vs Q E hr h => ?_)
  obtain ⟨a, ws, rfl, ha, g1, q⟩ := h
  refine ⟨_, PSs.nox (pss_one (ps_ret (pe_op op_cat (pe_op op_rep (pe_lst (pa_cons pe_int pa_nil)) (pe_op op_sub (pe_callB (k_len K rfl) (by rfl) T.n_len (by decide +kernel) (pa_cons (pv 0) pa_nil)) pe_int)) (pe_op op_rep (pe_lst (pa_cons (pe_un un_neg pe_int) pa_nil)) (pe_callB (call_min2 rfl) (by rfl) T.n_min (by decide +kernel) (pa_cons (pe_callB (k_len K rfl) (by rfl) T.n_len (by decide +kernel) (pa_cons (pv 0) pa_nil)) (pa_cons pe_int pa_nil))))))), ?_⟩
  refine ⟨(by show 1 ≤ sizeLine; decide), fun p1 np1 => ?_⟩
  obtain ⟨H1, e1, s1, hp1⟩ := fresh (.lst [V.int 0]) np1
  rw [e1]
  refine ⟨_, rfl, a, _, rfl, .inl (.inl (.inl (s1 _ _ ha))), _, _, rfl, rfl, ?_⟩
  dsimp only
  rw [List.length_map]
  refine ⟨p1, _, _, rfl, rfl, hp1, by omega, by omega, by rw [sizeLine_eq]; show 1 * _ ≤ _; omega, fun p2 np2 => ?_⟩
  rw [show (((ws.length : Nat) : Int) - 1).toNat = ws.length - 1 by omega, rep_int]
  obtain ⟨H2, e2, s2, hp2⟩ := fresh (.lst ((List.replicate (ws.length - 1) (0 : Int)).map V.int)) np2
  rw [e2]
  refine ⟨_, rfl, (by show 1 ≤ sizeLine; decide), fun p3 np3 => ?_⟩
  obtain ⟨H3, e3, s3, hp3⟩ := fresh (.lst [V.int (-1)]) np3
  rw [e3]
  refine ⟨_, rfl, a, _, rfl, .inl (.inl (.inl (s3 _ _ (s2 _ _ (s1 _ _ ha))))), ?_⟩
  refine ⟨_, _, rfl, ?_⟩
  rw [List.length_map, show (if (1 : Int) < ((ws.length : Nat) : Int) then (1 : Int) else ((ws.length : Nat) : Int)) = ((min ws.length 1 : Nat) : Int) by split <;> omega]
  refine ⟨p3, _, _, rfl, rfl, hp3, by omega, by omega, by rw [sizeLine_eq]; show 1 * _ ≤ _; omega, fun p4 np4 => ?_⟩
  rw [Int.toNat_natCast, rep_int]
  obtain ⟨H4, e4, s4, hp4⟩ := fresh (.lst ((List.replicate (min ws.length 1) (-1 : Int)).map V.int)) np4
  rw [e4]
  refine ⟨p2, p4, _, _, rfl, rfl, s4 _ _ (s3 _ _ hp2), hp4, by rw [List.length_map, List.length_map, List.length_replicate, List.length_replicate, sizeLine_eq]; omega, fun p5 np5 => ?_⟩
  have s04 := ((s1.trans s2).trans s3).trans s4
  refine q _ p5 (s04.trans (same_upd np5)) (s04.free np5) ?_
  rw [upd_same, ← List.map_append]
  rfl
def sp_leads_all (K : PySem.W.Frag) (C B : Addr) : Sp := fun vs H Q E => ∃ v u x : V, vs = [v, u, x] ∧
  ((∃ d : Nat, v = .int d ∧ 1 ≤ d ∧ d ≤ 24 ∧
    ((∃ (a : Addr) (ws : List Int), u = .ref a ∧ H a = some (.lst (ws.map V.int)) ∧ GoodR ws ∧
      ((∃ (b : Addr) (us : List Int), x = .ref b ∧ H b = some (.lst (us.map V.int)) ∧ GoodR us ∧ ∀ H', Same H H' → (placeO (2 ^ d) ws us = none → Q .non H') ∧
          (∀ k t p, placeO (2 ^ d) ws us = some k → H t = none → H p = none → H' t = some (.tup [.ref p, .int k]) → H' p = some (.lst ((aloL ws.length).map V.int)) → Q (.ref t) H')) ∨
        (BadR K H x ∧ ∀ H' d, Same H H' → H' d = none → E (.ref B) (some d) (upd H' d (.xd [("value", x)]))))) ∨
      (BadR K H u ∧ ∀ H' d, Same H H' → H' d = none → E (.ref B) (some d) (upd H' d (.xd [("value", u)]))))) ∨
   (NumV K H v 1 (some 24) false ∧ ∀ H' d, Same H H' → H' d = none → E (.ref C) (some d) (upd H' d (.xd [("value", v)]))))
theorem G_leads_all (T : Top K mg) : FnOk P w K mg base (L2.CX P w) 4 T.f_leads_all T.fd_leads_all ["depth", "one", "other"] (sp_leads_all K T.C_InvalidDepth T.C_InvalidWeights) := by
  refine T.F_leads_all.ok (CX := L2.CX P w) sc_leads_all (fun vs H Q E h => by obtain ⟨v, u, x, rfl, _⟩ := h; rfl) (fun cdv A outer s H vs Q E hr h => ?_)
  obtain ⟨v, u, x, rfl, h⟩ := h
  refine ⟨_, (pss_cons (ps_expr (pe_call (G_check_depth (P := P) T) (hr.mono (by decide)) (by rfl) T.g_check_depth T.F_check_depth.kp T.b0_check_depth T.v0_check_depth (passes_call (takes_of rfl rfl rfl rfl) (fun _ _ _ _ h => h)) (pa_cons (pv 0) pa_nil)))
  (pss_cons (ps_expr (pe_call (G_check_rule (P := P) T) (hr.mono (by decide)) (by rfl) T.g_check_rule T.F_check_rule.kp T.b_check_rule .nil (passes_call (takes_of rfl rfl rfl rfl) (fun _ _ _ _ h => h)) (pa_cons (pv 1) pa_nil)))
  (pss_cons (ps_expr (pe_call (G_check_rule (P := P) T) (hr.mono (by decide)) (by rfl) T.g_check_rule T.F_check_rule.kp T.b_check_rule .nil (passes_call (takes_of rfl rfl rfl rfl) (fun _ _ _ _ h => h)) (pa_cons (pv 2) pa_nil)))
  (pss_cons (ps_set (i := 3) sc_leads_all.nd rfl (by first | exact Or.inl rfl | exact Or.inr rfl) (pe_call (G_reduced (P := P) T) (hr.mono (by decide)) (by rfl) T.g_reduced T.F_reduced.kp T.b_reduced .nil pass0 (pa_cons (pv 1) (pa_cons (pe_op op_cat (pe_lc (own := [("weight", 7)]) (g := gName 7) (tt := tYes) (by rfl) sc_leads_all.nd (k_piL K rfl (pe_revL (pv 2))) (blkOk_by (own := [("weight", 7)]) (N := N_leads_all) (sc := defScope s_leads_all) (by decide +kernel)) (fun _ _ _ _ _ => (pg_name (i := 7) sc_leads_all.nd rfl (by first | exact Or.inl rfl | exact Or.inr rfl))) (fun _ _ _ _ _ => pts_nil) (fun _ _ _ _ _ => (pe_un un_neg (pv 7)))) (pe_lst (pa_cons pe_int pa_nil))) (pa_cons (pe_op op_shl pe_int (pv 0)) pa_nil)))))
  (pss_cons (ps_setLc (i := 4) (own := [("spot", 5), ("number", 6)]) (g := gTup K 2 (gCons (gName 5) (gCons (gName 6) (gNil)))) (by rfl) sc_leads_all.nd rfl rfl (sw_true rfl rfl rfl (by decide +kernel)) (k_piE K rfl (by rfl) T.n_enumerate (pa_cons (pv 3) pa_nil)) (blkOk_by (own := [("spot", 5), ("number", 6)]) (N := N_leads_all) (sc := defScope s_leads_all) (by decide +kernel)) (fun _ _ _ _ _ => (k_pgT K rfl (by rfl) (pgs_cons (pg_name (i := 5) sc_leads_all.nd rfl (by first | exact Or.inl rfl | exact Or.inr rfl)) (pgs_cons (pg_name (i := 6) sc_leads_all.nd rfl (by first | exact Or.inl rfl | exact Or.inr rfl)) pgs_nil)))) (fun _ _ _ _ _ => (pts_one (pt_cmpR op_ne (pv 6) pe_int (nomark _)))) (fun _ _ _ _ _ => (pv 5)))
  (pss_cons (ps_if (pt_cmpR (k_eqD K rfl hr.units) (pv 4) (pe_lst pa_nil) (nomark _))
    (pss_one (ps_ret pe_non))
    pss_nil)
  (pss_one (ps_ret (pe_tup (pa_cons (pe_call (G_last_alone (P := P) T) (hr.mono (by decide)) (by rfl) T.g_last_alone T.F_last_alone.kp T.b_last_alone .nil pass0 (pa_cons (pv 1) pa_nil)) (pa_cons (pe_op op_sub (pe_op op_sub (pe_op op_add (pe_callB (k_len K rfl) (by rfl) T.n_len (by decide +kernel) (pa_cons (pv 2) pa_nil)) (pe_callB (k_len K rfl) (by rfl) T.n_len (by decide +kernel) (pa_cons (pv 1) pa_nil))) pe_int) (pe_ix (k_ixL K rfl) (pv 4) (pe_un un_neg pe_int) (fun _ _ => rfl))) pa_nil))))))))))), ?_⟩
  rcases h with ⟨d, rfl, d1, d2, ⟨a, ws, rfl, ha, gw, ⟨b, us, rfl, hb, gu, q⟩ | ⟨hx, q⟩⟩ | ⟨hu, q⟩⟩ | ⟨hv, q⟩
  · have hd : NumV K H (.int (d : Int)) 1 (some 24) true := .inl ⟨d, rfl, (decide_eq_true ⟨by omega, fun j e => by cases e; omega⟩).symm⟩
    refine ⟨_, rfl, _, 24, true, rfl, hd, fun _ => ?_, fun z => nomatch z⟩
    refine ⟨_, rfl, _, rfl, .inl ⟨a, ws, rfl, ha, gw, fun H1 s1 => ?_⟩⟩
    refine ⟨_, rfl, _, rfl, .inl ⟨b, us, rfl, s1 _ _ hb, gu, fun H2 s2 => ?_⟩⟩
    have hb2 := s2 _ _ (s1 _ _ hb)
    refine ⟨_, rfl, _, rfl, b, _, rfl, .inl (.inl hb2), fun p1 np1 => ?_⟩
    obtain ⟨H3, e3, s3, hp1⟩ := fresh (.lst ((us.map V.int).reverse)) np1
    rw [e3]
    rw [← List.map_reverse] at hp1
    refine ⟨p1, rfl, ⟨_, .inl (.inl hp1)⟩, fun D nD => ?_⟩
    refine lc_mapL (K := K) (xs := us.reverse.map V.int) (us.reverse.map fun x => V.int (-x)) nD (.inl (.inl hp1)) (by rw [List.length_map, List.length_map]) (by rw [List.length_map, List.length_reverse]; exact small4 (by have := gu.1; omega)) (fun x => rfl) ?_ ?_
    · intro i x y H' hx hy s Qt qt
      obtain ⟨n, hn, rfl⟩ := int_at hx
      rw [List.getElem?_map, hn] at hy
      cases hy
      exact ⟨_, rfl, _, rfl, qt _ (Same.refl _)⟩
    · intro H4 s4 hD
      refine ⟨(by show 1 ≤ sizeLine; decide), fun p2 np2 => ?_⟩
      obtain ⟨H5, e5, s5, hp2⟩ := fresh (.lst [V.int 1]) np2
      rw [e5]
      refine ⟨D, p2, _, _, rfl, rfl, s5 _ _ hD, hp2, by rw [List.length_map, List.length_reverse, sizeLine_eq]; have := gu.1; show _ + 1 ≤ _; omega, fun p3 np3 => ?_⟩
      have eP : (us.reverse.map fun x => V.int (-x)) ++ [V.int 1] = (asP us).map V.int := by
        unfold asP
        rw [List.map_append, List.map_map]
        rfl
      rw [eP]
      obtain ⟨H6, e6, s6, hp3⟩ := fresh (.lst ((asP us).map V.int)) np3
      rw [e6]
      have s06 := ((s1.trans s2).trans s3).trans ((s4.trans s5).trans s6)
      refine ⟨_, rfl, _, _, rfl, rfl, ⟨by omega, by omega, by decide⟩, a, p3, ws, asP us, (1 * 2 ^ d : Int), rfl, s06 _ _ ha, hp3, gw, by rw [asP_len]; have := gu.1; omega, by rw [Int.one_mul]; exact Int.pow_pos (by decide), by rw [Int.one_mul]; exact pow_le_pow2 d2, fun H7 r s7 hr => ?_⟩
      rw [Int.one_mul] at hr
      have s07 := s06.trans s7
      have hf : ∀ p, redP (2 ^ d) ws (asP us) p = redP (2 ^ d) ws (asP us) p := fun _ => rfl
      unfold placeO at q
      generalize redP (2 ^ d) ws (asP us) = f at *
      refine ⟨_, rfl, r, _, rfl, .inl (.inl hr), fun D2 nD2 => ?_⟩
      refine lc_dW (walk_enum (K := K) (a := r) (xs := rowZ ws.length f)) (Has.nil (H := H7)) ((List.range ws.length).map fun i => if decide (f i ≠ 0) = true then some (PyData.int (i : Int)) else none) nD2 (by rw [List.length_map, List.length_range, rowZ_len]) (by rw [rowZ_len]; exact small4 (by have := gw.1; omega)) (fun H' s => .inl (.inl (s _ _ hr))) ?_ ?_
      · rintro i o H0 x H' hi ho s0 hS ⟨T1, y1, z1, rfl, nT, rfl, ex, ez⟩ Qt qt
        dsimp only at ex ez
        cases ex
        rw [rowZ_len] at hi
        rw [rowZ_get f hi] at ez
        cases ez
        rw [List.getElem?_map, List.getElem?_range hi] at ho
        cases ho
        dsimp only at qt
        refine ⟨T1, _, rfl, .inl (.inl upd_same), rfl, _, _, rfl, _, _, rfl, rfl, rfl, ?_⟩
        refine ⟨_, rfl, rfl, _, rfl, ?_⟩
        by_cases c : f i ≠ 0
        · rw [if_pos (decide_eq_true c)] at qt
          exact iteENT c ⟨_, rfl, qt (some (.int (i : Int))) _ (same_upd nT) (.int _)⟩
        · rw [if_neg (by rw [decide_eq_false c]; decide)] at qt
          exact iteENF (Classical.byContradiction c) (qt none _ (same_upd nT) trivial)
      · intro H8 s8 hD8 hd8
        have ef : ((List.range ws.length).map fun i => if decide (f i ≠ 0) = true then some (PyData.int (i : Int)) else none).filterMap id = ((topsL ws.length f).map fun t : Nat => (t : Int)).map PyData.int := by
          unfold topsL
          generalize List.range ws.length = l
          induction l with
          | nil => rfl
          | cons i r ih =>
            rw [List.map_cons, List.filterMap_cons, List.filter_cons]
            by_cases c : decide (f i ≠ 0) = true
            · rw [if_pos c, if_pos c, List.map_cons, List.map_cons, ← ih]; rfl
            · rw [if_neg c, if_neg c, ← ih]; rfl
        rw [rs_nil, ef] at hd8
        obtain ⟨_, e, h8⟩ := Dt.intsE (ns := (topsL ws.length f).map fun t : Nat => (t : Int)) hd8
        cases e
        have s08 := s07.trans s8
        refine ⟨_, rfl, Nat.zero_le _, fun p4 np4 => ?_⟩
        refine eqD_lst (ns := (topsL ws.length f).map fun t : Nat => (t : Int)) (ms := []) (.inl (.inl (same_upd np4 _ _ h8))) (.inl (.inl upd_same)) ⟨_, rfl, ?_⟩
        have s09 := s08.trans (same_upd (o := .lst ([] : List V)) np4)
        cases hT : (topsL ws.length f).getLast? with
        | none =>
          rw [List.getLast?_eq_none_iff] at hT
          rw [hT] at q ⊢
          exact iteT ((q _ s09).1 rfl)
        | some t =>
          have hne : topsL ws.length f ≠ [] := by intro e; rw [e] at hT; cases hT
          have htm : t ∈ topsL ws.length f := List.mem_of_getLast? hT
          have htl : t < ws.length := List.mem_range.mp (List.mem_filter.mp htm).1
          rw [decide_eq_false (by intro e; exact hne (List.map_eq_nil_iff.mp e))]
          refine iteF ?_
          obtain ⟨Hn, en, sn, _⟩ := fresh (.lst ([] : List V)) np4
          rw [en] at s09 ⊢
          have h9 := sn _ _ h8
          refine ⟨_, rfl, a, ws, rfl, s09 _ _ ha, gw.1, fun H10 p s10 np hp => ?_⟩
          refine ⟨_, rfl, b, _, rfl, .inl (.inl (.inl (s10 _ _ (s09 _ _ hb)))), _, rfl, a, _, rfl, .inl (.inl (.inl (s10 _ _ (s09 _ _ ha)))), _, _, rfl, rfl, _, _, rfl, rfl, ?_⟩
          obtain ⟨M, eM⟩ : ∃ M, topsL ws.length f = M ++ [t] := ⟨(topsL ws.length f).dropLast, by
            have := List.dropLast_concat_getLast hne
            rw [List.getLast?_eq_some_getLast hne] at hT
            rw [← Option.some.inj hT]
            exact this.symm⟩
          refine ⟨_, rfl, _, rfl, D2, _, _, .int t, rfl, rfl, .inl (.inl (s10 _ _ h9)), by
            rw [eM, List.map_append, List.map_append]
            exact atI_last _ _, ?_⟩
          refine ⟨_, _, rfl, rfl, (by show 2 ≤ sizeLine; decide), fun tp ntp => ?_⟩
          dsimp only
          rw [List.length_map, List.length_map, show ((us.length : Int) + (ws.length : Int) - 1 - (t : Int)) = ((us.length + ws.length - 1 - t : Nat) : Int) by omega]
          exact (q _ ((s09.trans s10).trans (same_upd ntp))).2 _ tp p (by rw [hT]; rfl) ((s09.trans s10).free ntp) (s09.free np) upd_same (same_upd ntp _ _ hp)
  · have hd : NumV K H (.int (d : Int)) 1 (some 24) true := .inl ⟨d, rfl, (decide_eq_true ⟨by omega, fun j e => by cases e; omega⟩).symm⟩
    refine ⟨_, rfl, _, 24, true, rfl, hd, fun _ => ?_, fun z => nomatch z⟩
    refine ⟨_, rfl, _, rfl, .inl ⟨a, ws, rfl, ha, gw, fun H1 s1 => ?_⟩⟩
    exact ⟨_, rfl, _, rfl, .inr ⟨hx.same s1, fun H' d s nd => q H' d (s1.trans s) nd⟩⟩
  · have hd : NumV K H (.int (d : Int)) 1 (some 24) true := .inl ⟨d, rfl, (decide_eq_true ⟨by omega, fun j e => by cases e; omega⟩).symm⟩
    refine ⟨_, rfl, _, 24, true, rfl, hd, fun _ => ?_, fun z => nomatch z⟩
    exact ⟨_, rfl, _, rfl, .inr ⟨hu, q⟩⟩
  · exact ⟨_, rfl, _, 24, false, rfl, hv, (fun z => nomatch z), fun _ d nd => q H d (Same.refl _) nd⟩
end
end My

namespace My
open PySem PySem.Spec PyProof.Rows L2 Pre
/-! ### the law of rules: rows gone on -/
theorem sum_range (n : Nat) (f : Nat → Int) : ((List.range n).map f).sum = sumN n f := by
  induction n with
  | zero => rfl
  | succ n ih => rw [List.range_succ, List.map_append, List.sum_append, ih, sumN]; simp
/-- the next one -/
def nxtR (h : Int) (ws l : List Int) : Int := (sumN ws.length (fun b => ws.getD b 0 * l.getD (l.length - 1 - b) 0) + h) % (2 * h) - h
/-- a row gone on -/
def goL (h : Int) (ws fs : List Int) : Nat → List Int
  | 0 => fs
  | k + 1 => goL h ws fs k ++ [nxtR h ws (goL h ws fs k)]
theorem goL_len (h : Int) (ws fs : List Int) : ∀ k, (goL h ws fs k).length = fs.length + k
  | 0 => rfl
  | k + 1 => by rw [goL, List.length_append, goL_len h ws fs k]; rfl
def goR (h : Int) (ws fs : List Int) (i : Nat) : Int := (goL h ws fs (i + 1)).getD i 0
theorem goL_at {h : Int} {ws fs : List Int} {i : Nat} : ∀ {k : Nat}, i < fs.length + k → (goL h ws fs k).getD i 0 = goR h ws fs i := by
  have step : ∀ k i, i < fs.length + k → (goL h ws fs (k + 1)).getD i 0 = (goL h ws fs k).getD i 0 := fun k i hi => by
    rw [goL, List.getD_eq_getElem?_getD, List.getElem?_append_left (by rw [goL_len]; exact hi), ← List.getD_eq_getElem?_getD]
  have up : ∀ d k i, i < fs.length + k → (goL h ws fs (k + d)).getD i 0 = (goL h ws fs k).getD i 0 := fun d => by
    induction d with
    | zero => intro k i _; rfl
    | succ d ih => intro k i hi; rw [← Nat.add_assoc, step _ _ (by omega), ih k i hi]
  intro k hi
  unfold goR
  by_cases c : k ≤ i + 1
  · obtain ⟨d, e⟩ := Nat.le.dest c
    rw [← e]
    exact (up d k i hi).symm
  · obtain ⟨d, e⟩ := Nat.le.dest (show i + 1 ≤ k by omega)
    rw [← e]
    exact up d (i + 1) i (by omega)
theorem goR_first {h : Int} {ws fs : List Int} {i : Nat} (hi : i < fs.length) : goR h ws fs i = fs.getD i 0 := (goL_at (k := 0) (by omega)).symm
theorem goR_fol {h : Int} (hh : 0 < h) {ws fs : List Int} (e : fs.length = ws.length) : Fol (2 * h) ws (goR h ws fs) := by
  intro i
  have e1 : goR h ws fs (i + ws.length) = nxtR h ws (goL h ws fs i) := by
    rw [← goL_at (k := i + 1) (by omega), goL, List.getD_eq_getElem?_getD, List.getElem?_append_right (by rw [goL_len]; omega), goL_len, show i + ws.length - (fs.length + i) = 0 by omega]
    rfl
  have e2 : sumN ws.length (fun b => ws.getD b 0 * (goL h ws fs i).getD ((goL h ws fs i).length - 1 - b) 0) = sumN ws.length fun b => ws.getD b 0 * goR h ws fs (i + ws.length - 1 - b) := sumN_congr fun b hb => by
    rw [goL_len, goL_at (by omega), show fs.length + i - 1 - b = i + ws.length - 1 - b by omega]
  rw [e1, ← e2]
  unfold nxtR
  generalize sumN ws.length (fun b => ws.getD b 0 * (goL h ws fs i).getD ((goL h ws fs i).length - 1 - b) 0) = S
  have := Int.dvd_self_sub_emod (x := S + h) (m := 2 * h)
  have h2 := Int.dvd_neg.mpr this
  rw [show -(S + h - (S + h) % (2 * h)) = (S + h) % (2 * h) - h - S by omega] at h2
  exact h2
theorem two_half {d : Nat} (h : 1 ≤ d) : 2 * (2 ^ (d - 1) : Int) = 2 ^ d := by
  obtain ⟨e, rfl⟩ : ∃ e, d = e + 1 := ⟨d - 1, by omega⟩
  rw [Nat.add_sub_cancel, Int.pow_succ, Int.mul_comm]
theorem half_pos (d : Nat) : (0 : Int) < 2 ^ (d - 1) := Int.pow_pos (by decide)
def GoodW (ws : List Int) : Prop := ws.length ≤ 8 ∧ ∀ w ∈ ws, w.natAbs ≤ 32768
local macro_rules | `(tactic| walk_at "go") => `(tactic| repeat (first | (with_reducible first | refine iteT ?_ | refine iteF ?_ | refine iteNtt ?_ | refine iteNff ?_ | refine iteET (by omega) ?_ | refine iteEF (by omega) ?_ | refine iteENT (by omega) ?_ | refine iteENF (by omega) ?_ | refine iteDT (by omega) ?_ | refine iteDF (by omega) ?_ | refine iteNT (by omega) ?_ | refine iteNF (by omega) ?_) | refine ⟨_, rfl, ?_⟩ | refine ⟨_, _, rfl, rfl, ?_⟩ | refine ⟨_, _, rfl, ?_⟩ | refine ⟨rfl, ?_⟩ | refine .inl ⟨_, rfl, ?_⟩ | refine .inr ⟨_, rfl, ?_⟩))
local macro_rules | `(tactic| walk_at "b") => `(tactic| try dsimp (config := { proj := false, iota := false, eta := false, zeta := false }) only)
section
variable {P : Program} {w : World} {K : PySem.W.Frag} {mg : Str → Option Value} {base : Heap} [pf : Sup.PF P fileS]
def sp_law_row : Sp := fun vs H Q _ => ∃ (g : Addr) (n d m : Nat), vs = [.ref g, .int d, .int m] ∧ GenAt H g n ∧ n ≤ 10 ^ 9 ∧ 1 ≤ d ∧ d ≤ 24 ∧ m ≤ 10 ∧ ∀ (H' : Hp) (p : Addr) (ys : List Int), But g H H' → H p = none → p ≠ g → GenAt H' g (n + 1000) → H' p = some (.lst (ys.map V.int)) → ys.length = m → Q (.ref p) H'
theorem G_law_row (T : Top K mg) : FnOk P w K mg base CX0 3 T.f_law_row T.fd_law_row ["_law_generator_here", "_law_depth", "_law_many"] sp_law_row := by
  refine T.F_law_row.ok sc_law_row (fun vs H Q E h => by obtain ⟨g, n, d, m, rfl, _⟩ := h; rfl) (fun cdv A outer s H vs Q E hr h => ?_)
  obtain ⟨g, n, d, m, rfl, hG, hn, d1, d2, hm, q⟩ := h
  refine ⟨_, PSs.nox (pss_one (ps_ret (pe_lc (own := [("_law_turn", 3)]) (g := gName 3) (tt := tYes) (by rfl) sc_law_row.nd (pi_range1 (by rfl) T.n_range (pa_cons (pv 2) pa_nil)) (blkOk_by (own := [("_law_turn", 3)]) (N := N_law_row) (sc := defScope s_law_row) (by decide +kernel)) (fun _ _ _ _ _ => (pg_name (i := 3) sc_law_row.nd rfl (by first | exact Or.inl rfl | exact Or.inr rfl))) (fun _ _ _ _ _ => pts_nil) (fun _ _ _ _ _ => (pe_op op_sub (pe_call (G_law_random (P := P) T) (hr.mono (by decide)) (by rfl) T.g_law_random T.F_law_random.kp T.b_law_random .nil pass0 (pa_cons (pv 0) (pa_cons (pe_op op_shl pe_int (pv 1)) pa_nil))) (pe_op op_shl pe_int (pe_op op_sub (pv 1) pe_int))))))), ?_⟩
  refine ⟨_, rfl, _, rfl, by omega, by omega, fun D nD => ?_⟩
  rw [Int.toNat_natCast]
  have hp := pow_le_pow2 d2
  refine lc_drawR (lo := 0) (n := m) g n 100 (fun _ => True) nD hG (small4 (by omega)) (fun x => rfl) ?_ ?_
  · intro i H' hi b gi Qt qt
    refine ⟨_, rfl, _, rfl, _, _, rfl, rfl, ⟨by omega, by omega, by decide⟩, g, _, _, rfl, gi, by omega, by rw [Int.one_mul, Int.toNat_natCast]; exact Int.pow_pos (by decide), by rw [Int.one_mul, Int.toNat_natCast]; exact Int.lt_of_le_of_lt hp (by decide +kernel), fun x H2 x0 x1 g2 b2 => ?_⟩
    refine ⟨_, rfl, _, _, rfl, rfl, _, _, rfl, rfl, ⟨by omega, by omega, by decide⟩, _, _, rfl, rfl, ?_⟩
    exact qt _ _ trivial b2 (g2.mono (by omega))
  · intro H' ys b g1 hD hl _
    exact q H' D ys b nD (hG.ne nD) (g1.mono (by omega)) hD hl
def sp_law_small : Sp := fun vs H Q _ => ∃ (g : Addr) (n m : Nat), vs = [.ref g, .int m] ∧ GenAt H g n ∧ n ≤ 10 ^ 9 ∧ m ≤ 10 ∧ ∀ (H' : Hp) (p : Addr) (ys : List Int), But g H H' → H p = none → p ≠ g → GenAt H' g (n + 1000) → H' p = some (.lst (ys.map V.int)) → ys.length = m → (∀ y ∈ ys, y.natAbs ≤ 3) → Q (.ref p) H'
theorem G_law_small (T : Top K mg) : FnOk P w K mg base CX0 3 T.f_law_small T.fd_law_small ["_law_generator_here", "_law_many"] sp_law_small := by
  refine T.F_law_small.ok sc_law_small (fun vs H Q E h => by obtain ⟨g, n, m, rfl, _⟩ := h; rfl) (fun cdv A outer s H vs Q E hr h => ?_)
  obtain ⟨g, n, m, rfl, hG, hn, hm, q⟩ := h
  refine ⟨_, PSs.nox (pss_one (ps_ret (pe_lc (own := [("_law_turn", 2)]) (g := gName 2) (tt := tYes) (by rfl) sc_law_small.nd (pi_range1 (by rfl) T.n_range (pa_cons (pv 1) pa_nil)) (blkOk_by (own := [("_law_turn", 2)]) (N := N_law_small) (sc := defScope s_law_small) (by decide +kernel)) (fun _ _ _ _ _ => (pg_name (i := 2) sc_law_small.nd rfl (by first | exact Or.inl rfl | exact Or.inr rfl))) (fun _ _ _ _ _ => pts_nil) (fun _ _ _ _ _ => (pe_op op_sub (pe_call (G_law_random (P := P) T) (hr.mono (by decide)) (by rfl) T.g_law_random T.F_law_random.kp T.b_law_random .nil pass0 (pa_cons (pv 0) (pa_cons pe_int pa_nil))) pe_int))))), ?_⟩
  refine ⟨_, rfl, _, rfl, by omega, by omega, fun D nD => ?_⟩
  rw [Int.toNat_natCast]
  refine lc_drawR (lo := 0) (n := m) g n 100 (fun y => y.natAbs ≤ 3) nD hG (small4 (by omega)) (fun x => rfl) ?_ ?_
  · intro i H' hi b gi Qt qt
    refine ⟨_, rfl, g, _, _, rfl, gi, by omega, by decide, by decide +kernel, fun x H2 x0 x1 g2 b2 => ?_⟩
    refine ⟨_, _, rfl, rfl, ?_⟩
    exact qt _ _ (by omega) b2 (g2.mono (by omega))
  · intro H' ys b g1 hD hl hP
    exact q H' D ys b nD (hG.ne nD) (g1.mono (by omega)) hD hl hP
def sp_law_weights : Sp := fun vs H Q _ => ∃ (g : Addr) (n m : Nat), vs = [.ref g, .int m] ∧ GenAt H g n ∧ n ≤ 10 ^ 9 ∧ m ≤ 8 ∧ ∀ (H' : Hp) (p : Addr) (ys : List Int), But g H H' → H p = none → p ≠ g → GenAt H' g (n + 3000) → H' p = some (.lst (ys.map V.int)) → GoodR ys → Q (.ref p) H'
theorem G_law_weights (T : Top K mg) : FnOk P w K mg base CX0 3 T.f_law_weights T.fd_law_weights ["_law_generator_here", "_law_many"] sp_law_weights := by
  refine T.F_law_weights.ok sc_law_weights (fun vs H Q E h => by obtain ⟨g, n, m, rfl, _⟩ := h; rfl) (fun cdv A outer s H vs Q E hr h => ?_)
  obtain ⟨g, n, m, rfl, hG, hn, hm, q⟩ := h
  refine ⟨_, PSs.nox (pss_cons (ps_set (i := 2) sc_law_weights.nd rfl (by first | exact Or.inl rfl | exact Or.inr rfl) (pe_lst pa_nil))
  (pss_cons (ps_for PassesOwn.never rfl (pi_range1 (by rfl) T.n_range (pa_cons (pv 1) pa_nil)) (pg_name (i := 3) sc_law_weights.nd rfl (by first | exact Or.inl rfl | exact Or.inr rfl))
    (pss_cons (ps_par (by rfl) sc_law_weights.nd (i := 4) (j := 5) rfl rfl (by decide) rfl rfl (pa_cons (pe_op op_sub (pe_call (G_law_random (P := P) T) (hr.mono (by decide)) (by rfl) T.g_law_random T.F_law_random.kp T.b_law_random .nil pass0 (pa_cons (pv 0) (pa_cons pe_int pa_nil))) pe_int) (pa_cons (pe_op op_sub (pe_call (G_law_random (P := P) T) (hr.mono (by decide)) (by rfl) T.g_law_random T.F_law_random.kp T.b_law_random .nil pass0 (pa_cons (pv 0) (pa_cons pe_int pa_nil))) pe_int) pa_nil)) (by rfl))
  (pss_one (ps_expr (pe_bm PySem.F.plainAttrs_list PySem.F.slot_list_append PySem.F.type_list_append mt_append (pv 2) (pa_cons (pe_ifExp (pt_cmpR op_eq (pe_call (G_law_random (P := P) T) (hr.mono (by decide)) (by rfl) T.g_law_random T.F_law_random.kp T.b_law_random .nil pass0 (pa_cons (pv 0) (pa_cons pe_int pa_nil))) pe_int (nomark _)) (pv 5) (pv 4)) pa_nil))))))
  (pss_one (ps_ret (pv 2))))), ?_⟩
  refine ⟨Nat.zero_le _, fun p np => ?_⟩
  obtain ⟨H1, e1, s1, hp1⟩ := fresh (.lst ([] : List V)) np
  rw [e1]
  have npg : p ≠ g := hG.ne np
  refine ⟨_, rfl, _, rfl, by omega, by omega, ?_⟩
  rw [Int.toNat_natCast]
  refine for_range (lo := 0) (n := m) (fun i σ H2 => ∃ (v3 v4 v5 : Option V) (ys : List Int), σ = [some (.ref g), some (.int m), some (.ref p), v3, v4, v5] ∧ But g H H2 ∧ GenAt H2 g (n + 300 * i) ∧ H2 p = some (.lst (ys.map V.int)) ∧ ys.length = i ∧ ∀ y ∈ ys, y.natAbs ≤ 32768) ⟨none, none, none, [], rfl, But.of s1, hG.same s1, hp1, rfl, fun _ h => nomatch h⟩ ?_ ?_
  · rintro i σ H2 hi ⟨v3, v4, v5, ys, rfl, b2, g2, hp2, hl, hb⟩
    refine ⟨_, rfl, g, _, _, rfl, g2, by omega, by decide, by decide +kernel, fun x H3 x0 x1 g3 b3 => ?_⟩
    refine ⟨_, _, rfl, rfl, _, rfl, g, _, _, rfl, g3, by omega, by decide, by decide +kernel, fun y H4 y0 y1 g4 b4 => ?_⟩
    refine ⟨_, _, rfl, rfl, _, _, rfl, ?_⟩
    have hp4 := b4 _ _ npg (b3 _ _ npg hp2)
    refine ⟨_, rfl, .inl ⟨rfl, _, .inl (.inl hp4)⟩, _, rfl, g, _, _, rfl, g4, by omega, by decide, by decide +kernel, fun z H5 z0 z1 g5 b5 => ?_⟩
    have hp5 := b5 _ _ npg hp4
    refine ⟨rfl, _, rfl, ?_⟩
    have b25 := ((b2.trans b3).trans b4).trans b5
    have fin : ∀ v : Int, v.natAbs ≤ 32768 → ∃ (v3 v4 v5 : Option V) (ys' : List Int), [some (V.ref g), some (.int m), some (.ref p), some (.int (0 + (i : Int))), some (.int (x - 2)), some (.int (y - 32768))] = [some (.ref g), some (.int m), some (.ref p), v3, v4, v5] ∧ But g H (upd H5 p (.lst (ys.map V.int ++ [V.int v]))) ∧ GenAt (upd H5 p (.lst (ys.map V.int ++ [V.int v]))) g (n + 300 * (i + 1)) ∧ (upd H5 p (.lst (ys.map V.int ++ [V.int v]))) p = some (.lst (ys'.map V.int)) ∧ ys'.length = i + 1 ∧ ∀ y ∈ ys', y.natAbs ≤ 32768 := fun v hv => by
      refine ⟨_, _, _, ys ++ [v], rfl, ?_, ?_, ?_, by rw [List.length_append, hl]; rfl, fun u hu => ?_⟩
      · intro c o nc hc
        rw [upd_ne (ne_of_none hc np)]
        exact b25 c o nc hc
      · obtain ⟨x', y', z', e1, e2, e3⟩ := g5
        exact ⟨x', y', z', by rw [upd_ne npg.symm]; exact e1, e2, by omega⟩
      · rw [upd_same, List.map_append]
        rfl
      · rcases List.mem_append.mp hu with h | h
        · exact hb u h
        · rw [List.mem_singleton.mp h]; exact hv
    by_cases hz0 : z = 0
    · refine iteET hz0 ?_
      exact ⟨_, rfl, p, _, _, rfl, rfl, hp5, by rw [List.length_map, hl]; exact small4 (by omega), fin _ (by omega)⟩
    · refine iteEF hz0 ?_
      exact ⟨_, rfl, p, _, _, rfl, rfl, hp5, by rw [List.length_map, hl]; exact small4 (by omega), fin _ (by omega)⟩
  · rintro σ H2 ⟨v3, v4, v5, ys, rfl, b2, g2, hp2, hl, hb⟩
    exact ⟨_, rfl, q H2 p ys b2 np npg (g2.mono (by omega)) hp2 ⟨by omega, hb⟩⟩
end
end My

namespace My
open PySem PySem.Spec PyProof.Rows L2 Pre
/-! ### the law of rules: rows that fail -/
/-- what the rule u tells of a row at a place -/
def tellS (us : List Int) (r : Nat → Int) (i : Nat) : Int := sumN (asP us).length fun p => (asP us).getD p 0 * r (i + p)
/-- where a row first fails -/
def IsFail (N : Int) (ws us : List Int) (r : Nat → Int) (x : V) : Prop := (x = .non ∧ ∀ i, i < ws.length + 6 → N ∣ tellS us r i) ∨ ∃ i : Nat, x = .int ((us.length + i : Nat) : Int) ∧ i < ws.length + 6 ∧ ¬ N ∣ tellS us r i ∧ ∀ j, j < i → N ∣ tellS us r j
theorem IsFail.uniq {N : Int} {ws us : List Int} {r : Nat → Int} {x y : V} (h : IsFail N ws us r x) (k : IsFail N ws us r y) : x = y := by
  rcases h with ⟨rfl, h⟩ | ⟨i, rfl, hi, hn, hj⟩
  · rcases k with ⟨rfl, _⟩ | ⟨i, rfl, hi, hn, hj⟩
    · rfl
    · exact absurd (h i hi) hn
  · rcases k with ⟨rfl, h⟩ | ⟨i', rfl, hi', hn', hj'⟩
    · exact absurd (h i hi) hn
    · have h1 : ¬ i < i' := fun l => hn (hj' i l)
      have h2 : ¬ i' < i := fun l => hn' (hj i' l)
      congr 2
      omega
local macro_rules | `(tactic| walk_at "go") => `(tactic| repeat (first | (with_reducible first | refine iteT ?_ | refine iteF ?_ | refine iteNtt ?_ | refine iteNff ?_ | refine iteET (by omega) ?_ | refine iteEF (by omega) ?_ | refine iteENT (by omega) ?_ | refine iteENF (by omega) ?_ | refine iteDT (by omega) ?_ | refine iteDF (by omega) ?_ | refine iteNT (by omega) ?_ | refine iteNF (by omega) ?_) | refine ⟨_, rfl, ?_⟩ | refine ⟨_, _, rfl, rfl, ?_⟩ | refine ⟨_, _, rfl, ?_⟩ | refine ⟨rfl, ?_⟩ | refine .inl ⟨_, rfl, ?_⟩ | refine .inr ⟨_, rfl, ?_⟩))
local macro_rules | `(tactic| walk_at "b") => `(tactic| try dsimp (config := { proj := false, iota := false, eta := false, zeta := false }) only)
section
variable {P : Program} {w : World} {K : PySem.W.Frag} {mg : Str → Option Value} {base : Heap} [pf : Sup.PF P fileS]
def sp_law_sum : Sp := fun vs H Q _ => ∃ (a b : Addr) (ws xs : List Int) (k : Nat), vs = [.ref a, .ref b, .int k] ∧ H a = some (.lst (ws.map V.int)) ∧ H b = some (.lst (xs.map V.int)) ∧ GoodR ws ∧ ws.length ≤ k ∧ k ≤ xs.length ∧ xs.length ≤ 1000 ∧ ∀ H', Same H H' → Q (.int (sumN ws.length fun i => ws.getD i 0 * xs.getD (k - 1 - i) 0)) H'
theorem G_law_sum (T : Top K mg) : FnOk P w K mg base CX0 1 T.f_law_sum T.fd_law_sum ["_law_weights_here", "_law_row_here", "_law_spot"] sp_law_sum := by
  refine T.F_law_sum.ok sc_law_sum (fun vs H Q E h => by obtain ⟨a, b, ws, xs, k, rfl, _⟩ := h; rfl) (fun cdv A outer s H vs Q E hr h => ?_)
  obtain ⟨a, b, ws, xs, k, rfl, ha, hb, hg, h1, h2, h3, q⟩ := h
  refine ⟨_, PSs.nox (pss_one (ps_ret (pe_callB (k_sum K rfl rfl) (by rfl) T.n_sum (by decide +kernel) (pa_cons (pe_lc (own := [("_law_back", 3)]) (g := gName 3) (tt := tYes) (by rfl) sc_law_sum.nd (pi_range1 (by rfl) T.n_range (pa_cons (pe_callB (k_len K rfl) (by rfl) T.n_len (by decide +kernel) (pa_cons (pv 0) pa_nil)) pa_nil)) (blkOk_by (own := [("_law_back", 3)]) (N := N_law_sum) (sc := defScope s_law_sum) (by decide +kernel)) (fun _ _ _ _ _ => (pg_name (i := 3) sc_law_sum.nd rfl (by first | exact Or.inl rfl | exact Or.inr rfl))) (fun _ _ _ _ _ => pts_nil) (fun _ _ _ _ _ => (pe_op op_mul (pe_ix (k_ixL K rfl) (pv 0) (pv 3) (fun _ _ => rfl)) (pe_ix (k_ixL K rfl) (pv 1) (pe_op op_sub (pe_op op_sub (pv 2) pe_int) (pv 3)) (fun _ _ => rfl))))) pa_nil)))), ?_⟩
  have hws := hg.1
  refine ⟨_, rfl, a, _, rfl, .inl (.inl (.inl ha)), ?_⟩
  rw [List.length_map]
  refine ⟨_, rfl, by omega, by omega, fun D nD => ?_⟩
  rw [Int.toNat_natCast]
  refine lc_mapR (lo := 0) (n := ws.length) (((List.range ws.length).map fun i => ws.getD i 0 * xs.getD (k - 1 - i) 0).map V.int) nD (by rw [List.length_map, List.length_map, List.length_range]) (small4 (by omega)) (fun x => rfl) ?_ ?_
  · intro i y H' hi hy s Qt qt
    rw [List.getElem?_map, List.getElem?_map, List.getElem?_range hi] at hy
    cases hy
    rw [Int.zero_add]
    have hwi : (ws.map V.int)[i]? = some (.int (ws.getD i 0)) := by rw [ints_rowZ]; exact rowZ_get (fun p => ws.getD p 0) hi
    have hxi : (xs.map V.int)[k - 1 - i]? = some (.int (xs.getD (k - 1 - i) 0)) := by rw [ints_rowZ]; exact rowZ_get (fun p => xs.getD p 0) (by omega)
    have hb8 : (ws.getD i 0).natAbs ≤ 32768 := by
      rw [List.getD_eq_getElem?_getD, List.getElem?_eq_getElem hi]
      exact hg.2 _ (List.getElem_mem hi)
    refine ⟨_, rfl, _, rfl, a, _, _, _, rfl, rfl, .inl (.inl (s _ _ ha)), atI_nat hwi, ?_⟩
    refine ⟨_, rfl, _, rfl, _, _, rfl, rfl, _, rfl, _, _, rfl, rfl, b, _, _, _, rfl, rfl, .inl (.inl (s _ _ hb)), by
      rw [show ((k : Int) - 1 - (i : Int)) = ((k - 1 - i : Nat) : Int) by omega]
      exact atI_nat hxi, _, _, rfl, rfl, .inl ⟨by omega, by omega⟩, ?_⟩
    exact qt _ (Same.refl _)
  · intro H1 s1 hD
    refine ⟨D, _, rfl, .inl (.inl hD), ?_⟩
    rw [sum_range]
    exact q _ s1
def sp_law_gone : Sp := fun vs H Q _ => ∃ (a b : Addr) (d : Nat) (ws fs : List Int) (m : Nat), vs = [.int d, .ref a, .ref b, .int m] ∧ H a = some (.lst (ws.map V.int)) ∧ H b = some (.lst (fs.map V.int)) ∧ GoodR ws ∧ fs.length = ws.length ∧ 1 ≤ d ∧ d ≤ 24 ∧ fs.length ≤ m ∧ m ≤ 100 ∧ ∀ H' p, Same H H' → H' p = some (.lst (rowZ m (goR (2 ^ (d - 1)) ws fs))) → Q (.ref p) H'
theorem G_law_gone (T : Top K mg) : FnOk P w K mg base CX0 2 T.f_law_gone T.fd_law_gone ["_law_depth", "_law_weights_here", "_law_firsts", "_law_many"] sp_law_gone := by
  refine T.F_law_gone.ok sc_law_gone (fun vs H Q E h => by obtain ⟨a, b, d, ws, fs, m, rfl, _⟩ := h; rfl) (fun cdv A outer s H vs Q E hr h => ?_)
  obtain ⟨a, b, d, ws, fs, m, rfl, ha, hb, hg, hfl, d1, d2, hfm, hm, q⟩ := h
  refine ⟨_, PSs.nox (pss_cons (ps_par (by rfl) sc_law_gone.nd (i := 4) (j := 5) rfl rfl (by decide) rfl rfl (pa_cons (pe_callTy (k_listOf K rfl) (by rfl) T.n_list (by decide +kernel) (pa_cons (pv 2) pa_nil)) (pa_cons (pe_op op_shl pe_int (pe_op op_sub (pv 0) pe_int)) pa_nil)) (by rfl))
  (pss_cons (ps_while PassesOwn.never (pt_cmpR op_lt (pe_callB (k_len K rfl) (by rfl) T.n_len (by decide +kernel) (pa_cons (pv 4) pa_nil)) (pv 3) (nomark _))
    (pss_one (ps_expr (pe_bm PySem.F.plainAttrs_list PySem.F.slot_list_append PySem.F.type_list_append mt_append (pv 4) (pa_cons (pe_op op_sub (pe_op op_mod (pe_callTy call_int1 (by rfl) T.n_int (by decide +kernel) (pa_cons (pe_op op_add (pe_call (G_law_sum (P := P) T) (hr.mono (by decide)) (by rfl) T.g_law_sum T.F_law_sum.kp T.b_law_sum .nil pass0 (pa_cons (pv 1) (pa_cons (pv 4) (pa_cons (pe_callB (k_len K rfl) (by rfl) T.n_len (by decide +kernel) (pa_cons (pv 4) pa_nil)) pa_nil)))) (pv 5)) pa_nil)) (pe_op op_mul pe_int (pv 5))) (pv 5)) pa_nil)))))
  (pss_one (ps_ret (pe_slice (k_slL K rfl) (pv 4) po_none (po_some (pv 3))))))), ?_⟩
  have hws := hg.1
  have hh := half_pos d
  refine ⟨_, rfl, b, _, rfl, .inl (.inl (.inl hb)), fun p np => ?_⟩
  obtain ⟨H1, e1, s1, hp⟩ := fresh (.lst (fs.map V.int)) np
  rw [e1]
  refine ⟨_, rfl, _, _, rfl, rfl, _, _, rfl, rfl, ⟨by omega, by omega, by decide⟩, ?_⟩
  refine ⟨_, _, rfl, ?_⟩
  dsimp only
  rw [show ((d : Int) - 1).toNat = d - 1 by omega, Int.one_mul]
  generalize (2 : Int) ^ (d - 1) = h at *
  refine ⟨fun μ σ H2 => ∃ k : Nat, μ + (fs.length + k) = m ∧ σ = [some (.int d), some (.ref a), some (.ref b), some (.int m), some (.ref p), some (.int h)] ∧ Same H H2 ∧ H2 p = some (.lst ((goL h ws fs k).map V.int)), ⟨m - fs.length, 0, by omega, rfl, s1, hp⟩, ?_⟩
  rintro μ σ H2 ⟨k, eμ, rfl, s2, hp2⟩
  have hgl := goL_len h ws fs k
  refine ⟨_, rfl, p, _, rfl, .inl (.inl (.inl hp2)), _, rfl, _, _, rfl, rfl, _, rfl, ?_⟩
  rw [List.length_map, hgl]
  by_cases c : fs.length + k < m
  · refine iteDT (by omega) ?_
    refine ⟨fun σ H3 => ∃ k' : Nat, μ - 1 + (fs.length + k') = m ∧ σ = [some (.int d), some (.ref a), some (.ref b), some (.int m), some (.ref p), some (.int h)] ∧ Same H H3 ∧ H3 p = some (.lst ((goL h ws fs k').map V.int)), fun σ' H' hw => ⟨μ - 1, by omega, hw⟩, ?_⟩
    refine ⟨_, rfl, .inl ⟨rfl, _, .inl (.inl hp2)⟩, ?_⟩
    refine ⟨_, rfl, _, rfl, _, rfl, p, _, rfl, .inl (.inl (.inl hp2)), a, p, ws, goL h ws fs k, fs.length + k, by rw [List.length_map, hgl]; rfl, s2 _ _ ha, hp2, hg, by omega, by omega, by omega, fun H3 s3 => ?_⟩
    have hp3 := s3 _ _ hp2
    refine ⟨_, rfl, _, _, rfl, rfl, .inl ⟨_, rfl, ?_⟩⟩
    refine ⟨_, rfl, _, _, rfl, rfl, .inl ⟨by decide, by decide⟩, _, _, rfl, rfl, (by dsimp only; omega), _, rfl, _, _, rfl, rfl, p, _, _, rfl, rfl, hp3, by rw [List.length_map, hgl]; exact small4 (by omega), ?_⟩
    refine ⟨k + 1, by omega, rfl, same_over np (s2.trans s3), ?_⟩
    rw [upd_same, goL, List.map_append]
    unfold nxtR
    rw [hgl]
    rfl
  · refine iteDF (by omega) ?_
    refine ⟨_, rfl, _, rfl, _, rfl, p, _, rfl, .inl (.inl hp2), fun p2 np2 => ?_⟩
    refine q _ p2 (s2.trans (same_upd np2)) ?_
    rw [upd_same, cut_take, show m = fs.length + k by omega]
    have e : (goL h ws fs k).map V.int = rowZ (fs.length + k) (goR h ws fs) := by
      rw [ints_rowZ, hgl]
      exact rowZ_congr fun i hi => goL_at hi
    rw [e, rowZ_take (Nat.le_refl _)]
def sp_law_follows : Sp := fun vs H Q _ => ∃ (a b : Addr) (d : Nat) (us xs : List Int), vs = [.int d, .ref a, .ref b] ∧ H a = some (.lst (us.map V.int)) ∧ H b = some (.lst (xs.map V.int)) ∧ GoodR us ∧ xs.length = us.length + 1 ∧ d ≤ 24 ∧ ∀ H', Same H H' → Q (.bl (decide ((2 ^ d : Int) ∣ (sumN us.length fun i => us.getD i 0 * xs.getD (us.length - 1 - i) 0) - xs.getD us.length 0))) H'
theorem G_law_follows (T : Top K mg) : FnOk P w K mg base CX0 2 T.f_law_follows T.fd_law_follows ["_law_depth", "_law_weights_here", "_law_row_here"] sp_law_follows := by
  refine T.F_law_follows.ok sc_law_follows (fun vs H Q E h => by obtain ⟨a, b, d, us, xs, rfl, _⟩ := h; rfl) (fun cdv A outer s H vs Q E hr h => ?_)
  obtain ⟨a, b, d, us, xs, rfl, ha, hb, hg, hl, d2, q⟩ := h
  refine ⟨_, PSs.nox (pss_cons (ps_for PassesOwn.never rfl (pi_range2 (by rfl) T.n_range (pa_cons (pe_callB (k_len K rfl) (by rfl) T.n_len (by decide +kernel) (pa_cons (pv 1) pa_nil)) (pa_cons (pe_callB (k_len K rfl) (by rfl) T.n_len (by decide +kernel) (pa_cons (pv 2) pa_nil)) pa_nil))) (pg_name (i := 3) sc_law_follows.nd rfl (by first | exact Or.inl rfl | exact Or.inr rfl))
    (pss_one (ps_if (pt_cmpR op_ne (pe_op op_mod (pe_callTy call_int1 (by rfl) T.n_int (by decide +kernel) (pa_cons (pe_op op_sub (pe_call (G_law_sum (P := P) T) (hr.mono (by decide)) (by rfl) T.g_law_sum T.F_law_sum.kp T.b_law_sum .nil pass0 (pa_cons (pv 1) (pa_cons (pv 2) (pa_cons (pv 3) pa_nil)))) (pe_ix (k_ixL K rfl) (pv 2) (pv 3) (fun _ _ => rfl))) pa_nil)) (pe_op op_shl pe_int (pv 0))) pe_int (nomark _))
    (pss_one (ps_ret pe_bl))
    pss_nil)))
  (pss_one (ps_ret pe_bl))), ?_⟩
  have hus := hg.1
  refine ⟨_, rfl, a, _, rfl, .inl (.inl (.inl ha)), _, rfl, b, _, rfl, .inl (.inl (.inl hb)), ?_⟩
  rw [List.length_map, List.length_map]
  refine ⟨_, _, rfl, ⟨by omega, by omega, by omega, by omega⟩, ?_⟩
  rw [show (((xs.length : Nat) : Int) - ((us.length : Nat) : Int)).toNat = 1 by omega]
  refine for_range (lo := ((us.length : Nat) : Int)) (n := 1) (fun i σ H1 => ∃ v3 : Option V, σ = [some (.int d), some (.ref a), some (.ref b), v3] ∧ Same H H1 ∧ (0 < i → (2 ^ d : Int) ∣ (sumN us.length fun i => us.getD i 0 * xs.getD (us.length - 1 - i) 0) - xs.getD us.length 0)) ⟨none, rfl, Same.refl _, fun h => absurd h (by decide)⟩ ?_ ?_
  · rintro i σ H1 hi ⟨v3, rfl, s1, _⟩
    obtain rfl : i = 0 := by omega
    rw [show ((us.length : Nat) : Int) + ((0 : Nat) : Int) = ((us.length : Nat) : Int) by omega]
    have hxi : (xs.map V.int)[us.length]? = some (.int (xs.getD us.length 0)) := by rw [ints_rowZ]; exact rowZ_get (fun p => xs.getD p 0) (by omega)
    refine ⟨_, rfl, _, rfl, _, rfl, a, b, us, xs, us.length, rfl, s1 _ _ ha, s1 _ _ hb, hg, Nat.le_refl _, by omega, by omega, fun H2 s2 => ?_⟩
    refine ⟨_, rfl, _, rfl, b, _, _, _, rfl, rfl, .inl (.inl (s2 _ _ (s1 _ _ hb))), atI_nat hxi, _, _, rfl, rfl, .inl ⟨_, rfl, ?_⟩⟩
    refine ⟨_, rfl, _, _, rfl, rfl, ⟨by omega, by omega, by decide⟩, _, _, rfl, rfl, (by dsimp only; rw [Int.one_mul, Int.toNat_natCast]; exact Int.pow_pos (by decide)), rfl, _, rfl, ?_⟩
    dsimp only
    rw [Int.one_mul, Int.toNat_natCast]
    generalize (sumN us.length fun i => us.getD i 0 * xs.getD (us.length - 1 - i) 0) - xs.getD us.length 0 = S at *
    by_cases c : (2 ^ d : Int) ∣ S
    · refine iteENF (Int.emod_eq_zero_of_dvd c) ?_
      exact ⟨_, rfl, s1.trans s2, fun _ => c⟩
    · refine iteENT (fun h => c (Int.dvd_of_emod_eq_zero h)) ?_
      have := q _ (s1.trans s2)
      rw [decide_eq_false c] at this
      exact this
  · rintro σ H1 ⟨v3, rfl, s1, hd⟩
    have := q _ s1
    rw [decide_eq_true (hd (by decide))] at this
    exact this
end
end My

namespace My
open PySem PySem.Spec PyProof.Rows L2 Pre
/-! ### the law of rules: where a row fails; products -/
theorem cut_span {xs : List V} {a b : Nat} (h : a ≤ b) (hb : b ≤ xs.length) : cutV xs (some (a : Int)) (some (b : Int)) = (xs.drop a).take (b - a) := by
  unfold cutV
  rw [HT.sIx_nat, HT.sIx_nat, Nat.min_eq_left (by omega), Nat.min_eq_left (by omega)]
theorem row_span {n a b : Nat} (h : a ≤ b) (hb : b ≤ n) (f : Nat → Int) : ((rowZ n f).drop a).take (b - a) = ((List.range (b - a)).map fun p => f (a + p)).map V.int := by
  refine List.ext_getElem (by rw [List.length_take, List.length_drop, rowZ_len, List.length_map, List.length_map, List.length_range]; omega) fun i h1 h2 => ?_
  rw [List.length_map, List.length_map, List.length_range] at h2
  rw [List.getElem_take, List.getElem_drop, List.getElem_map, List.getElem_map, List.getElem_range]
  have := rowZ_get f (n := n) (i := a + i) (by omega)
  rw [List.getElem?_eq_getElem (by rw [rowZ_len]; omega)] at this
  exact Option.some.inj this
theorem range_getD {n i : Nat} (h : i < n) (f : Nat → Int) : ((List.range n).map f).getD i 0 = f i := by
  rw [List.getD_eq_getElem?_getD, List.getElem?_map, List.getElem?_range h]
  rfl
theorem follows_iff {N : Int} {us : List Int} {r : Nat → Int} {i : Nat} : (N ∣ (sumN us.length fun b => us.getD b 0 * ((List.range (us.length + 1)).map fun p => r (i + p)).getD (us.length - 1 - b) 0) - ((List.range (us.length + 1)).map fun p => r (i + p)).getD us.length 0) ↔ N ∣ tellS us r i := by
  unfold tellS
  rw [asP_sum, range_getD (Nat.lt_succ_self _), sumN_congr (g := fun b => us.getD b 0 * r (i + us.length - 1 - b)) fun b hb => by rw [range_getD (by omega), show i + (us.length - 1 - b) = i + us.length - 1 - b by omega]]
  generalize (sumN us.length fun b => us.getD b 0 * r (i + us.length - 1 - b)) = S
  rw [← Int.neg_sub]
  exact Int.dvd_neg
local macro_rules | `(tactic| walk_at "go") => `(tactic| repeat (first | (with_reducible first | refine iteT ?_ | refine iteF ?_ | refine iteNtt ?_ | refine iteNff ?_ | refine iteET (by omega) ?_ | refine iteEF (by omega) ?_ | refine iteENT (by omega) ?_ | refine iteENF (by omega) ?_ | refine iteDT (by omega) ?_ | refine iteDF (by omega) ?_ | refine iteNT (by omega) ?_ | refine iteNF (by omega) ?_) | refine ⟨_, rfl, ?_⟩ | refine ⟨_, _, rfl, rfl, ?_⟩ | refine ⟨_, _, rfl, ?_⟩ | refine ⟨rfl, ?_⟩ | refine .inl ⟨_, rfl, ?_⟩ | refine .inr ⟨_, rfl, ?_⟩))
local macro_rules | `(tactic| walk_at "b") => `(tactic| try dsimp (config := { proj := false, iota := false, eta := false, zeta := false }) only)
section
variable {P : Program} {w : World} {K : PySem.W.Frag} {mg : Str → Option Value} {base : Heap} [pf : Sup.PF P fileS]
def sp_law_failing : Sp := fun vs H Q _ => ∃ (a b c : Addr) (d : Nat) (ws fs us : List Int), vs = [.int d, .ref a, .ref b, .ref c] ∧ H a = some (.lst (ws.map V.int)) ∧ H b = some (.lst (fs.map V.int)) ∧ H c = some (.lst (us.map V.int)) ∧ GoodR ws ∧ GoodR us ∧ fs.length = ws.length ∧ 1 ≤ d ∧ d ≤ 24 ∧ ∀ H' x, Same H H' → IsFail (2 ^ d) ws us (goR (2 ^ (d - 1)) ws fs) x → Q x H'
theorem G_law_failing (T : Top K mg) : FnOk P w K mg base CX0 3 T.f_law_failing T.fd_law_failing ["_law_depth", "_law_one", "_law_firsts", "_law_other"] sp_law_failing := by
  refine T.F_law_failing.ok sc_law_failing (fun vs H Q E h => by obtain ⟨a, b, c, d, ws, fs, us, rfl, _⟩ := h; rfl) (fun cdv A outer s H vs Q E hr h => ?_)
  obtain ⟨a, b, c, d, ws, fs, us, rfl, ha, hb, hc, gw, gu, hfl, d1, d2, q⟩ := h
  refine ⟨_, PSs.nox (pss_cons (ps_set (i := 4) sc_law_failing.nd rfl (by first | exact Or.inl rfl | exact Or.inr rfl) (pe_op op_add (pe_op op_add (pe_callB (k_len K rfl) (by rfl) T.n_len (by decide +kernel) (pa_cons (pv 1) pa_nil)) (pe_callB (k_len K rfl) (by rfl) T.n_len (by decide +kernel) (pa_cons (pv 3) pa_nil))) pe_int))
  (pss_cons (ps_set (i := 5) sc_law_failing.nd rfl (by first | exact Or.inl rfl | exact Or.inr rfl) (pe_call (G_law_gone (P := P) T) (hr.mono (by decide)) (by rfl) T.g_law_gone T.F_law_gone.kp T.b_law_gone .nil pass0 (pa_cons (pv 0) (pa_cons (pv 1) (pa_cons (pv 2) (pa_cons (pv 4) pa_nil))))))
  (pss_cons (ps_for PassesOwn.never rfl (pi_range2 (by rfl) T.n_range (pa_cons (pe_callB (k_len K rfl) (by rfl) T.n_len (by decide +kernel) (pa_cons (pv 3) pa_nil)) (pa_cons (pv 4) pa_nil))) (pg_name (i := 6) sc_law_failing.nd rfl (by first | exact Or.inl rfl | exact Or.inr rfl))
    (pss_one (ps_if (pt_not (pt_val (pe_call (G_law_follows (P := P) T) (hr.mono (by decide)) (by rfl) T.g_law_follows T.F_law_follows.kp T.b_law_follows .nil pass0 (pa_cons (pv 0) (pa_cons (pv 3) (pa_cons (pe_slice (k_slL K rfl) (pv 5) (po_some (pe_op op_sub (pv 6) (pe_callB (k_len K rfl) (by rfl) T.n_len (by decide +kernel) (pa_cons (pv 3) pa_nil)))) (po_some (pe_op op_add (pv 6) pe_int))) pa_nil))))))
    (pss_one (ps_ret (pv 6)))
    pss_nil)))
  (pss_one (ps_ret pe_non))))), ?_⟩
  have hws := gw.1
  have hus := gu.1
  refine ⟨_, rfl, a, _, rfl, .inl (.inl (.inl ha)), _, rfl, c, _, rfl, .inl (.inl (.inl hc)), _, _, rfl, rfl, _, _, rfl, rfl, ?_⟩
  dsimp only
  rw [List.length_map, List.length_map, show ((ws.length : Int) + (us.length : Int) + 6) = ((ws.length + us.length + 6 : Nat) : Int) by omega]
  refine ⟨_, rfl, _, rfl, _, rfl, _, rfl, a, b, d, ws, fs, _, rfl, ha, hb, gw, hfl, d1, d2, by omega, by omega, fun H1 p s1 hp => ?_⟩
  generalize goR (2 ^ (d - 1)) ws fs = r at *
  refine ⟨_, rfl, c, _, rfl, .inl (.inl (.inl (s1 _ _ hc))), _, rfl, ?_⟩
  rw [List.length_map]
  refine ⟨_, _, rfl, ⟨by omega, by omega, by omega, by omega⟩, ?_⟩
  rw [show ((((ws.length + us.length + 6 : Nat)) : Int) - ((us.length : Nat) : Int)).toNat = ws.length + 6 by omega]
  refine for_range (lo := ((us.length : Nat) : Int)) (n := ws.length + 6) (fun i σ H2 => ∃ v6 : Option V, σ = [some (.int d), some (.ref a), some (.ref b), some (.ref c), some (.int (ws.length + us.length + 6 : Nat)), some (.ref p), v6] ∧ Same H1 H2 ∧ ∀ j, j < i → (2 ^ d : Int) ∣ tellS us r j) ⟨none, rfl, Same.refl _, fun j h => absurd h (Nat.not_lt_zero _)⟩ ?_ ?_
  · rintro i σ H2 hi ⟨v6, rfl, s2, hj⟩
    rw [show ((us.length : Nat) : Int) + (i : Nat) = ((us.length + i : Nat) : Int) by omega]
    refine ⟨_, rfl, _, rfl, _, rfl, _, rfl, _, rfl, c, _, rfl, .inl (.inl (.inl (s2 _ _ (s1 _ _ hc)))), _, _, rfl, rfl, _, rfl, _, rfl, _, _, rfl, rfl, _, rfl, p, _, rfl, .inl (.inl (s2 _ _ hp)), fun p2 np2 => ?_⟩
    dsimp only
    rw [List.length_map, show (((us.length + i : Nat) : Int) - (us.length : Int)) = ((i : Nat) : Int) by omega, show (((us.length + i : Nat) : Int) + 1) = ((us.length + i + 1 : Nat) : Int) by omega, cut_span (by omega) (by rw [rowZ_len]; omega), row_span (by omega) (by omega), show us.length + i + 1 - i = us.length + 1 by omega]
    obtain ⟨H3, e3, s3, hp2⟩ := fresh (.lst (((List.range (us.length + 1)).map fun q => r (i + q)).map V.int)) np2
    rw [e3]
    refine ⟨c, p2, d, us, _, rfl, s3 _ _ (s2 _ _ (s1 _ _ hc)), hp2, gu, by rw [List.length_map, List.length_range], d2, fun H4 s4 => ?_⟩
    refine ⟨_, rfl, ?_⟩
    have e : decide ((2 ^ d : Int) ∣ (sumN us.length fun b => us.getD b 0 * ((List.range (us.length + 1)).map fun p => r (i + p)).getD (us.length - 1 - b) 0) - ((List.range (us.length + 1)).map fun p => r (i + p)).getD us.length 0) = decide ((2 ^ d : Int) ∣ tellS us r i) := by rw [decide_eq_decide]; exact follows_iff
    rw [e]
    have s24 := (s2.trans s3).trans s4
    by_cases ct : (2 ^ d : Int) ∣ tellS us r i
    · rw [decide_eq_true ct]
      refine iteF ?_
      refine ⟨_, rfl, s24, fun j hj' => ?_⟩
      by_cases ej : j = i
      · rw [ej]; exact ct
      · exact hj j (by omega)
    · rw [decide_eq_false ct]
      refine iteT ?_
      exact ⟨_, rfl, q _ _ (s1.trans s24) (.inr ⟨i, rfl, hi, ct, hj⟩)⟩
  · rintro σ H2 ⟨v6, rfl, s2, hj⟩
    exact q _ _ (s1.trans s2) (.inl ⟨rfl, hj⟩)
end
end My

namespace My
open PySem PySem.Spec PyProof.Rows L2 Pre
/-! ### the law of rules: products, all lists -/
theorem cut_last (xs : List V) : cutV xs none (some (-1)) = xs.take (xs.length - 1) := by
  unfold cutV
  have e : HT.sIx xs.length xs.length (some (-1)) = xs.length - 1 := by
    show (if (-1 : Int) < 0 then ((-1 : Int) + ((xs.length : Nat) : Int)).toNat else min (-1 : Int).toNat xs.length) = _
    rw [if_pos (by decide)]
    omega
  rw [e, HT.sIx_none, List.drop_zero, Nat.sub_zero]
/-- rows of k whole numbers -/
def LsOk (k : Nat) (D : Addr) (y : V) (H : Hp) : Prop := ∃ (a : Addr) (ys : List Int), y = .ref a ∧ a ≠ D ∧ H a = some (.lst (ys.map V.int)) ∧ ys.length = k
theorem LsOk.mono {k : Nat} {D : Addr} {y : V} {H H' : Hp} (o : Off D H H') (h : LsOk k D y H) : LsOk k D y H' := by
  obtain ⟨a, ys, e, n, ha, l⟩ := h
  exact ⟨a, ys, e, n, o _ _ n ha, l⟩
def LsIn (k : Nat) (H : Hp) (xs : List V) : Prop := ∀ y ∈ xs, ∃ (a : Addr) (ys : List Int), y = .ref a ∧ H a = some (.lst (ys.map V.int)) ∧ ys.length = k
theorem LsIn.same {k : Nat} {H H' : Hp} {xs : List V} (h : LsIn k H xs) (s : Same H H') : LsIn k H' xs := fun y hy => by
  obtain ⟨a, ys, e, ha, l⟩ := h y hy
  exact ⟨a, ys, e, s _ _ ha, l⟩
local macro_rules | `(tactic| walk_at "go") => `(tactic| repeat (first | (with_reducible first | refine iteT ?_ | refine iteF ?_ | refine iteNtt ?_ | refine iteNff ?_ | refine iteET (by omega) ?_ | refine iteEF (by omega) ?_ | refine iteENT (by omega) ?_ | refine iteENF (by omega) ?_ | refine iteDT (by omega) ?_ | refine iteDF (by omega) ?_ | refine iteNT (by omega) ?_ | refine iteNF (by omega) ?_) | refine ⟨_, rfl, ?_⟩ | refine ⟨_, _, rfl, rfl, ?_⟩ | refine ⟨_, _, rfl, ?_⟩ | refine ⟨rfl, ?_⟩ | refine .inl ⟨_, rfl, ?_⟩ | refine .inr ⟨_, rfl, ?_⟩))
local macro_rules | `(tactic| walk_at "b") => `(tactic| try dsimp (config := { proj := false, iota := false, eta := false, zeta := false }) only)
section
variable {P : Program} {w : World} {K : PySem.W.Frag} {mg : Str → Option Value} {base : Heap} [pf : Sup.PF P fileS]
def sp_law_product : Sp := fun vs H Q _ => ∃ (a b : Addr) (ws us : List Int), vs = [.ref a, .ref b] ∧ H a = some (.lst (ws.map V.int)) ∧ H b = some (.lst (us.map V.int)) ∧ ws.length ≤ 4 ∧ us.length ≤ 4 ∧ (∀ x ∈ ws, x.natAbs ≤ 3) ∧ (∀ x ∈ us, x.natAbs ≤ 3) ∧ ∀ H' p, Same H H' → H p = none → H' p = some (.lst ((prodL (asP ws) (asP us)).map V.int)) → Q (.ref p) H'
theorem G_law_product (T : Top K mg) : FnOk P w K mg base CX0 1 T.f_law_product T.fd_law_product ["_law_one", "_law_other"] sp_law_product := by
  refine T.F_law_product.ok sc_law_product (fun vs H Q E h => by obtain ⟨a, b, ws, us, rfl, _⟩ := h; rfl) (fun cdv A outer s H vs Q E hr h => ?_)
  obtain ⟨a, b, ws, us, rfl, ha, hb, hw, hu, bw, bu, q⟩ := h
  refine ⟨_, PSs.nox (pss_cons (ps_par (by rfl) sc_law_product.nd (i := 4) (j := 5) rfl rfl (by decide) rfl rfl (pa_cons (pe_op op_cat (pe_lc (own := [("_law_weight", 8)]) (g := gName 8) (tt := tYes) (by rfl) sc_law_product.nd (k_piL K rfl (pe_revL (pv 0))) (blkOk_by (own := [("_law_weight", 8)]) (N := N_law_product) (sc := defScope s_law_product) (by decide +kernel)) (fun _ _ _ _ _ => (pg_name (i := 8) sc_law_product.nd rfl (by first | exact Or.inl rfl | exact Or.inr rfl))) (fun _ _ _ _ _ => pts_nil) (fun _ _ _ _ _ => (pe_un un_neg (pv 8)))) (pe_lst (pa_cons pe_int pa_nil))) (pa_cons (pe_op op_cat (pe_lc (own := [("_law_weight", 8)]) (g := gName 8) (tt := tYes) (by rfl) sc_law_product.nd (k_piL K rfl (pe_revL (pv 1))) (blkOk_by (own := [("_law_weight", 8)]) (N := N_law_product) (sc := defScope s_law_product) (by decide +kernel)) (fun _ _ _ _ _ => (pg_name (i := 8) sc_law_product.nd rfl (by first | exact Or.inl rfl | exact Or.inr rfl))) (fun _ _ _ _ _ => pts_nil) (fun _ _ _ _ _ => (pe_un un_neg (pv 8)))) (pe_lst (pa_cons pe_int pa_nil))) pa_nil)) (by rfl))
  (pss_cons (ps_set (i := 2) sc_law_product.nd rfl (by first | exact Or.inl rfl | exact Or.inr rfl) (pe_op op_rep (pe_lst (pa_cons pe_int pa_nil)) (pe_op op_sub (pe_op op_add (pe_callB (k_len K rfl) (by rfl) T.n_len (by decide +kernel) (pa_cons (pv 4) pa_nil)) (pe_callB (k_len K rfl) (by rfl) T.n_len (by decide +kernel) (pa_cons (pv 5) pa_nil))) pe_int)))
  (pss_cons (ps_for PassesOwn.never rfl (pi_range1 (by rfl) T.n_range (pa_cons (pe_callB (k_len K rfl) (by rfl) T.n_len (by decide +kernel) (pa_cons (pv 4) pa_nil)) pa_nil)) (pg_name (i := 3) sc_law_product.nd rfl (by first | exact Or.inl rfl | exact Or.inr rfl))
    (pss_one (ps_for PassesOwn.never rfl (pi_range1 (by rfl) T.n_range (pa_cons (pe_callB (k_len K rfl) (by rfl) T.n_len (by decide +kernel) (pa_cons (pv 5) pa_nil)) pa_nil)) (pg_name (i := 6) sc_law_product.nd rfl (by first | exact Or.inl rfl | exact Or.inr rfl))
    (pss_one (ps_asg (pe_op op_add (pe_ix (k_ixL K rfl) (pv 2) (pe_op op_add (pv 3) (pv 6)) (fun _ _ => rfl)) (pe_op op_mul (pe_ix (k_ixL K rfl) (pv 4) (pv 3) (fun _ _ => rfl)) (pe_ix (k_ixL K rfl) (pv 5) (pv 6) (fun _ _ => rfl)))) (pg_sub (pv 2) (pe_op op_add (pv 3) (pv 6)) set_list))))))
  (pss_one (ps_ret (pe_revL (pe_lc (own := [("_law_number", 7)]) (g := gName 7) (tt := tYes) (by rfl) sc_law_product.nd (k_piL K rfl (pe_slice (k_slL K rfl) (pv 2) po_none (po_some (pe_un un_neg pe_int)))) (blkOk_by (own := [("_law_number", 7)]) (N := N_law_product) (sc := defScope s_law_product) (by decide +kernel)) (fun _ _ _ _ _ => (pg_name (i := 7) sc_law_product.nd rfl (by first | exact Or.inl rfl | exact Or.inr rfl))) (fun _ _ _ _ _ => pts_nil) (fun _ _ _ _ _ => (pe_un un_neg (pv 7)))))))))), ?_⟩
  refine ⟨_, rfl, a, _, rfl, .inl (.inl ha), fun p1 np1 => ?_⟩
  obtain ⟨H1, e1, s1, hp1⟩ := fresh (.lst ((ws.map V.int).reverse)) np1
  rw [e1]
  rw [← List.map_reverse] at hp1
  refine ⟨p1, rfl, ⟨_, .inl (.inl hp1)⟩, fun D nD => ?_⟩
  refine lc_mapL (K := K) (xs := ws.reverse.map V.int) (ws.reverse.map fun x => V.int (-x)) nD (.inl (.inl hp1)) (by rw [List.length_map, List.length_map]) (by rw [List.length_map, List.length_reverse]; exact small4 (by omega)) (fun x => rfl) ?_ ?_
  · intro i x y H' hx hy s Qt qt
    obtain ⟨n, hn, rfl⟩ := int_at hx
    rw [List.getElem?_map, hn] at hy
    cases hy
    exact ⟨_, rfl, _, rfl, qt _ (Same.refl _)⟩
  · intro H2 s2 hD
    refine ⟨(by show 1 ≤ sizeLine; decide), fun p2 np2 => ?_⟩
    obtain ⟨H3, e3, s3, hp2⟩ := fresh (.lst [V.int 1]) np2
    rw [e3]
    refine ⟨D, p2, _, _, rfl, rfl, s3 _ _ hD, hp2, by rw [List.length_map, List.length_reverse, sizeLine_eq]; show _ + 1 ≤ _; omega, fun A nA => ?_⟩
    have eP : ∀ us : List Int, (us.reverse.map fun x => V.int (-x)) ++ [V.int 1] = (asP us).map V.int := fun us => by
      unfold asP
      rw [List.map_append, List.map_map]
      rfl
    rw [eP]
    obtain ⟨H4, e4, s4, hA⟩ := fresh (.lst ((asP ws).map V.int)) nA
    rw [e4]
    have s04 := ((s1.trans s2).trans s3).trans s4
    refine ⟨_, rfl, b, _, rfl, .inl (.inl (s04 _ _ hb)), fun p3 np3 => ?_⟩
    obtain ⟨H5, e5, s5, hp3⟩ := fresh (.lst ((us.map V.int).reverse)) np3
    rw [e5]
    rw [← List.map_reverse] at hp3
    refine ⟨p3, rfl, ⟨_, .inl (.inl hp3)⟩, fun D2 nD2 => ?_⟩
    refine lc_mapL (K := K) (xs := us.reverse.map V.int) (us.reverse.map fun x => V.int (-x)) nD2 (.inl (.inl hp3)) (by rw [List.length_map, List.length_map]) (by rw [List.length_map, List.length_reverse]; exact small4 (by omega)) (fun x => rfl) ?_ ?_
    · intro i x y H' hx hy s Qt qt
      obtain ⟨n, hn, rfl⟩ := int_at hx
      rw [List.getElem?_map, hn] at hy
      cases hy
      exact ⟨_, rfl, _, rfl, qt _ (Same.refl _)⟩
    · intro H6 s6 hD2
      refine ⟨(by show 1 ≤ sizeLine; decide), fun p4 np4 => ?_⟩
      obtain ⟨H7, e7, s7, hp4⟩ := fresh (.lst [V.int 1]) np4
      rw [e7]
      refine ⟨D2, p4, _, _, rfl, rfl, s7 _ _ hD2, hp4, by rw [List.length_map, List.length_reverse, sizeLine_eq]; show _ + 1 ≤ _; omega, fun B nB => ?_⟩
      rw [eP]
      obtain ⟨H8, e8, s8, hB⟩ := fresh (.lst ((asP us).map V.int)) nB
      rw [e8]
      have hA8 := s8 _ _ (s7 _ _ (s6 _ _ (s5 _ _ hA)))
      have s08 := s04.trans (((s5.trans s6).trans s7).trans s8)
      have lA : (asP ws).length = ws.length + 1 := asP_len ws
      have lB : (asP us).length = us.length + 1 := asP_len us
      have bA := asP_small (by decide) bw
      have bB := asP_small (by decide) bu
      generalize asP ws = As at *
      generalize asP us = Bs at *
      refine ⟨_, _, rfl, ?_⟩
      refine ⟨(by show 1 ≤ sizeLine; decide), fun p5 np5 => ?_⟩
      obtain ⟨H9, e9, s9, hp5⟩ := fresh (.lst [V.int 0]) np5
      rw [e9]
      refine ⟨_, rfl, A, _, rfl, .inl (.inl (.inl (s9 _ _ hA8))), _, rfl, B, _, rfl, .inl (.inl (.inl (s9 _ _ hB))), _, _, rfl, rfl, _, _, rfl, rfl, ?_⟩
      dsimp only
      rw [List.length_map, List.length_map, show ((As.length : Int) + (Bs.length : Int) - 1) = ((As.length + Bs.length - 1 : Nat) : Int) by omega]
      refine ⟨p5, _, _, rfl, rfl, hp5, by omega, by omega, by rw [Int.toNat_natCast, sizeLine_eq]; show 1 * _ ≤ _; omega, fun F nF => ?_⟩
      rw [Int.toNat_natCast, rep_int]
      have e0 : (List.replicate (As.length + Bs.length - 1) (0 : Int)).map V.int = rowZ (As.length + Bs.length - 1) (cvF As Bs 0 0) := rowZ_ext (by rw [List.length_map, List.length_replicate]) fun i hi => by rw [List.getElem?_map, List.getElem?_replicate, if_pos hi, cvF_nil]; rfl
      rw [e0]
      obtain ⟨H10, e10, s10, hF⟩ := fresh (.lst (rowZ (As.length + Bs.length - 1) (cvF As Bs 0 0))) nF
      rw [e10]
      have s010 := (s08.trans s9).trans s10
      have s810 := s9.trans s10
      have nF8 : H8 F = none := s9.free nF
      have nFH : H F = none := s08.free nF8
      refine ⟨_, rfl, A, _, rfl, .inl (.inl (.inl (s810 _ _ hA8))), ?_⟩
      rw [List.length_map]
      refine ⟨_, rfl, by omega, by omega, ?_⟩
      rw [Int.toNat_natCast]
      refine for_range (lo := 0) (n := As.length) (fun i σ HA => ∃ v3 v6 : Option V, σ = [some (.ref a), some (.ref b), some (.ref F), v3, some (.ref A), some (.ref B), v6, none, none] ∧ Same H8 HA ∧ HA F = some (.lst (rowZ (As.length + Bs.length - 1) (cvF As Bs i 0)))) ⟨none, none, rfl, s810, hF⟩ ?_ ?_
      · rintro i σ HA hi ⟨v3, v6, rfl, sA, hFA⟩
        rw [Int.zero_add]
        refine ⟨_, rfl, B, _, rfl, .inl (.inl (.inl (sA _ _ hB))), ?_⟩
        rw [List.length_map]
        refine ⟨_, rfl, by omega, by omega, ?_⟩
        rw [Int.toNat_natCast]
        refine for_range (lo := 0) (n := Bs.length) (fun j σ HB => ∃ v6 : Option V, σ = [some (.ref a), some (.ref b), some (.ref F), some (.int (i : Nat)), some (.ref A), some (.ref B), v6, none, none] ∧ Same H8 HB ∧ HB F = some (.lst (rowZ (As.length + Bs.length - 1) (cvF As Bs i j)))) ⟨v6, rfl, sA, hFA⟩ ?_ ?_
        · rintro j σ HB hj ⟨v6, rfl, sB, hFB⟩
          rw [Int.zero_add]
          have hij : i + j < As.length + Bs.length - 1 := by omega
          have hAi : (As.map V.int)[i]? = some (.int (As.getD i 0)) := by rw [ints_rowZ]; exact rowZ_get (fun p => As.getD p 0) hi
          have hBj : (Bs.map V.int)[j]? = some (.int (Bs.getD j 0)) := by rw [ints_rowZ]; exact rowZ_get (fun p => Bs.getD p 0) hj
          have sAi := small_getD bA i
          refine ⟨_, rfl, _, rfl, _, rfl, _, _, rfl, rfl, F, _, _, _, rfl, rfl, .inl (.inl hFB), by rw [← Int.natCast_add]; exact atI_nat (rowZ_get _ hij), ?_⟩
          refine ⟨_, rfl, _, rfl, A, _, _, _, rfl, rfl, .inl (.inl (sB _ _ hA8)), atI_nat hAi, _, rfl, _, rfl, B, _, _, _, rfl, rfl, .inl (.inl (sB _ _ hB)), atI_nat hBj, _, _, rfl, rfl, .inl ⟨by omega, by omega⟩, _, _, rfl, rfl, ?_⟩
          refine ⟨_, rfl, _, rfl, _, rfl, _, _, rfl, rfl, F, _, _, i + j, rfl, rfl, hFB, ?_, ?_⟩
          · unfold ixN
            rw [if_pos (by omega), if_pos (by rw [rowZ_len]; omega), ← Int.natCast_add]
            rfl
          · refine ⟨_, rfl, same_over nF8 sB, ?_⟩
            rw [upd_same]
            dsimp only
            rw [rowZ_set (g := cvF As Bs i (j + 1)) hij (by rw [cvF_step, if_pos rfl]) fun k hk => by rw [cvF_step, if_neg hk]]
        · rintro σ HB ⟨v6, rfl, sB, hFB⟩
          refine ⟨_, _, rfl, sB, ?_⟩
          rw [hFB]
          exact congrArg (fun l => some (HO.lst l)) (rowZ_congr fun k _ => cvF_next As Bs i k)
      · rintro σ HA ⟨v3, v6, rfl, sA, hFA⟩
        refine ⟨_, rfl, _, rfl, _, rfl, F, _, rfl, .inl (.inl hFA), fun p6 np6 => ?_⟩
        rw [cut_last, rowZ_len, rowZ_take (by omega)]
        obtain ⟨H11, e11, s11, hp6⟩ := fresh (.lst (rowZ (As.length + Bs.length - 1 - 1) (cvF As Bs As.length 0))) np6
        rw [e11]
        refine ⟨p6, rfl, ⟨_, .inl (.inl hp6)⟩, fun D3 nD3 => ?_⟩
        refine lc_mapL (K := K) (xs := rowZ (As.length + Bs.length - 1 - 1) (cvF As Bs As.length 0)) (rowZ (As.length + Bs.length - 1 - 1) fun k => -cvF As Bs As.length 0 k) nD3 (.inl (.inl hp6)) (by rw [rowZ_len, rowZ_len]) (by rw [rowZ_len]; exact small4 (by omega)) (fun x => rfl) ?_ ?_
        · intro k x y H' hx hy s Qt qt
          have hk : k < As.length + Bs.length - 1 - 1 := by
            have := (List.getElem?_eq_some_iff.mp hx).1
            rw [rowZ_len] at this
            exact this
          rw [rowZ_get _ hk] at hx hy
          cases hx
          cases hy
          exact ⟨_, rfl, _, rfl, qt _ (Same.refl _)⟩
        · intro H12 s12 hD3
          refine ⟨D3, _, rfl, .inl (.inl hD3), fun p7 np7 => ?_⟩
          have sfin := s08.trans ((sA.trans s11).trans s12)
          refine q _ p7 (sfin.trans (same_upd np7)) (sfin.free np7) ?_
          rw [upd_same]
          unfold prodL prodF
          rw [List.map_reverse, show As.length + Bs.length - 2 = As.length + Bs.length - 1 - 1 by omega, rowZ_ints]
def sp_law_lists : Sp := fun vs H Q _ => ∃ d m : Nat, vs = [.int d, .int m] ∧ 1 ≤ d ∧ d * m < 7 ∧ ∀ H' p xs, Same H H' → H p = none → H' p = some (.lst xs) → xs.length ≤ 100 → LsIn m H' xs → Q (.ref p) H'
theorem G_law_lists (T : Top K mg) : FnOk P w K mg base CX0 1 T.f_law_lists T.fd_law_lists ["_law_depth", "_law_many"] sp_law_lists := by
  refine T.F_law_lists.ok sc_law_lists (fun vs H Q E h => by obtain ⟨d, m, rfl, _⟩ := h; rfl) (fun cdv A outer s H vs Q E hr h => ?_)
  obtain ⟨d, m, rfl, hd1, hdm, q⟩ := h
  refine ⟨_, PSs.nox (pss_cons (ps_set (i := 2) sc_law_lists.nd rfl (by first | exact Or.inl rfl | exact Or.inr rfl) (pe_lst (pa_cons (pe_lst pa_nil) pa_nil)))
  (pss_cons (ps_for PassesOwn.never rfl (pi_range1 (by rfl) T.n_range (pa_cons (pv 1) pa_nil)) (pg_name (i := 3) sc_law_lists.nd rfl (by first | exact Or.inl rfl | exact Or.inr rfl))
    (pss_cons (ps_set (i := 4) sc_law_lists.nd rfl (by first | exact Or.inl rfl | exact Or.inr rfl) (pe_lst pa_nil))
  (pss_cons (ps_for PassesOwn.never rfl (k_piL K rfl (pv 2)) (pg_name (i := 5) sc_law_lists.nd rfl (by first | exact Or.inl rfl | exact Or.inr rfl))
    (pss_one (ps_set (i := 4) sc_law_lists.nd rfl (by first | exact Or.inl rfl | exact Or.inr rfl) (pe_op op_cat (pv 4) (pe_lc (own := [("_law_sample", 6)]) (g := gName 6) (tt := tYes) (by rfl) sc_law_lists.nd (pi_range2 (by rfl) T.n_range (pa_cons (pe_un un_neg (pe_op op_shl pe_int (pe_op op_sub (pv 0) pe_int))) (pa_cons (pe_op op_shl pe_int (pe_op op_sub (pv 0) pe_int)) pa_nil))) (blkOk_by (own := [("_law_sample", 6)]) (N := N_law_lists) (sc := defScope s_law_lists) (by decide +kernel)) (fun _ _ _ _ _ => (pg_name (i := 6) sc_law_lists.nd rfl (by first | exact Or.inl rfl | exact Or.inr rfl))) (fun _ _ _ _ _ => pts_nil) (fun _ _ _ _ _ => (pe_op op_cat (pv 5) (pe_lst (pa_cons (pv 6) pa_nil)))))))))
  (pss_one (ps_set (i := 2) sc_law_lists.nd rfl (by first | exact Or.inl rfl | exact Or.inr rfl) (pv 4))))))
  (pss_one (ps_ret (pv 2))))), ?_⟩
  have hm : m ≤ 6 := by
    have := Nat.mul_le_mul hd1 (Nat.le_refl m)
    omega
  refine ⟨Nat.zero_le _, fun p0 np0 => ?_⟩
  obtain ⟨H1, e1, s1, hp0⟩ := fresh (.lst ([] : List V)) np0
  rw [e1]
  refine ⟨(by show 1 ≤ sizeLine; decide), fun p1 np1 => ?_⟩
  obtain ⟨H2, e2, s2, hp1⟩ := fresh (.lst [V.ref p0]) np1
  rw [e2]
  refine ⟨_, rfl, _, rfl, by omega, by omega, ?_⟩
  rw [Int.toNat_natCast]
  refine for_range (lo := 0) (n := m) (fun t σ H3 => ∃ (p : Addr) (v3 v4 v5 : Option V) (xs : List V), σ = [some (.int d), some (.int m), some (.ref p), v3, v4, v5, none] ∧ Same H H3 ∧ H p = none ∧ H3 p = some (.lst xs) ∧ xs.length ≤ 2 ^ (d * t) ∧ LsIn t H3 xs) ⟨p1, none, none, none, [V.ref p0], rfl, s1.trans s2, s1.free np1, hp1, (by rw [Nat.mul_zero]; exact Nat.le_refl 1), fun y hy => ⟨p0, [], List.mem_singleton.mp hy, s2 _ _ hp0, rfl⟩⟩ ?_ ?_
  · rintro t σ H3 ht ⟨p, v3, v4, v5, xs, rfl, s3, np, hp, hl, hx⟩
    have hdt : d * (t + 1) ≤ 6 := by
      have := Nat.mul_le_mul_left d (show t + 1 ≤ m from ht)
      omega
    have hpw : 2 ^ (d * t) * 2 ^ d ≤ 64 := by
      rw [← Nat.pow_add, ← Nat.mul_succ]
      exact Nat.pow_le_pow_right (by decide) hdt
    have hd6 : d ≤ 6 := by
      have := Nat.mul_le_mul_left d (show 1 ≤ t + 1 by omega)
      omega
    have h2d : (2 : Int) * 2 ^ (d - 1) = ((2 ^ d : Nat) : Int) := by rw [two_half hd1, Int.natCast_pow]; rfl
    refine ⟨Nat.zero_le _, fun l0 nl0 => ?_⟩
    obtain ⟨H4, e4, s4, hl0⟩ := fresh (.lst ([] : List V)) nl0
    rw [e4]
    refine ⟨_, rfl, p, rfl, ⟨_, .inl (.inl (s4 _ _ hp))⟩, for_list (K := K) (a := p) (xs := xs) (fun i σ H5 => ∃ (l : Addr) (v5 : Option V) (zs : List V), σ = [some (.int d), some (.int m), some (.ref p), some (.int (0 + (t : Int))), some (.ref l), v5, none] ∧ Same H3 H5 ∧ H3 l = none ∧ H5 l = some (.lst zs) ∧ zs.length ≤ i * 2 ^ d ∧ LsIn (t + 1) H5 zs) ⟨l0, v5, [], rfl, s4, nl0, hl0, Nat.zero_le _, fun _ h => nomatch h⟩ (fun i σ H5 _ ⟨_, _, _, _, s5, _⟩ => .inl (.inl (s5 _ _ hp))) ?_ ?_⟩
    · rintro i x σ H5 hix ⟨l, v5, zs, rfl, s5, nl, hl5, hzl, hz5⟩
      obtain ⟨a, ys, rfl, ha, hyl⟩ := hx x (List.mem_of_getElem? hix)
      have hi : i < xs.length := (List.getElem?_eq_some_iff.mp hix).1
      have hzb : zs.length ≤ 64 := by
        have := Nat.mul_le_mul_right (2 ^ d) (show i ≤ 2 ^ (d * t) by omega)
        omega
      have ha5 := s5 _ _ ha
      refine ⟨_, rfl, _, rfl, _, _, rfl, rfl, _, _, rfl, rfl, ⟨by omega, by omega, by decide⟩, _, rfl, _, rfl, _, _, rfl, rfl, _, _, rfl, rfl, ⟨by omega, by omega, by decide⟩, ?_⟩
      walk_at "b"
      rw [show ((d : Int) - 1).toNat = d - 1 by omega, Int.one_mul]
      have hcap : (2 : Nat) ^ d ≤ 64 := Nat.pow_le_pow_right (by decide) (show d ≤ 6 from hd6)
      have hgp := half_pos d
      generalize (2 : Int) ^ (d - 1) = h at *
      refine ⟨_, _, rfl, ⟨by omega, by omega, by omega, by omega⟩, fun D nD => ?_⟩
      rw [show (h - -h).toNat = 2 ^ d by omega]
      refine lc_relR (lo := -h) (n := 2 ^ d) (fun _ y H => LsOk (t + 1) D y H) nD (small4 (by omega)) (fun _ _ _ _ o h => h.mono o) (fun x => rfl) ?_ ?_
      · intro k H6 ws hk s6 hD6 Qt qt
        refine ⟨_, rfl, _, rfl, (by show 1 ≤ sizeLine; decide), fun p2 np2 => ?_⟩
        obtain ⟨H7, e7, s7, hp2⟩ := fresh (.lst [V.int (-h + (k : Int))]) np2
        rw [e7]
        refine ⟨a, p2, _, _, rfl, rfl, s7 _ _ (s6 _ _ ha5), hp2, by rw [List.length_map, hyl, sizeLine_eq]; show _ + 1 ≤ _; omega, fun p3 np3 => ?_⟩
        refine qt _ _ (s7.trans (same_upd np3)) ⟨p3, ys ++ [-h + (k : Int)], rfl, (ne_of_none (s7 _ _ hD6) np3).symm, ?_, by rw [List.length_append, hyl]; rfl⟩
        rw [upd_same, List.map_append]
        rfl
      · intro H6 ws s6 hD6 hlw hRw
        have hl6 := s6 _ _ hl5
        refine ⟨l, D, _, _, rfl, rfl, hl6, hD6, by rw [hlw, sizeLine_eq]; omega, fun p3 np3 => ?_⟩
        obtain ⟨H7, e7, s7, hp3⟩ := fresh (.lst (zs ++ ws)) np3
        rw [e7]
        refine ⟨p3, _, zs ++ ws, rfl, (s5.trans s6).trans s7, (s5.trans s6).free np3, hp3, ?_, ?_⟩
        · rw [List.length_append, hlw, Nat.succ_mul]
          omega
        · intro y hy
          rcases List.mem_append.mp hy with hy | hy
          · exact (hz5.same (s6.trans s7)) y hy
          · obtain ⟨k, hk⟩ := List.mem_iff_getElem?.mp hy
            obtain ⟨c, cs, e, _, hc, hlc⟩ := hRw k y hk
            exact ⟨c, cs, e, s7 _ _ hc, hlc⟩
    · rintro σ H5 ⟨l, v5, zs, rfl, s5, nl, hl5, hzl, hz5⟩
      refine ⟨_, rfl, l, _, _, _, zs, rfl, s3.trans s5, s3.free nl, hl5, ?_, hz5⟩
      refine Nat.le_trans hzl ?_
      rw [Nat.mul_succ, Nat.pow_add]
      exact Nat.mul_le_mul_right _ hl
  · rintro σ H3 ⟨p, v3, v4, v5, xs, rfl, s3, np, hp, hl, hx⟩
    refine ⟨_, rfl, q H3 p xs s3 np hp (Nat.le_trans hl ?_) hx⟩
    exact Nat.le_trans (Nat.pow_le_pow_right (by decide) (show d * m ≤ 6 by omega)) (by decide)
end
end My

namespace My
open PySem PySem.Spec PyProof.Rows L2 Pre
/-! ### the law of rules: one rule against another -/
/-- a comprehension over a range that draws and makes things told of by R -/
theorem lc_drawW {lo : Int} {n : Nat} {j : Nat} {te : TE} {vs : List Nat} {σ : L2.St} {H1 : Hp} {D : Addr} {Qd : Hp → Prop} (g : Addr) (m step : Nat) (R : V → Hp → Prop) (nD : H1 D = none) (hG : GenAt H1 g m) (hz : n < sizeLine)
    (mono : ∀ (y : V) (H H' : Hp), (∀ b o, b ≠ D → b ≠ g → H b = some o → H' b = some o) → R y H → R y H') (hw : ∀ x, wipe ((wipe σ vs).set j (some x)) vs = wipe σ vs)
    (hs : ∀ (i : Nat) (H' : Hp) (zs : List V), i < n → But g H1 H' → GenAt H' g (m + step * i) → H' D = some (.lst zs) → ∀ Qt : V → Hp → Prop, (∀ (y : V) H'', R y H'' → But g H' H'' → GenAt H'' g (m + step * (i + 1)) → Qt y H'') → te ((wipe σ vs).set j (some (.int (lo + (i : Int))))) H' Qt)
    (hd : ∀ H' (ys : List V), But g H1 H' → GenAt H' g (m + step * n) → H' D = some (.lst ys) → ys.length = n → (∀ y ∈ ys, R y H') → Qd H') :
    ∃ W : Nat → Nat → Hp → Prop, (∃ m, W 0 m (upd H1 D (.lst []))) ∧ ∀ i m H, W i m H →
      ((Itr lo n).stop i H ∧ Qd H) ∨ ((Itr lo n).go i H ∧ ∃ Nx : Hp → Prop, (∀ H', Nx H' → ∃ m', m' < m ∧ W (i + 1) m' H') ∧ ∀ x H', (Itr lo n).yld i H x H' → gName j x (wipe σ vs) H' fun σ2 H2 => wipe σ2 vs = wipe σ vs ∧ tYes σ2 H2 fun b H3 =>
        if b = true then te σ2 H3 fun y H4 => ∃ acc, H4 D = some (.lst acc) ∧ acc.length < sizeLine ∧ Nx (upd H4 D (.lst (acc ++ [y]))) else Nx H3) := by
  have nDg : D ≠ g := hG.ne nD
  refine lc_range (lo := lo) (n := n) (fun i H => ∃ ys : List V, But g H1 H ∧ GenAt H g (m + step * i) ∧ H D = some (.lst ys) ∧ ys.length = i ∧ ∀ y ∈ ys, R y H)
    ⟨[], But.of (same_upd nD), hG.same (same_upd nD), upd_same, rfl, (fun _ h => nomatch h)⟩ ?_ ?_
  · rintro i H hi ⟨ys, b, hg, hD, hl, hR⟩
    refine ⟨hw _, ?_⟩
    unfold tYes
    dsimp only
    rw [if_pos (show true = true from rfl)]
    refine hs i H ys hi b hg hD _ fun y H4 r4 b4 g4 => ?_
    have hD4 := b4 _ _ nDg hD
    refine ⟨ys, hD4, by omega, ys ++ [y], ?_, ?_, upd_same, by rw [List.length_append, hl]; rfl, fun z hz => ?_⟩
    · intro c o nc hc
      rw [upd_ne (ne_of_none hc nD)]
      exact b4 c o nc (b c o nc hc)
    · obtain ⟨x', y', z', e1, e2, e3⟩ := g4
      exact ⟨x', y', z', by rw [upd_ne nDg.symm]; exact e1, e2, e3⟩
    · rcases List.mem_append.mp hz with h | h
      · exact mono z H _ (fun c o nc ng hc => by rw [upd_ne nc]; exact b4 c o ng hc) (hR z h)
      · rw [List.mem_singleton.mp h]
        exact mono y H4 _ (fun c o nc ng hc => by rw [upd_ne nc]; exact hc) r4
  · rintro H ⟨ys, b, hg, hD, hl, hR⟩
    exact hd H ys b hg hD hl hR
theorem alo_goR (h : Int) (ws : List Int) : Alo ws.length (goR h ws (aloL ws.length)) := by
  have hl : (aloL ws.length).length = ws.length := by unfold aloL; rw [List.length_append, List.length_replicate, List.length_replicate]; omega
  constructor
  · intro p hp
    rw [goR_first (by omega)]
    unfold aloL
    rw [List.getD_eq_getElem?_getD, List.getElem?_append_left (by rw [List.length_replicate]; omega), List.getElem?_replicate, if_pos (by omega)]
    rfl
  · intro hp
    rw [goR_first (by omega)]
    unfold aloL
    rw [List.getD_eq_getElem?_getD, List.getElem?_append_right (by rw [List.length_replicate]; exact Nat.le_refl _), List.length_replicate, Nat.sub_self, List.getElem?_replicate, if_pos (by omega)]
    rfl
theorem aloL_len (m : Nat) : (aloL m).length = m := by unfold aloL; rw [List.length_append, List.length_replicate, List.length_replicate]; omega
theorem tops_none {N : Int} {ws us : List Int} (h : placeO N ws us = none) : ∀ p, p < ws.length → redP N ws (asP us) p = 0 := by
  unfold placeO at h
  rw [Option.map_eq_none_iff, List.getLast?_eq_none_iff] at h
  intro p hp
  refine Classical.byContradiction fun c => ?_
  have : p ∈ topsL ws.length (redP N ws (asP us)) := List.mem_filter.mpr ⟨List.mem_range.mpr hp, decide_eq_true c⟩
  rw [h] at this
  cases this
theorem tops_some {N : Int} {ws us : List Int} {k : Nat} (h : placeO N ws us = some k) : ∃ t, t < ws.length ∧ redP N ws (asP us) t ≠ 0 ∧ (∀ p, t < p → p < ws.length → redP N ws (asP us) p = 0) ∧ k = us.length + (ws.length - 1 - t) := by
  unfold placeO at h
  obtain ⟨t, ht, rfl⟩ := Option.map_eq_some_iff.mp h
  have hm := List.mem_of_getLast? ht
  have htl := List.mem_range.mp (List.mem_filter.mp hm).1
  refine ⟨t, htl, of_decide_eq_true (List.mem_filter.mp hm).2, fun p hp hl => ?_, by omega⟩
  refine Classical.byContradiction fun c => ?_
  have hmem : p ∈ topsL ws.length (redP N ws (asP us)) := List.mem_filter.mpr ⟨List.mem_range.mpr hl, decide_eq_true c⟩
  have hpw : (topsL ws.length (redP N ws (asP us))).Pairwise (· < ·) := List.Pairwise.filter _ List.pairwise_lt_range
  obtain ⟨M, eM⟩ : ∃ M, topsL ws.length (redP N ws (asP us)) = M ++ [t] := by
    have hne : topsL ws.length (redP N ws (asP us)) ≠ [] := by intro e; rw [e] at ht; cases ht
    refine ⟨(topsL ws.length (redP N ws (asP us))).dropLast, ?_⟩
    have := List.dropLast_concat_getLast hne
    rw [List.getLast?_eq_some_getLast hne] at ht
    rw [← Option.some.inj ht]
    exact this.symm
  rw [eM] at hmem hpw
  rcases List.mem_append.mp hmem with h1 | h1
  · have := (List.pairwise_append.mp hpw).2.2 p h1 t (List.mem_singleton.mpr rfl)
    omega
  · have := List.mem_singleton.mp h1
    omega
theorem fail_none {d : Nat} (hd : 1 ≤ d) {ws us fs : List Int} (h : placeO (2 ^ d) ws us = none) (hf : fs.length = ws.length) {x : V} (hx : IsFail (2 ^ d) ws us (goR (2 ^ (d - 1)) ws fs) x) : x = .non := by
  rcases hx with ⟨e, _⟩ | ⟨i, _, _, hn, _⟩
  · exact e
  · refine absurd ?_ hn
    have hr := goR_fol (half_pos d) hf
    rw [two_half hd] at hr
    exact red_none (Int.pow_pos (by decide)) hr (tops_none h) i
theorem fail_some {d : Nat} (hd : 1 ≤ d) {ws us : List Int} {k : Nat} (h : placeO (2 ^ d) ws us = some k) {x : V} (hx : IsFail (2 ^ d) ws us (goR (2 ^ (d - 1)) ws (aloL ws.length)) x) : x = .int k := by
  obtain ⟨t, ht, hn, hz, rfl⟩ := tops_some h
  have hr := goR_fol (half_pos d) (aloL_len ws.length)
  rw [two_half hd] at hr
  obtain ⟨h1, h2⟩ := red_some (Int.pow_pos (by decide)) hr (alo_goR _ ws) ht hn hz
  exact hx.uniq (.inr ⟨ws.length - 1 - t, rfl, by omega, h2, h1⟩)
theorem prod_none {d : Nat} (hd : 1 ≤ d) {ws us : List Int} : placeO (2 ^ d) ws (prodL (asP ws) (asP us)) = none := by
  cases h : placeO (2 ^ d) ws (prodL (asP ws) (asP us)) with
  | none => rfl
  | some k =>
    obtain ⟨t, ht, hn, hz, rfl⟩ := tops_some h
    have hr := goR_fol (half_pos d) (aloL_len ws.length)
    rw [two_half hd] at hr
    obtain ⟨_, h2⟩ := red_some (Int.pow_pos (by decide)) hr (alo_goR _ ws) ht hn hz
    exact absurd (fol_prod hr _) h2
theorem place_small {N : Int} {ws us : List Int} {k : Nat} (hw : GoodR ws) (hu : GoodR us) (h : placeO N ws us = some k) : k < 20 := by
  obtain ⟨t, ht, _, _, rfl⟩ := tops_some h
  have := hw.1
  have := hu.1
  omega
theorem shown_pairs : ∀ m < 9, ∀ k < 20, (PyData.tuple [rowD (aloL m), .int ((k : Nat) : Int)]).showable = true ∧ SeqAt.shaped (.tuple [rowD (aloL m), .int ((k : Nat) : Int)]) = true ∧ (PyData.tuple [rowD (aloL m), .int ((k : Nat) : Int)]).shown.length ≤ sizeLine := by decide +kernel
end My

namespace My
open PySem PySem.Spec PyProof.Rows L2 Pre
/-! ### the law of rules: one rule against another, in the law -/
/-- what is shown of a thing -/
def Shw (K : PySem.W.Frag) (H : Hp) (x : V) (t : Str) : Prop := (∃ d, Dp K H x d ∧ d.showable = true ∧ SeqAt.shaped d = true ∧ d.shown.length ≤ sizeLine ∧ t = d.shown) ∨ ∃ a : Addr, x = .ref a ∧ H a = some (.dK []) ∧ t = (PyData.dict []).shown
theorem Shw.same {K : PySem.W.Frag} {H H' : Hp} {x : V} {t : Str} (s : Same H H') (h : Shw K H x t) : Shw K H' x t := by
  rcases h with ⟨d, hd, h⟩ | ⟨a, e, ha, h⟩
  · exact .inl ⟨d, Pre.dp_same s _ _ hd, h⟩
  · exact .inr ⟨a, e, s _ _ ha, h⟩
theorem Shw.repr {K : PySem.W.Frag} {H : Hp} {x : V} {t : Str} {Q : VK} (h : Shw K H x t) (q : Q (.str t) H) : rReprX K [x] H Q := by
  rcases h with ⟨d, hd, h1, h2, h3, rfl⟩ | ⟨a, rfl, ha, rfl⟩
  · exact .inl ⟨x, d, rfl, hd, h1, h2, h3, q⟩
  · exact .inr ⟨a, rfl, ha, q⟩
/-- a pair that tells what was refused -/
def Told (tag : Str) (x : V) (D : Addr) (y : V) (H : Hp) : Prop := ∃ a : Addr, y = .ref a ∧ a ≠ D ∧ H a = some (.lst [.str tag, x])
theorem Told.mono {tag : Str} {x y : V} {D : Addr} {H H' : Hp} (o : Off D H H') (h : Told tag x D y H) : Told tag x D y H' := by
  obtain ⟨a, e, n, ha⟩ := h
  exact ⟨a, e, n, o _ _ n ha⟩
theorem at1 {α : Type} (x y : α) (r : List α) : atI (x :: y :: r) 1 = some y := atI_nat (xs := x :: y :: r) (j := 1) rfl
theorem shw_str {K : PySem.W.Frag} {H : Hp} (x : Str) (h1 : (PyData.str x).showable = true := by decide +kernel) (h2 : SeqAt.shaped (.str x) = true := by decide +kernel) (h3 : (PyData.str x).shown.length ≤ sizeLine := by decide +kernel) : ∃ t, Shw K H (.str x) t := ⟨_, .inl ⟨.str x, .str x, h1, h2, h3, rfl⟩⟩
theorem shw_non {K : PySem.W.Frag} {H : Hp} : ∃ t, Shw K H .non t := ⟨_, .inl ⟨.none, .non, by decide +kernel, by decide +kernel, by decide +kernel, rfl⟩⟩
theorem shw_bl {K : PySem.W.Frag} {H : Hp} : ∃ t, Shw K H (.bl true) t := ⟨_, .inl ⟨.bool true, .bl true, by decide +kernel, by decide +kernel, by decide +kernel, rfl⟩⟩
theorem shw_int {K : PySem.W.Frag} {H : Hp} (i : Int) (h1 : (PyData.int i).showable = true := by decide +kernel) (h2 : SeqAt.shaped (.int i) = true := by decide +kernel) (h3 : (PyData.int i).shown.length ≤ sizeLine := by decide +kernel) : ∃ t, Shw K H (.int i) t := ⟨_, .inl ⟨.int i, .int i, h1, h2, h3, rfl⟩⟩
local macro_rules | `(tactic| walk_at "go") => `(tactic| repeat (first | (with_reducible first | refine iteT ?_ | refine iteF ?_ | refine iteNtt ?_ | refine iteNff ?_ | refine iteET (by omega) ?_ | refine iteEF (by omega) ?_ | refine iteENT (by omega) ?_ | refine iteENF (by omega) ?_ | refine iteDT (by omega) ?_ | refine iteDF (by omega) ?_ | refine iteNT (by omega) ?_ | refine iteNF (by omega) ?_) | refine ⟨_, rfl, ?_⟩ | refine ⟨_, _, rfl, rfl, ?_⟩ | refine ⟨_, _, rfl, ?_⟩ | refine ⟨rfl, ?_⟩ | refine .inl ⟨_, rfl, ?_⟩ | refine .inr ⟨_, rfl, ?_⟩))
local macro_rules | `(tactic| walk_at "b") => `(tactic| try dsimp (config := { proj := false, iota := false, eta := false, zeta := false }) only)
section
variable {P : Program} {w : World} {K : PySem.W.Frag} {mg : Str → Option Value} {base : Heap} [pf : Sup.PF P fileS]
def sp_law_good : Sp := fun vs H Q _ => ∃ (g a b : Addr) (n d : Nat) (ws us : List Int), vs = [.ref g, .int d, .ref a, .ref b] ∧ GenAt H g n ∧ n ≤ 10 ^ 8 ∧ H a = some (.lst (ws.map V.int)) ∧ H b = some (.lst (us.map V.int)) ∧ a ≠ g ∧ b ≠ g ∧ GoodR ws ∧ GoodR us ∧ 1 ≤ d ∧ d ≤ 24 ∧ ∀ H', But g H H' → GenAt H' g (n + 10000) → Q (.bl true) H'
theorem G_law_good (T : Top K mg) : FnG P w K mg base CX0 5 T.f_law_good T.fd_law_good ["_law_generator_here", "_law_depth", "_law_one", "_law_other"] sp_law_good := by
  refine FnG.body T.F_law_good sc_law_good (fun vs H Q E h => by obtain ⟨g, a, b, n, d, ws, us, rfl, _⟩ := h; rfl) (fun cdv A outer s H vs Q E gd hr h => ?_)
  obtain ⟨g, a, b, n, d, ws, us, rfl, hG, hn, ha, hb, ag, bg, gw, gu, d1, d2, q⟩ := h
  refine ⟨_, PSs.nox (pss_cons (ps_par (by rfl) sc_law_good.nd (i := 5) (j := 6) rfl rfl (by decide) rfl rfl (pa_cons (pe_lst (pa_cons (pe_callTy (k_listOf K rfl) (by rfl) T.n_list (by decide +kernel) (pa_cons (pv 2) pa_nil)) (pa_cons (pe_callTy (k_listOf K rfl) (by rfl) T.n_list (by decide +kernel) (pa_cons (pv 3) pa_nil)) pa_nil))) (pa_cons (pe_op op_cat (pe_op op_rep (pe_lst (pa_cons pe_int pa_nil)) (pe_op op_sub (pe_callB (k_len K rfl) (by rfl) T.n_len (by decide +kernel) (pa_cons (pv 2) pa_nil)) pe_int)) (pe_op op_rep (pe_lst (pa_cons (pe_un un_neg pe_int) pa_nil)) (pe_callB (call_min2 rfl) (by rfl) T.n_min (by decide +kernel) (pa_cons (pe_callB (k_len K rfl) (by rfl) T.n_len (by decide +kernel) (pa_cons (pv 2) pa_nil)) (pa_cons pe_int pa_nil))))) pa_nil)) (by rfl))
  (pss_cons (ps_par (by rfl) sc_law_good.nd (i := 7) (j := 8) rfl rfl (by decide) rfl rfl (pa_cons (pe_call (G_leads_all (P := P) T) (hr.mono (by decide)) (by rfl) T.g_leads_all T.F_leads_all.kp T.b_leads_all .nil passL (pa_cons (pv 1) (pa_cons (pe_ix (k_ixL K rfl) (pv 5) pe_int (fun _ _ => rfl)) (pa_cons (pe_ix (k_ixL K rfl) (pv 5) pe_int (fun _ _ => rfl)) pa_nil)))) (pa_cons (pe_call (G_law_failing (P := P) T) (hr.mono (by decide)) (by rfl) T.g_law_failing T.F_law_failing.kp T.b_law_failing .nil pass0 (pa_cons (pv 1) (pa_cons (pv 2) (pa_cons (pv 6) (pa_cons (pv 3) pa_nil))))) pa_nil)) (by rfl))
  (pss_cons (ps_if (PW.pt (pw_or (pt_cmpR (k_neD K rfl hr.units) (pv 5) (pe_lst (pa_cons (pv 2) (pa_cons (pv 3) pa_nil))) (nomark _)) (pw_or1 (pt_cmpR op_ne (pe_callB (k_reprX K rfl gd (hu65 hr)) (by rfl) T.n_repr (by decide +kernel) (pa_cons (pv 7) pa_nil)) (pe_callB (k_reprX K rfl gd (hu65 hr)) (by rfl) T.n_repr (by decide +kernel) (pa_cons (pe_ifExp (pt_cmpR op_isN (pv 8) pe_non (nomark _)) pe_non (pe_tup (pa_cons (pv 6) (pa_cons (pv 8) pa_nil)))) pa_nil)) (nomark _)))))
    (pss_one (ps_ret pe_bl))
    pss_nil)
  (pss_cons (ps_if (pt_cmpR op_notN (pv 7) pe_non (nomark _))
    (pss_cons (ps_expr (pe_bm PySem.F.plainAttrs_list PySem.F.slot_list_append PySem.F.type_list_append mt_append (pe_ix (k_ixT K rfl) (pv 7) pe_int (fun _ _ => rfl)) (pa_cons pe_non pa_nil)))
  (pss_one (ps_ret (pe_cmpR (k_eqD K rfl hr.units) (pe_ix (k_ixT K rfl) (pe_call (G_leads_all (P := P) T) (hr.mono (by decide)) (by rfl) T.g_leads_all T.F_leads_all.kp T.b_leads_all .nil passL (pa_cons (pv 1) (pa_cons (pv 2) (pa_cons (pv 3) pa_nil)))) pe_int (fun _ _ => rfl)) (pv 6) (nomark _)))))
    pss_nil)
  (pss_cons (ps_setLc (i := 4) (own := [("_law_turn", 9)]) (g := gName 9) (tt := tYes) (by rfl) sc_law_good.nd rfl rfl (sw_true rfl rfl rfl (by decide +kernel)) (pi_range1 (by rfl) T.n_range (pa_cons pe_int pa_nil)) (blkOk_by (own := [("_law_turn", 9)]) (N := N_law_good) (sc := defScope s_law_good) (by decide +kernel)) (fun _ _ _ _ _ => (pg_name (i := 9) sc_law_good.nd rfl (by first | exact Or.inl rfl | exact Or.inr rfl))) (fun _ _ _ _ _ => pts_nil) (fun _ _ _ _ _ => (pe_call (G_law_row (P := P) T) (hr.mono (by decide)) (by rfl) T.g_law_row T.F_law_row.kp T.b_law_row .nil pass0 (pa_cons (pv 0) (pa_cons (pv 1) (pa_cons (pe_callB (k_len K rfl) (by rfl) T.n_len (by decide +kernel) (pa_cons (pv 2) pa_nil)) pa_nil))))))
  (pss_cons (ps_if (pt_cmpR op_lt (pe_op op_mul (pv 1) (pe_callB (k_len K rfl) (by rfl) T.n_len (by decide +kernel) (pa_cons (pv 2) pa_nil))) pe_int (nomark _))
    (pss_one (ps_set (i := 4) sc_law_good.nd rfl (by first | exact Or.inl rfl | exact Or.inr rfl) (pe_op op_cat (pv 4) (pe_call (G_law_lists (P := P) T) (hr.mono (by decide)) (by rfl) T.g_law_lists T.F_law_lists.kp T.b_law_lists .nil pass0 (pa_cons (pv 1) (pa_cons (pe_callB (k_len K rfl) (by rfl) T.n_len (by decide +kernel) (pa_cons (pv 2) pa_nil)) pa_nil))))))
    pss_nil)
  (pss_one (ps_ret (pe_cmpR (k_eqD K rfl hr.units) (pe_lc (own := [("_law_firsts", 10)]) (g := gName 10) (by rfl) sc_law_good.nd (k_piL K rfl (pv 4)) (blkOk_by (own := [("_law_firsts", 10)]) (N := N_law_good) (sc := defScope s_law_good) (by decide +kernel)) (fun _ _ _ _ _ => (pg_name (i := 10) sc_law_good.nd rfl (by first | exact Or.inl rfl | exact Or.inr rfl))) (fun _ _ _ _ _ => (pts_one (pt_cmpR op_notN (pe_call (G_law_failing (P := P) T) (hr.mono (by decide)) (by rfl) T.g_law_failing T.F_law_failing.kp T.b_law_failing .nil pass0 (pa_cons (pv 1) (pa_cons (pv 2) (pa_cons (pv 10) (pa_cons (pv 3) pa_nil))))) pe_non (nomark _)))) (fun _ _ _ _ _ => (pv 10))) (pe_lst pa_nil) (nomark _)))))))))), ?_⟩
  have hws := gw.1
  have hus := gu.1
  refine ⟨_, rfl, a, _, rfl, .inl (.inl (.inl ha)), fun c1 nc1 => ?_⟩
  obtain ⟨H1, e1, s1, hc1⟩ := fresh (.lst (ws.map V.int)) nc1
  rw [e1]
  refine ⟨_, rfl, b, _, rfl, .inl (.inl (.inl (s1 _ _ hb))), fun c2 nc2 => ?_⟩
  obtain ⟨H2, e2, s2, hc2⟩ := fresh (.lst (us.map V.int)) nc2
  rw [e2]
  refine ⟨(by show 2 ≤ sizeLine; decide), fun gv ngv => ?_⟩
  obtain ⟨H3, e3, s3, hgv⟩ := fresh (.lst [V.ref c1, V.ref c2]) ngv
  rw [e3]
  have ha3 := s3 _ _ (s2 _ _ (s1 _ _ ha))
  have hb3 := s3 _ _ (s2 _ _ (s1 _ _ hb))
  have hc13 := s3 _ _ (s2 _ _ hc1)
  have hc23 := s3 _ _ hc2
  have s03 := (s1.trans s2).trans s3
  refine ⟨(by show 1 ≤ sizeLine; decide), fun p1 np1 => ?_⟩
  obtain ⟨H4, e4, s4, hp1⟩ := fresh (.lst [V.int 0]) np1
  rw [e4]
  refine ⟨_, rfl, a, _, rfl, .inl (.inl (.inl (s4 _ _ ha3))), _, _, rfl, rfl, ?_⟩
  dsimp only
  rw [List.length_map]
  refine ⟨p1, _, _, rfl, rfl, hp1, by omega, by omega, by rw [sizeLine_eq]; show 1 * _ ≤ _; omega, fun p2 np2 => ?_⟩
  rw [show (((ws.length : Nat) : Int) - 1).toNat = ws.length - 1 by omega, rep_int]
  obtain ⟨H5, e5, s5, hp2⟩ := fresh (.lst ((List.replicate (ws.length - 1) (0 : Int)).map V.int)) np2
  rw [e5]
  refine ⟨_, rfl, (by show 1 ≤ sizeLine; decide), fun p3 np3 => ?_⟩
  obtain ⟨H6, e6, s6, hp3⟩ := fresh (.lst [V.int (-1)]) np3
  rw [e6]
  refine ⟨_, rfl, a, _, rfl, .inl (.inl (.inl (s6 _ _ (s5 _ _ (s4 _ _ ha3))))), ?_⟩
  refine ⟨_, _, rfl, ?_⟩
  rw [List.length_map, show (if (1 : Int) < ((ws.length : Nat) : Int) then (1 : Int) else ((ws.length : Nat) : Int)) = ((min ws.length 1 : Nat) : Int) by split <;> omega]
  refine ⟨p3, _, _, rfl, rfl, hp3, by omega, by omega, by rw [sizeLine_eq]; show 1 * _ ≤ _; omega, fun p4 np4 => ?_⟩
  rw [Int.toNat_natCast, rep_int]
  obtain ⟨H7, e7, s7, hp4⟩ := fresh (.lst ((List.replicate (min ws.length 1) (-1 : Int)).map V.int)) np4
  rw [e7]
  refine ⟨p2, p4, _, _, rfl, rfl, s7 _ _ (s6 _ _ hp2), hp4, by rw [List.length_map, List.length_map, List.length_replicate, List.length_replicate, sizeLine_eq]; omega, fun p5 np5 => ?_⟩
  rw [← List.map_append]
  obtain ⟨H8, e8, s8, hp5⟩ := fresh (.lst ((aloL ws.length).map V.int)) np5
  have s48 := ((s4.trans s5).trans (s6.trans s7)).trans s8
  rw [show (List.replicate (ws.length - 1) (0 : Int) ++ List.replicate (min ws.length 1) (-1)) = aloL ws.length from rfl, e8]
  refine ⟨_, _, rfl, ?_⟩
  have s08 := s03.trans s48
  have ha8 := s08 _ _ ha
  have hb8 := s08 _ _ hb
  have hc18 := s48 _ _ hc13
  have hc28 := s48 _ _ hc23
  have hgv8 := s48 _ _ hgv
  have hG8 := hG.same s08
  refine ⟨_, rfl, _, rfl, gv, _, _, _, rfl, rfl, .inl (.inl hgv8), atI_nat (j := 0) rfl, _, rfl, gv, _, _, _, rfl, rfl, .inl (.inl hgv8), at1 _ _ _, ?_⟩
  refine ⟨_, _, _, rfl, .inl ⟨d, rfl, d1, d2, .inl ⟨c1, ws, rfl, hc18, gw, .inl ⟨c2, us, rfl, hc28, gu, fun H9 s9 => ?_⟩⟩⟩⟩
  have ha9 := s9 _ _ ha8
  have hb9 := s9 _ _ hb8
  have hp59 := s9 _ _ hp5
  have hgv9 := s9 _ _ hgv8
  have hc19 := s9 _ _ hc18
  have hc29 := s9 _ _ hc28
  have s09 := s08.trans s9
  have eqvR : ∀ ws us : List Int, PyData.eqv (.list [rowD ws, rowD us]) (.list [rowD ws, rowD us]) = true := fun ws us => by
    unfold rowD
    simp [PyData.eqv, PyData.eqvAll, eqv_ints]
  have same2 : ∀ {H' : Hp} {pl : Addr}, Same H9 H' → H' pl = some (.lst [V.ref a, V.ref b]) → ∀ {Q' : VK}, Q' (.bl false) H' → rNeD K (.ref gv) (.ref pl) H' Q' := fun {H' pl} s hl {Q'} q' => by
    refine ⟨.list [rowD ws, rowD us], .list [rowD ws, rowD us], .lst (.inl (.inl (s _ _ hgv9))) (.cons (.lst (.inl (.inl (s _ _ hc19))) (Pre.dp_ints ws)) (.cons (.lst (.inl (.inl (s _ _ hc29))) (Pre.dp_ints us)) .nil)), .lst (.inl (.inl hl)) (.cons (.lst (.inl (.inl (s _ _ ha9))) (Pre.dp_ints ws)) (.cons (.lst (.inl (.inl (s _ _ hb9))) (Pre.dp_ints us)) .nil)), rows_shaped [ws, us], rows_shaped [ws, us], ?_⟩
    rw [eqvR]
    exact q'
  have s89 : Same H8 H9 := s9
  refine ⟨fun hnone => ?_, fun k t p hk nt np ht hp => ?_⟩
  · refine ⟨_, rfl, _, rfl, _, rfl, _, rfl, a, p5, b, d, ws, aloL ws.length, us, rfl, ha9, hp59, hb9, gw, gu, aloL_len _, d1, d2, fun H10 x s10 hx => ?_⟩
    obtain rfl := fail_none d1 hnone (aloL_len _) hx
    refine ⟨_, _, rfl, ?_⟩
    refine ⟨_, rfl, _, rfl, _, rfl, (by show 2 ≤ sizeLine; decide), fun pl npl => ?_⟩
    obtain ⟨H11, e11, s11, hpl⟩ := fresh (.lst [V.ref a, V.ref b]) npl
    rw [e11]
    refine same2 (s10.trans s11) hpl ⟨_, rfl, iteF ?_⟩
    obtain ⟨tx, htx⟩ := shw_non (K := K) (H := H11)
    refine ⟨_, rfl, htx.repr ⟨_, rfl, rfl, _, rfl, iteDT rfl (htx.repr ⟨rfl, _, rfl, iteNF rfl ?_⟩)⟩⟩
    refine ⟨_, rfl, rfl, _, rfl, iteNF rfl ?_⟩
    have s011 := (s09.trans s10).trans s11
    have ha11 := s011 _ _ ha
    have hb11 := s011 _ _ hb
    have hG11 := hG.same s011
    refine ⟨_, rfl, by omega, by omega, fun D nD => ?_⟩
    refine lc_drawW (lo := 0) (n := Int.toNat 4) g n 1000 (fun y H => ∃ (e : Addr) (ys : List Int), y = .ref e ∧ e ≠ D ∧ e ≠ g ∧ H e = some (.lst (ys.map V.int)) ∧ ys.length = ws.length) nD hG11 (small4 (by decide)) ?_ (fun x => rfl) ?_ ?_
    · rintro y X X' k ⟨e, ys, rfl, eD, eg, he, hl⟩
      exact ⟨e, ys, rfl, eD, eg, k _ _ eD eg he, hl⟩
    · intro i H' zs hi b' g' hD' Qt qt
      refine ⟨_, rfl, _, rfl, _, rfl, a, _, rfl, .inl (.inl (.inl (b' _ _ ag ha11))), g, _, d, _, rfl, g', by omega, d1, d2, by rw [List.length_map]; omega, fun H2 p ys b2 np npg g2 hp hl => ?_⟩
      rw [List.length_map] at hl
      exact qt _ _ ⟨p, ys, rfl, (ne_of_none hD' np).symm, npg, hp, hl⟩ b2 (g2.mono (by omega))
    · intro H12 ys b12 g12 hD hyl hR
      have ha12 := b12 _ _ ag ha11
      have hb12 := b12 _ _ bg hb11
      have hin : LsIn ws.length H12 ys := fun y hy => by
        obtain ⟨e, zs, e1, _, _, e4, e5⟩ := hR y hy
        exact ⟨e, zs, e1, e4, e5⟩
      have b012 : But g H H12 := (But.of s011).trans b12
      have g012 : GenAt H12 g (n + 10000) := g12.mono (by show n + 1000 * 4 ≤ _; omega)
      have hyl' : ys.length = 4 := hyl
      have each : ∀ {H13 : Hp} {L : Addr} {zs : List V}, Same H12 H13 → H13 L = some (.lst zs) → LsIn ws.length H13 zs → ∀ (y : V) (H' : Hp), y ∈ zs → Same H13 H' → ∃ (e : Addr) (ys : List Int), y = .ref e ∧ H' e = some (.lst (ys.map V.int)) ∧ ys.length = ws.length ∧ H' a = some (.lst (ws.map V.int)) ∧ H' b = some (.lst (us.map V.int)) := fun {H13 L zs} s hL hz y H' hy s' => by
        obtain ⟨e, ys, rfl, he, hl⟩ := hz y hy
        exact ⟨e, ys, rfl, s' _ _ he, hl, s' _ _ (s _ _ ha12), s' _ _ (s _ _ hb12)⟩
      refine ⟨_, rfl, _, rfl, a, _, rfl, .inl (.inl (.inl ha12)), ?_⟩
      have nones : ∀ l : List V, (l.map fun _ => (none : Option V)).filterMap id = [] := fun l => by
        induction l with
        | nil => rfl
        | cons x r ih => rw [List.map_cons, List.filterMap_cons]; exact ih
      refine ⟨_, _, rfl, rfl, .inl ⟨by omega, by omega⟩, _, _, rfl, rfl, _, rfl, ite2 (fun e => ?_) (fun e => ?_)⟩
      · have e1 := of_decide_eq_true e
        rw [List.length_map, ← Int.natCast_mul] at e1
        refine ⟨_, rfl, _, rfl, _, rfl, a, _, rfl, .inl (.inl (.inl ha12)), d, _, rfl, d1, by rw [List.length_map]; omega, fun H13 p xs s13 np hp hxl hxs => ?_⟩
        rw [List.length_map] at hxs
        refine ⟨D, p, _, _, rfl, rfl, s13 _ _ hD, hp, by rw [hyl', sizeLine_eq]; omega, fun p3 np3 => ?_⟩
        obtain ⟨H15, e15, s15, hp3⟩ := fresh (.lst (ys ++ xs)) np3
        rw [e15]
        have hz : LsIn ws.length H15 (ys ++ xs) := fun y hy => by
          rcases List.mem_append.mp hy with h | h
          · exact (hin.same (s13.trans s15)) y h
          · exact (hxs.same s15) y h
        refine ⟨_, rfl, p3, rfl, ⟨_, .inl (.inl hp3)⟩, fun D2 nD2 => ?_⟩
        refine lc_selL (K := K) (xs := (ys ++ xs)) ((ys ++ xs).map fun _ => none) nD2 (.inl (.inl hp3)) (by rw [List.length_map]) (small4 (by rw [List.length_append]; omega)) (fun x => rfl) ?_ ?_
        · intro i x o H' hx ho s Qt qt
          rw [List.getElem?_map, hx] at ho
          cases ho
          obtain ⟨e, ys, rfl, he, hl, ha', hb'⟩ := each (s13.trans s15) hp3 hz x H' (List.mem_of_getElem? hx) s
          refine ⟨_, rfl, _, rfl, _, rfl, _, rfl, a, e, b, d, ws, ys, us, rfl, ha', he, hb', gw, gu, hl, d1, d2, fun H'' x s'' hx => ?_⟩
          obtain rfl := fail_none d1 hnone hl hx
          exact ⟨rfl, _, rfl, iteNF rfl (qt _ s'')⟩
        · intro H14 s14 hD2
          refine ⟨Nat.zero_le _, fun p4 np4 => eqD_lst (ns := []) (ms := []) (.inl (.inl (same_upd np4 _ _ (by rw [hD2]; exact congrArg (fun l => some (HO.lst l)) (nones _))))) (.inl (.inl upd_same)) ?_⟩
          exact q _ (b012.same (((s13.trans s15)).trans (s14.trans (same_upd np4)))) (g012.same (((s13.trans s15)).trans (s14.trans (same_upd np4))))
      · dsimp only
        refine ⟨_, rfl, D, rfl, ⟨_, .inl (.inl hD)⟩, fun D2 nD2 => ?_⟩
        refine lc_selL (K := K) (xs := ys) (ys.map fun _ => none) nD2 (.inl (.inl hD)) (by rw [List.length_map]) (small4 (by omega)) (fun x => rfl) ?_ ?_
        · intro i x o H' hx ho s Qt qt
          rw [List.getElem?_map, hx] at ho
          cases ho
          obtain ⟨e, ys, rfl, he, hl, ha', hb'⟩ := each (Same.refl _) hD hin x H' (List.mem_of_getElem? hx) s
          refine ⟨_, rfl, _, rfl, _, rfl, _, rfl, a, e, b, d, ws, ys, us, rfl, ha', he, hb', gw, gu, hl, d1, d2, fun H'' x s'' hx => ?_⟩
          obtain rfl := fail_none d1 hnone hl hx
          exact ⟨rfl, _, rfl, iteNF rfl (qt _ s'')⟩
        · intro H14 s14 hD2
          refine ⟨Nat.zero_le _, fun p4 np4 => eqD_lst (ns := []) (ms := []) (.inl (.inl (same_upd np4 _ _ (by rw [hD2]; exact congrArg (fun l => some (HO.lst l)) (nones _))))) (.inl (.inl upd_same)) ?_⟩
          exact q _ (b012.same (((Same.refl _)).trans (s14.trans (same_upd np4)))) (g012.same (((Same.refl _)).trans (s14.trans (same_upd np4))))
  · refine ⟨_, rfl, _, rfl, _, rfl, _, rfl, a, p5, b, d, ws, aloL ws.length, us, rfl, ha9, hp59, hb9, gw, gu, aloL_len _, d1, d2, fun H10 x s10 hx => ?_⟩
    obtain rfl := fail_some d1 hk hx
    refine ⟨_, _, rfl, ?_⟩
    refine ⟨_, rfl, _, rfl, _, rfl, (by show 2 ≤ sizeLine; decide), fun pl npl => ?_⟩
    obtain ⟨H11, e11, s11, hpl⟩ := fresh (.lst [V.ref a, V.ref b]) npl
    rw [e11]
    refine same2 (s10.trans s11) hpl ⟨_, rfl, iteF ?_⟩
    have s911 := s10.trans s11
    have ht11 := s911 _ _ ht
    have hp11 := s911 _ _ hp
    have hp511 := s911 _ _ hp59
    obtain ⟨sh1, sh2, sh3⟩ := shown_pairs ws.length (by omega) k (place_small gw gu hk)
    have hS : Shw K H11 (.ref t) (PyData.tuple [rowD (aloL ws.length), .int ((k : Nat) : Int)]).shown := .inl ⟨_, .tup (.inl (.inl ht11)) (.cons (.lst (.inl (.inl hp11)) (Pre.dp_ints _)) (.cons (.int _) .nil)), sh1, sh2, sh3, rfl⟩
    refine ⟨_, rfl, hS.repr ⟨_, rfl, rfl, _, rfl, iteDF (fun z => nomatch z) ⟨_, rfl, _, rfl, (by show 2 ≤ sizeLine; decide), fun tp ntp => ?_⟩⟩⟩
    obtain ⟨H12, e12, s12, htp⟩ := fresh (.tup [V.ref p5, V.int (k : Int)]) ntp
    rw [e12]
    have hS2 : Shw K H12 (.ref tp) (PyData.tuple [rowD (aloL ws.length), .int ((k : Nat) : Int)]).shown := .inl ⟨_, .tup (.inl (.inl htp)) (.cons (.lst (.inl (.inl (s12 _ _ hp511))) (Pre.dp_ints _)) (.cons (.int _) .nil)), sh1, sh2, sh3, rfl⟩
    refine hS2.repr ⟨rfl, _, rfl, iteNF rfl ?_⟩
    refine ⟨_, rfl, rfl, _, rfl, iteNT (fun z => nomatch z) ?_⟩
    refine ⟨_, rfl, t, _, _, _, rfl, rfl, .inl (.inl (s12 _ _ ht11)), atI_nat (j := 0) rfl, ?_⟩
    have hp12 := s12 _ _ hp11
    refine ⟨.inl ⟨rfl, _, .inl (.inl hp12)⟩, p, _, _, rfl, rfl, hp12, by rw [List.length_map, aloL_len]; exact small4 (by omega), ?_⟩
    have s812 : Same H8 H12 := (s89.trans s911).trans s12
    have s813 := same_over (o := .lst ((aloL ws.length).map V.int ++ [V.non])) np s812
    generalize upd H12 p (.lst ((aloL ws.length).map V.int ++ [V.non])) = H13 at *
    refine ⟨_, rfl, _, rfl, _, rfl, _, _, _, rfl, .inl ⟨d, rfl, d1, d2, .inl ⟨a, ws, rfl, s813 _ _ ha8, gw, .inl ⟨b, us, rfl, s813 _ _ hb8, gu, fun H14 s14 => ?_⟩⟩⟩⟩
    have fin : But g H H14 ∧ GenAt H14 g (n + 10000) := ⟨But.of (s08.trans (s813.trans s14)), (hG8.same (s813.trans s14)).mono (by omega)⟩
    refine ⟨fun z => (by rw [hk] at z; cases z), fun k2 t2 p2 _ nt2 np2 ht2 hp2 => ?_⟩
    refine ⟨t2, _, _, _, rfl, rfl, .inl (.inl ht2), atI_nat (j := 0) rfl, _, rfl, eqD_lst (.inl (.inl hp2)) (.inl (.inl (s14 _ _ (s813 _ _ hp5)))) ?_⟩
    rw [decide_eq_true rfl]
    exact q _ fin.1 fin.2
end
end My

namespace My
open PySem PySem.Spec PyProof.Rows L2 Pre
/-! ### the law of rules: what is refused -/
local macro_rules | `(tactic| walk_at "go") => `(tactic| repeat (first | (with_reducible first | refine iteT ?_ | refine iteF ?_ | refine iteNtt ?_ | refine iteNff ?_ | refine iteET (by omega) ?_ | refine iteEF (by omega) ?_ | refine iteENT (by omega) ?_ | refine iteENF (by omega) ?_ | refine iteDT (by omega) ?_ | refine iteDF (by omega) ?_ | refine iteNT (by omega) ?_ | refine iteNF (by omega) ?_) | refine ⟨_, rfl, ?_⟩ | refine ⟨_, _, rfl, rfl, ?_⟩ | refine ⟨_, _, rfl, ?_⟩ | refine ⟨rfl, ?_⟩ | refine .inl ⟨_, rfl, ?_⟩ | refine .inr ⟨_, rfl, ?_⟩))
local macro_rules | `(tactic| walk_at "b") => `(tactic| try dsimp (config := { proj := false, iota := false, eta := false, zeta := false }) only)
section
variable {P : Program} {w : World} {K : PySem.W.Frag} {mg : Str → Option Value} {base : Heap} [pf : Sup.PF P fileS]
def sp_law_caught (K : PySem.W.Frag) : Sp := fun vs H Q _ => ∃ (a : Addr) (x y z v : V) (tag t : Str), vs = [.ref a] ∧ H a = some (.lst [x, y, z]) ∧ Shw K H v t ∧
  ((tag = "depth" ∧ v = x ∧ NumV K H x 1 (some 24) false) ∨ (tag = "weights" ∧ ∃ d : Nat, x = .int d ∧ 1 ≤ d ∧ d ≤ 24 ∧ ((v = y ∧ BadR K H y) ∨ ∃ (b : Addr) (ws : List Int), y = .ref b ∧ H b = some (.lst (ws.map V.int)) ∧ GoodR ws ∧ v = z ∧ BadR K H z))) ∧
  ∀ H' p, Same H H' → H p = none → H' p = some (.lst [.str tag, .str t]) → Q (.ref p) H'
theorem G_law_caught (T : Top K mg) : FnG P w K mg base CX0 5 T.f_law_caught T.fd_law_caught ["_law_given"] (sp_law_caught K) := by
  refine FnG.body T.F_law_caught sc_law_caught (fun vs H Q E h => by obtain ⟨a, x, y, z, v, tag, t, rfl, _⟩ := h; rfl) (fun cdv A outer s H vs Q E gd hr h => ?_)
  obtain ⟨a, x, y, z, v, tag, t, rfl, ha, hS, hc, q⟩ := h
  refine ⟨_, PSs.nox (pss_cons (ps_set (i := 1) sc_law_caught.nd rfl (by first | exact Or.inl rfl | exact Or.inr rfl) pe_non)
  (pss_cons (ps_try_keep (i := 2) rfl rfl rfl sc_law_caught.nd rfl rfl takes_none5 (fun W pn xe tk po => (pss_one (ps_expr (pe_callS (G_leads_all (P := P) T) (hr.mono (by decide)) (by rfl) T.g_leads_all T.F_leads_all.kp T.b_leads_all (fun σ => passAt tk σ) (pa_cons (pe_ix (k_ixL K rfl) (pv 0) pe_int (fun _ _ => rfl)) (pa_cons (pe_ix (k_ixL K rfl) (pv 0) pe_int (fun _ _ => rfl)) (pa_cons (pe_ix (k_ixL K rfl) (pv 0) pe_int (fun _ _ => rfl)) pa_nil)))))))
    (HdsAs.cons ⟨by rfl, by decide, .inl T.gc_SoundError⟩ (fun a oe cls d pn hz hf => (pss_one (ps_set (i := 1) sc_law_caught.nd rfl (by first | exact Or.inl rfl | exact Or.inr rfl) (pv 2)))) HdsAs.nil))
  (pss_cons (ps_set (i := 3) sc_law_caught.nd rfl (by first | exact Or.inl rfl | exact Or.inr rfl) (pe_lst (pa_cons (pe_callB (k_isiE K rfl) (by rfl) T.n_isinstance (by decide +kernel) (pa_cons (pv 1) (pa_cons (pe_glob (v := .ref T.C_InvalidDepth) rfl T.gc_InvalidDepth rfl) pa_nil))) (pa_cons (pe_callB (k_isiE K rfl) (by rfl) T.n_isinstance (by decide +kernel) (pa_cons (pv 1) (pa_cons (pe_glob (v := .ref T.C_InvalidWeights) rfl T.gc_InvalidWeights rfl) pa_nil))) (pa_cons pe_bl pa_nil)))))
  (pss_one (ps_ret (pe_lst (pa_cons (pe_ix (k_ixL K rfl) (pe_lst (pa_cons pe_str (pa_cons pe_str (pa_cons pe_str pa_nil)))) (pe_bm PySem.F.plainAttrs_list PySem.F.slot_list_index PySem.F.type_list_index (k_index K rfl) (pv 3) (pa_cons pe_bl pa_nil)) (fun _ _ => rfl)) (pa_cons (pe_ifExp (pt_cmpR op_isN (pv 1) pe_non (nomark _)) pe_non (pe_callB (k_reprX K rfl gd (hu65 hr)) (by rfl) T.n_repr (by decide +kernel) (pa_cons (pe_xfK (pv 1)) pa_nil))) pa_nil)))))))), ?_⟩
  refine ⟨_, rfl, a, _, _, _, rfl, rfl, .inl (.inl ha), atI_nat (j := 0) rfl, _, rfl, a, _, _, _, rfl, rfl, .inl (.inl ha), at1 _ _ _, _, rfl, a, _, _, _, rfl, rfl, .inl (.inl ha), atI_nat (j := 2) rfl, _, _, _, rfl, ?_⟩
  have no1 : ∀ (m : Nat) (z' : V), m < 1 → [V.bl false, .bl true, .bl true][m]? = some z' → eqV z' (.bl true) = false := fun m z' h e => by
    obtain rfl : m = 0 := by omega
    cases e
    rfl
  rcases hc with ⟨rfl, rfl, hx⟩ | ⟨rfl, d, rfl, d1, d2, ⟨rfl, hy⟩ | ⟨b, ws, rfl, hb, gw, rfl, hz⟩⟩
  · refine .inr ⟨hx, fun H1 dd s1 nd => ?_⟩
    refine ⟨true, T.em_InvalidDepth_SoundError, fun _ ae nae => ?_, fun z => nomatch z⟩
    have naH : H1 ae = none := (same_upd nd).free nae
    have ndH : H dd = none := s1.free nd
    have hdd : upd (upd H1 dd (.xd [(Str.ofString "value", v)])) ae (ExK (.ref T.C_InvalidDepth) (some dd) ae) dd = some (.xd [(Str.ofString "value", v)]) := by
      rw [upd_ne (ne_of_none upd_same nae), upd_same]
    have hae : upd (upd H1 dd (.xd [(Str.ofString "value", v)])) ae (ExK (.ref T.C_InvalidDepth) (some dd) ae) ae = some (ExK (.ref T.C_InvalidDepth) (some dd) ae) := upd_same
    have s2 := (s1.trans (same_upd (o := .xd [(Str.ofString "value", v)]) nd)).trans (same_upd (o := ExK (.ref T.C_InvalidDepth) (some dd) ae) nae)
    refine ⟨_, rfl, _, rfl, .inr ⟨ae, _, dd, _, _, _, _, rfl, hae, hdd, T.ei_InvalidDepth, .own _, T.ki_InvalidDepth_InvalidDepth, _, rfl, .inr ⟨ae, _, dd, _, _, _, _, rfl, hae, hdd, T.ei_InvalidDepth, .own _, T.ki_InvalidDepth_InvalidWeights, (by show 3 ≤ sizeLine; decide), fun L nL => ?_⟩⟩⟩
    obtain ⟨H3, e3, s3, hL⟩ := fresh (.lst [V.bl true, .bl false, .bl true]) nL
    rw [e3]
    refine ⟨(by show 3 ≤ sizeLine; decide), fun M nM => ?_⟩
    obtain ⟨H4, e4, s4, hM⟩ := fresh (.lst [V.str (Str.ofString "depth"), .str (Str.ofString "weights"), .str (Str.ofString "none")]) nM
    rw [e4]
    refine ⟨_, rfl, ?_⟩
    refine ⟨.inl ⟨rfl, _, .inl (.inl (s4 _ _ hL))⟩, L, _, .bl true, 0, .bl true, rfl, rfl, .inl (.inl (s4 _ _ hL)), rfl, rfl, rfl, rfl, (fun m z' h => absurd h (Nat.not_lt_zero _)), M, _, _, _, rfl, rfl, .inl (.inl hM), atI_nat (j := 0) rfl, ?_⟩
    refine ⟨_, rfl, rfl, _, rfl, iteDF (fun z => nomatch z) ⟨_, rfl, ae, _, dd, _, v, rfl, s4 _ _ (s3 _ _ hae), s4 _ _ (s3 _ _ hdd), T.er_InvalidDepth.xf, T.er_InvalidDepth.sup.nov, rfl, (hS.same ((s2.trans s3).trans s4)).repr ⟨(by show 2 ≤ sizeLine; decide), fun p np => ?_⟩⟩⟩
    exact q _ p (((s2.trans s3).trans s4).trans (same_upd np)) (((s2.trans s3).trans s4).free np) upd_same
  · refine .inl ⟨d, rfl, d1, d2, .inr ⟨hy, fun H1 dd s1 nd => ?_⟩⟩
    refine ⟨true, T.em_InvalidWeights_SoundError, fun _ ae nae => ?_, fun z => nomatch z⟩
    have naH : H1 ae = none := (same_upd nd).free nae
    have ndH : H dd = none := s1.free nd
    have hdd : upd (upd H1 dd (.xd [(Str.ofString "value", v)])) ae (ExK (.ref T.C_InvalidWeights) (some dd) ae) dd = some (.xd [(Str.ofString "value", v)]) := by
      rw [upd_ne (ne_of_none upd_same nae), upd_same]
    have hae : upd (upd H1 dd (.xd [(Str.ofString "value", v)])) ae (ExK (.ref T.C_InvalidWeights) (some dd) ae) ae = some (ExK (.ref T.C_InvalidWeights) (some dd) ae) := upd_same
    have s2 := (s1.trans (same_upd (o := .xd [(Str.ofString "value", v)]) nd)).trans (same_upd (o := ExK (.ref T.C_InvalidWeights) (some dd) ae) nae)
    refine ⟨_, rfl, _, rfl, .inr ⟨ae, _, dd, _, _, _, _, rfl, hae, hdd, T.ei_InvalidWeights, .own _, T.ki_InvalidWeights_InvalidDepth, _, rfl, .inr ⟨ae, _, dd, _, _, _, _, rfl, hae, hdd, T.ei_InvalidWeights, .own _, T.ki_InvalidWeights_InvalidWeights, (by show 3 ≤ sizeLine; decide), fun L nL => ?_⟩⟩⟩
    obtain ⟨H3, e3, s3, hL⟩ := fresh (.lst [V.bl false, .bl true, .bl true]) nL
    rw [e3]
    refine ⟨(by show 3 ≤ sizeLine; decide), fun M nM => ?_⟩
    obtain ⟨H4, e4, s4, hM⟩ := fresh (.lst [V.str (Str.ofString "depth"), .str (Str.ofString "weights"), .str (Str.ofString "none")]) nM
    rw [e4]
    refine ⟨_, rfl, ?_⟩
    refine ⟨.inl ⟨rfl, _, .inl (.inl (s4 _ _ hL))⟩, L, _, .bl true, 1, .bl true, rfl, rfl, .inl (.inl (s4 _ _ hL)), rfl, rfl, rfl, rfl, no1, M, _, _, _, rfl, rfl, .inl (.inl hM), at1 _ _ _, ?_⟩
    refine ⟨_, rfl, rfl, _, rfl, iteDF (fun z => nomatch z) ⟨_, rfl, ae, _, dd, _, v, rfl, s4 _ _ (s3 _ _ hae), s4 _ _ (s3 _ _ hdd), T.er_InvalidWeights.xf, T.er_InvalidWeights.sup.nov, rfl, (hS.same ((s2.trans s3).trans s4)).repr ⟨(by show 2 ≤ sizeLine; decide), fun p np => ?_⟩⟩⟩
    exact q _ p (((s2.trans s3).trans s4).trans (same_upd np)) (((s2.trans s3).trans s4).free np) upd_same
  · refine .inl ⟨d, rfl, d1, d2, .inl ⟨b, ws, rfl, hb, gw, .inr ⟨hz, fun H1 dd s1 nd => ?_⟩⟩⟩
    refine ⟨true, T.em_InvalidWeights_SoundError, fun _ ae nae => ?_, fun z => nomatch z⟩
    have naH : H1 ae = none := (same_upd nd).free nae
    have ndH : H dd = none := s1.free nd
    have hdd : upd (upd H1 dd (.xd [(Str.ofString "value", v)])) ae (ExK (.ref T.C_InvalidWeights) (some dd) ae) dd = some (.xd [(Str.ofString "value", v)]) := by
      rw [upd_ne (ne_of_none upd_same nae), upd_same]
    have hae : upd (upd H1 dd (.xd [(Str.ofString "value", v)])) ae (ExK (.ref T.C_InvalidWeights) (some dd) ae) ae = some (ExK (.ref T.C_InvalidWeights) (some dd) ae) := upd_same
    have s2 := (s1.trans (same_upd (o := .xd [(Str.ofString "value", v)]) nd)).trans (same_upd (o := ExK (.ref T.C_InvalidWeights) (some dd) ae) nae)
    refine ⟨_, rfl, _, rfl, .inr ⟨ae, _, dd, _, _, _, _, rfl, hae, hdd, T.ei_InvalidWeights, .own _, T.ki_InvalidWeights_InvalidDepth, _, rfl, .inr ⟨ae, _, dd, _, _, _, _, rfl, hae, hdd, T.ei_InvalidWeights, .own _, T.ki_InvalidWeights_InvalidWeights, (by show 3 ≤ sizeLine; decide), fun L nL => ?_⟩⟩⟩
    obtain ⟨H3, e3, s3, hL⟩ := fresh (.lst [V.bl false, .bl true, .bl true]) nL
    rw [e3]
    refine ⟨(by show 3 ≤ sizeLine; decide), fun M nM => ?_⟩
    obtain ⟨H4, e4, s4, hM⟩ := fresh (.lst [V.str (Str.ofString "depth"), .str (Str.ofString "weights"), .str (Str.ofString "none")]) nM
    rw [e4]
    refine ⟨_, rfl, ?_⟩
    refine ⟨.inl ⟨rfl, _, .inl (.inl (s4 _ _ hL))⟩, L, _, .bl true, 1, .bl true, rfl, rfl, .inl (.inl (s4 _ _ hL)), rfl, rfl, rfl, rfl, no1, M, _, _, _, rfl, rfl, .inl (.inl hM), at1 _ _ _, ?_⟩
    refine ⟨_, rfl, rfl, _, rfl, iteDF (fun z => nomatch z) ⟨_, rfl, ae, _, dd, _, v, rfl, s4 _ _ (s3 _ _ hae), s4 _ _ (s3 _ _ hdd), T.er_InvalidWeights.xf, T.er_InvalidWeights.sup.nov, rfl, (hS.same ((s2.trans s3).trans s4)).repr ⟨(by show 2 ≤ sizeLine; decide), fun p np => ?_⟩⟩⟩
    exact q _ p (((s2.trans s3).trans s4).trans (same_upd np)) (((s2.trans s3).trans s4).free np) upd_same
end
end My

namespace My
open PySem PySem.Spec PyProof.Rows L2 Pre
/-! ### the law of rules: all that is refused -/
theorem pair_shaped {a t : Str} (ha : PyData.strOk a = true) (ht : PyData.strOk t = true) : SeqAt.shaped (.list [.str a, .str t]) = true := by
  simp [SeqAt.shaped, PyData.canLay0, PyData.canLayAll0, PyData.depth, PyData.depthAll, ha, ht]
theorem pair_eqv (a t : Str) : PyData.eqv (.list [.str a, .str t]) (.list [.str a, .str t]) = true := by
  simp [PyData.eqv, PyData.eqvAll]
theorem pairs_shaped {a t : Str} (ha : PyData.strOk a = true) (ht : PyData.strOk t = true) : SeqAt.shaped (.list [.list [.str a, .str t], .list [.str a, .str t]]) = true := by
  simp [SeqAt.shaped, PyData.canLay0, PyData.canLayAll0, PyData.depth, PyData.depthAll, ha, ht]
theorem pairs_eqv (a t : Str) : PyData.eqv (.list [.list [.str a, .str t], .list [.str a, .str t]]) (.list [.list [.str a, .str t], .list [.str a, .str t]]) = true := by
  simp [PyData.eqv, PyData.eqvAll]
theorem shw_ok {K : PySem.W.Frag} {H : Hp} {x : V} {d : PyData} (hd : Dp K H x d) (h : (d.showable && SeqAt.shaped d && decide (d.shown.length ≤ sizeLine) && PyData.strOk d.shown) = true) : ∃ t, Shw K H x t ∧ PyData.strOk t = true := by
  rw [Bool.and_eq_true, Bool.and_eq_true, Bool.and_eq_true] at h
  exact ⟨_, .inl ⟨d, hd, h.1.1.1, h.1.1.2, of_decide_eq_true h.1.2, rfl⟩, h.2⟩
local macro_rules | `(tactic| walk_at "go") => `(tactic| repeat (first | (with_reducible first | refine iteT ?_ | refine iteF ?_ | refine iteNtt ?_ | refine iteNff ?_ | refine iteET (by omega) ?_ | refine iteEF (by omega) ?_ | refine iteENT (by omega) ?_ | refine iteENF (by omega) ?_ | refine iteDT (by omega) ?_ | refine iteDF (by omega) ?_ | refine iteNT (by omega) ?_ | refine iteNF (by omega) ?_) | refine ⟨_, rfl, ?_⟩ | refine ⟨_, _, rfl, rfl, ?_⟩ | refine ⟨_, _, rfl, ?_⟩ | refine ⟨rfl, ?_⟩ | refine .inl ⟨_, rfl, ?_⟩ | refine .inr ⟨_, rfl, ?_⟩))
local macro_rules | `(tactic| walk_at "b") => `(tactic| try dsimp (config := { proj := false, iota := false, eta := false, zeta := false }) only)
section
variable {P : Program} {w : World} {K : PySem.W.Frag} {mg : Str → Option Value} {base : Heap} [pf : Sup.PF P fileS]
def sp_law_refused : Sp := fun vs H Q _ => vs = [] ∧ ∀ H', Same H H' → Q (.bl true) H'
theorem G_law_refused (T : Top K mg) : FnG P w K mg base CX0 6 T.f_law_refused T.fd_law_refused [] sp_law_refused := by
  refine FnG.body T.F_law_refused sc_law_refused (fun vs H Q E h => by obtain ⟨rfl, _⟩ := h; rfl) (fun cdv A outer s H vs Q E gd hr h => ?_)
  obtain ⟨rfl, q⟩ := h
  refine ⟨_, PSs.nox (pss_cons (ps_for PassesOwn.never rfl (k_piL K rfl (pe_lst (pa_cons pe_non (pa_cons pe_int (pa_cons pe_int (pa_cons pe_bl (pa_cons pe_str pa_nil))))))) (pg_name (i := 0) sc_law_refused.nd rfl (by first | exact Or.inl rfl | exact Or.inr rfl))
    (pss_one (ps_if (pt_cmpR (k_neD K rfl hr.units) (pe_callG (G_law_caught (P := P) T) gd (hr.mono (by decide)) (by rfl) T.g_law_caught T.F_law_caught.kp T.b_law_caught .nil pass0 (pa_cons (pe_lst (pa_cons (pv 0) (pa_cons pe_non (pa_cons pe_non pa_nil)))) pa_nil)) (pe_lst (pa_cons pe_str (pa_cons (pe_callB (k_reprX K rfl gd (hu65 hr)) (by rfl) T.n_repr (by decide +kernel) (pa_cons (pv 0) pa_nil)) pa_nil))) (nomark _))
    (pss_one (ps_ret pe_bl))
    pss_nil)))
  (pss_cons (ps_for PassesOwn.never rfl (k_piL K rfl (pe_lst (pa_cons pe_non (pa_cons (pe_tup pa_nil) (pa_cons (pe_lst (pa_cons pe_bl pa_nil)) (pa_cons (pe_lst (pa_cons pe_int (pa_cons pe_non pa_nil))) (pa_cons (pe_lst (pa_cons pe_int pa_nil)) (pa_cons (pe_lst (pa_cons (pe_un un_neg pe_int) pa_nil)) (pa_cons (pe_op op_rep (pe_lst (pa_cons pe_int pa_nil)) pe_int) (pa_cons pe_str pa_nil)))))))))) (pg_name (i := 0) sc_law_refused.nd rfl (by first | exact Or.inl rfl | exact Or.inr rfl))
    (pss_one (ps_if (pt_cmpR (k_neD K rfl hr.units) (pe_lst (pa_cons (pe_callG (G_law_caught (P := P) T) gd (hr.mono (by decide)) (by rfl) T.g_law_caught T.F_law_caught.kp T.b_law_caught .nil pass0 (pa_cons (pe_lst (pa_cons pe_int (pa_cons (pv 0) (pa_cons pe_non pa_nil)))) pa_nil)) (pa_cons (pe_callG (G_law_caught (P := P) T) gd (hr.mono (by decide)) (by rfl) T.g_law_caught T.F_law_caught.kp T.b_law_caught .nil pass0 (pa_cons (pe_lst (pa_cons pe_int (pa_cons (pe_lst (pa_cons pe_int pa_nil)) (pa_cons (pv 0) pa_nil)))) pa_nil)) pa_nil))) (pe_op op_rep (pe_lst (pa_cons (pe_lst (pa_cons pe_str (pa_cons (pe_callB (k_reprX K rfl gd (hu65 hr)) (by rfl) T.n_repr (by decide +kernel) (pa_cons (pv 0) pa_nil)) pa_nil))) pa_nil)) pe_int) (nomark _))
    (pss_one (ps_ret pe_bl))
    pss_nil)))
  (pss_one (ps_ret pe_bl)))), ?_⟩
  refine ⟨(by show 5 ≤ sizeLine; decide), fun L1 nL1 => ?_⟩
  obtain ⟨H1, e1, s1, hL1⟩ := fresh (.lst [V.non, .int 0, .int 25, .bl true, .str (("4" : String) : Str)]) nL1
  rw [e1]
  have f1 : ∀ x ∈ [V.non, .int 0, .int 25, .bl true, .str (("4" : String) : Str)], ∀ H' : Hp, NumV K H' x 1 (some 24) false ∧ ∃ t, Shw K H' x t ∧ PyData.strOk t = true := by
    intro x hx H'
    simp only [List.mem_cons, List.not_mem_nil, or_false] at hx
    rcases hx with rfl | rfl | rfl | rfl | rfl
    · exact ⟨.inr ⟨.inr ⟨_, .base .non, by decide +kernel⟩, rfl⟩, shw_ok .non (by decide +kernel)⟩
    · exact ⟨.inl ⟨0, rfl, (decide_eq_false fun z => absurd z.1 (by decide)).symm⟩, shw_ok (.int 0) (by decide +kernel)⟩
    · exact ⟨.inl ⟨25, rfl, (decide_eq_false fun z => absurd (z.2 24 rfl) (by decide)).symm⟩, shw_ok (.int 25) (by decide +kernel)⟩
    · exact ⟨.inr ⟨.inl ⟨true, rfl⟩, rfl⟩, shw_ok (.bl true) (by decide +kernel)⟩
    · exact ⟨.inr ⟨.inr ⟨_, .base (.str _), by decide +kernel⟩, rfl⟩, shw_ok (.str _) (by decide +kernel)⟩
  refine ⟨L1, rfl, ⟨_, .inl (.inl hL1)⟩, for_list (K := K) (a := L1) (fun i σ HA => ∃ v0 : Option V, σ = [v0] ∧ Same H1 HA) ⟨none, rfl, Same.refl _⟩ (fun i σ HA _ ⟨_, _, s⟩ => .inl (.inl (s _ _ hL1))) ?_ ?_⟩
  · rintro i x σ HA hx ⟨v0, rfl, sA⟩
    have hxm := List.mem_of_getElem? hx
    obtain ⟨hN, t, hS, hok⟩ := f1 x hxm HA
    refine ⟨_, rfl, (by show 3 ≤ sizeLine; decide), fun G nG => ?_⟩
    obtain ⟨HB, eB, sB, hGl⟩ := fresh (.lst [x, .non, .non]) nG
    rw [eB]
    refine ⟨G, x, .non, .non, x, _, t, rfl, hGl, hS.same sB, .inl ⟨rfl, rfl, hN.same sB⟩, fun HC p sC np hp => ?_⟩
    have hSC := (hS.same sB).same sC
    refine ⟨_, rfl, hSC.repr ⟨(by show 2 ≤ sizeLine; decide), fun M nM => ?_⟩⟩
    obtain ⟨HD, eD, sD, hM⟩ := fresh (.lst [.str (("depth" : String) : Str), .str t]) nM
    rw [eD]
    refine ⟨_, _, .lst (.inl (.inl (sD _ _ hp))) (.cons (.str _) (.cons (.str _) .nil)), .lst (.inl (.inl hM)) (.cons (.str _) (.cons (.str _) .nil)), pair_shaped (by decide +kernel) hok, pair_shaped (by decide +kernel) hok, _, rfl, ?_⟩
    rw [pair_eqv]
    exact iteF ⟨_, rfl, ((sA.trans sB).trans sC).trans sD⟩
  · rintro σ HA ⟨v0, rfl, sA⟩
    have s1A := s1.trans sA
    refine ⟨(by show 0 ≤ sizeLine; decide), fun p1 np1 => ?_⟩
    obtain ⟨H2, e2, s2, hp1⟩ := fresh (.tup ([] : List V)) np1
    rw [e2]
    refine ⟨(by show 1 ≤ sizeLine; decide), fun p2 np2 => ?_⟩
    obtain ⟨H3, e3, s3, hp2⟩ := fresh (.lst [V.bl true]) np2
    rw [e3]
    refine ⟨(by show 2 ≤ sizeLine; decide), fun p3 np3 => ?_⟩
    obtain ⟨H4, e4, s4, hp3⟩ := fresh (.lst [V.int 1, .non]) np3
    rw [e4]
    refine ⟨(by show 1 ≤ sizeLine; decide), fun p4 np4 => ?_⟩
    obtain ⟨H5, e5, s5, hp4⟩ := fresh (.lst [V.int 32769]) np4
    rw [e5]
    refine ⟨_, rfl, (by show 1 ≤ sizeLine; decide), fun p5 np5 => ?_⟩
    obtain ⟨H6, e6, s6, hp5⟩ := fresh (.lst [V.int (-32769)]) np5
    rw [e6]
    refine ⟨(by show 1 ≤ sizeLine; decide), fun p6 np6 => ?_⟩
    obtain ⟨H7, e7, s7, hp6⟩ := fresh (.lst [V.int 0]) np6
    rw [e7]
    refine ⟨p6, _, _, rfl, rfl, hp6, by decide, by decide, by decide, fun p7 np7 => ?_⟩
    obtain ⟨H8, e8, s8, hp7⟩ := fresh (.lst (List.replicate (Int.toNat 9) [V.int 0]).flatten) np7
    rw [e8]
    have hp7' : H8 p7 = some (.lst (([0, 0, 0, 0, 0, 0, 0, 0, 0] : List Int).map V.int)) := hp7
    refine ⟨(by show 8 ≤ sizeLine; decide), fun L2 nL2 => ?_⟩
    obtain ⟨H9, e9, s9, hL2⟩ := fresh (.lst [V.non, .ref p1, .ref p2, .ref p3, .ref p4, .ref p5, .ref p7, .str (("1" : String) : Str)]) nL2
    rw [e9]
    have g1 := s9 _ _ (s8 _ _ (s7 _ _ (s6 _ _ (s5 _ _ (s4 _ _ (s3 _ _ hp1))))))
    have g2 := s9 _ _ (s8 _ _ (s7 _ _ (s6 _ _ (s5 _ _ (s4 _ _ hp2)))))
    have g3 := s9 _ _ (s8 _ _ (s7 _ _ (s6 _ _ (s5 _ _ hp3))))
    have g4 := s9 _ _ (s8 _ _ (s7 _ _ (s6 _ _ hp4)))
    have g5 := s9 _ _ (s8 _ _ (s7 _ _ hp5))
    have g7 := s9 _ _ hp7'
    have sA9 := ((s2.trans s3).trans (s4.trans s5)).trans (((s6.trans s7).trans s8).trans s9)
    have f2 : ∀ x ∈ [V.non, .ref p1, .ref p2, .ref p3, .ref p4, .ref p5, .ref p7, .str (("1" : String) : Str)], BadR K H9 x ∧ ∃ t, Shw K H9 x t ∧ PyData.strOk t = true := by
      intro x hx
      simp only [List.mem_cons, List.not_mem_nil, or_false] at hx
      rcases hx with rfl | rfl | rfl | rfl | rfl | rfl | rfl | rfl
      · exact ⟨.inl ⟨_, .base .non, by decide +kernel⟩, shw_ok .non (by decide +kernel)⟩
      · exact ⟨.inl ⟨_, .base (.tup g1), by decide +kernel⟩, shw_ok (.tup (.inl (.inl g1)) .nil) (by decide +kernel)⟩
      · exact ⟨.inr ⟨p2, _, rfl, g2, by decide, fun y hy => .inr (.inl ⟨true, List.mem_singleton.mp hy⟩), .inl rfl⟩, shw_ok (.lst (.inl (.inl g2)) (.cons (.bl _) .nil)) (by decide +kernel)⟩
      · refine ⟨.inr ⟨p3, _, rfl, g3, by decide, fun y hy => ?_, .inl rfl⟩, shw_ok (.lst (.inl (.inl g3)) (.cons (.int _) (.cons .non .nil))) (by decide +kernel)⟩
        rcases List.mem_cons.mp hy with h | h
        · exact .inr (.inr ⟨1, h⟩)
        · exact .inl (List.mem_singleton.mp h)
      · exact ⟨.inr ⟨p4, _, rfl, g4, by decide, fun y hy => .inr (.inr ⟨_, List.mem_singleton.mp hy⟩), .inr ⟨[32769], rfl, .inr ⟨32769, List.mem_singleton.mpr rfl, by decide⟩⟩⟩, shw_ok (.lst (.inl (.inl g4)) (.cons (.int _) .nil)) (by decide +kernel)⟩
      · exact ⟨.inr ⟨p5, _, rfl, g5, by decide, fun y hy => .inr (.inr ⟨_, List.mem_singleton.mp hy⟩), .inr ⟨[-32769], rfl, .inr ⟨-32769, List.mem_singleton.mpr rfl, by decide⟩⟩⟩, shw_ok (.lst (.inl (.inl g5)) (.cons (.int _) .nil)) (by decide +kernel)⟩
      · refine ⟨.inr ⟨p7, _, rfl, g7, by decide, fun y hy => ?_, .inr ⟨_, rfl, .inl (by decide)⟩⟩, shw_ok (dp_row (.inl (.inl g7))) (by decide +kernel)⟩
        obtain ⟨n, _, rfl⟩ := List.mem_map.mp hy
        exact .inr (.inr ⟨n, rfl⟩)
      · exact ⟨.inl ⟨_, .base (.str _), by decide +kernel⟩, shw_ok (.str _) (by decide +kernel)⟩
    refine ⟨L2, rfl, ⟨_, .inl (.inl hL2)⟩, for_list (K := K) (a := L2) (fun i σ HA => ∃ v0 : Option V, σ = [v0] ∧ Same H9 HA) ⟨v0, rfl, Same.refl _⟩ (fun i σ HA _ ⟨_, _, s⟩ => .inl (.inl (s _ _ hL2))) ?_ ?_⟩
    · rintro i x σ HB hx ⟨v0, rfl, sB⟩
      obtain ⟨hR, t, hS, hok⟩ := f2 x (List.mem_of_getElem? hx)
      refine ⟨_, rfl, (by show 3 ≤ sizeLine; decide), fun G nG => ?_⟩
      obtain ⟨HC, eC, sC, hG⟩ := fresh (.lst [.int 3, x, .non]) nG
      rw [eC]
      refine ⟨G, .int 3, x, .non, x, _, t, rfl, hG, hS.same (sB.trans sC), .inr ⟨rfl, 3, rfl, by decide, by decide, .inl ⟨rfl, hR.same (sB.trans sC)⟩⟩, fun HD p sD np hp => ?_⟩
      refine ⟨(by show 1 ≤ sizeLine; decide), fun one none1 => ?_⟩
      obtain ⟨HE, eE, sE, hone⟩ := fresh (.lst [V.int 1]) none1
      rw [eE]
      refine ⟨_, rfl, (by show 3 ≤ sizeLine; decide), fun G2 nG2 => ?_⟩
      obtain ⟨HF, eF, sF, hG2⟩ := fresh (.lst [.int 3, .ref one, x]) nG2
      rw [eF]
      have sBF := (((sB.trans sC).trans sD).trans sE).trans sF
      refine ⟨G2, .int 3, .ref one, x, x, _, t, rfl, hG2, hS.same sBF, .inr ⟨rfl, 3, rfl, by decide, by decide, .inr ⟨one, [1], rfl, sF _ _ hone, ⟨by decide, by decide⟩, rfl, hR.same sBF⟩⟩, fun HG p' sG np' hp' => ?_⟩
      refine ⟨(by show 2 ≤ sizeLine; decide), fun M nM => ?_⟩
      obtain ⟨HI, eI, sI, hM⟩ := fresh (.lst [V.ref p, .ref p']) nM
      rw [eI]
      have hpI := sI _ _ (sG _ _ (sF _ _ (sE _ _ hp)))
      have hpI' := sI _ _ hp'
      have sBI := (sBF.trans sG).trans sI
      refine ⟨_, rfl, (hS.same sBI).repr ⟨(by show 2 ≤ sizeLine; decide), fun N nN => ?_⟩⟩
      obtain ⟨HJ, eJ, sJ, hN⟩ := fresh (.lst [.str (("weights" : String) : Str), .str t]) nN
      rw [eJ]
      refine ⟨(by show 1 ≤ sizeLine; decide), fun O nO => ?_⟩
      obtain ⟨HK, eK, sK, hO⟩ := fresh (.lst [V.ref N]) nO
      rw [eK]
      refine ⟨O, _, _, rfl, rfl, hO, by decide, by decide, (by show 1 * 2 ≤ sizeLine; decide), fun R nR => ?_⟩
      obtain ⟨HL, eL, sL, hRl⟩ := fresh (.lst (List.replicate (Int.toNat 2) [V.ref N]).flatten) nR
      rw [eL]
      have hR2 : HL R = some (.lst [V.ref N, .ref N]) := hRl
      have sIL := (sJ.trans sK).trans sL
      have hN2 := sL _ _ (sK _ _ hN)
      have pr : ∀ {a : Addr}, HL a = some (.lst [.str (("weights" : String) : Str), .str t]) → Dp K HL (.ref a) (.list [.str (("weights" : String) : Str), .str t]) := fun h => .lst (.inl (.inl h)) (.cons (.str _) (.cons (.str _) .nil))
      refine ⟨_, _, .lst (.inl (.inl (sIL _ _ hM))) (.cons (pr (sIL _ _ hpI)) (.cons (pr (sIL _ _ hpI')) .nil)), .lst (.inl (.inl hR2)) (.cons (pr hN2) (.cons (pr hN2) .nil)), pairs_shaped (by decide +kernel) hok, pairs_shaped (by decide +kernel) hok, _, rfl, ?_⟩
      rw [pairs_eqv]
      exact iteF ⟨_, rfl, sBI.trans sIL⟩
    · rintro σ HB ⟨v0, rfl, sB⟩
      exact q _ ((s1A.trans sA9).trans sB)
end
end My

namespace My
open PySem PySem.Spec PyProof.Rows L2 Pre
/-! ### the law of rules -/
theorem goodS {ws : List Int} {c : Nat} (hl : ws.length ≤ 8) (hc : c ≤ 32768) (h : ∀ w ∈ ws, w.natAbs ≤ c) : GoodR ws := ⟨hl, fun w hw => Nat.le_trans (h w hw) hc⟩
/-- two ways to a value, one way on -/
theorem join_te {c : Bool} {te1 te2 : TE} {σ : L2.St} {H : Hp} {R : VK} (Pv : V → Hp → Prop) (h1 : c = true → ∀ R' : VK, (∀ v H', Pv v H' → R' v H') → te1 σ H R') (h2 : c = false → ∀ R' : VK, (∀ v H', Pv v H' → R' v H') → te2 σ H R') (cont : ∀ v H', Pv v H' → R v H') : if c = true then te1 σ H R else te2 σ H R := by
  cases c with
  | true => exact h1 rfl R cont
  | false => exact h2 rfl R cont
theorem joinS {b : Bool} {A : Prop} {R : L2.St → Hp → Prop} {σ : L2.St} {H : Hp} (Pv : L2.St → Hp → Prop) (cont : ∀ σ' H', Pv σ' H' → R σ' H') (h1 : b = true → (∀ σ' H', Pv σ' H' → R σ' H') → A) (h2 : b = false → Pv σ H) : if b = true then A else R σ H := by
  cases b with
  | true => exact h1 rfl cont
  | false => exact cont _ _ (h2 rfl)
/-- a rule at an address -/
def RuleAt (g p : Addr) (H : Hp) : Prop := ∃ ws : List Int, H p = some (.lst (ws.map V.int)) ∧ GoodR ws ∧ p ≠ g
theorem RuleAt.but {g p : Addr} {H H' : Hp} (h : RuleAt g p H) (b : But g H H') : RuleAt g p H' := by
  obtain ⟨ws, e, k, n⟩ := h
  exact ⟨ws, b _ _ n e, k, n⟩
local macro_rules | `(tactic| walk_at "go") => `(tactic| repeat (first | (with_reducible first | refine iteT ?_ | refine iteF ?_ | refine iteNtt ?_ | refine iteNff ?_ | refine iteET (by omega) ?_ | refine iteEF (by omega) ?_ | refine iteENT (by omega) ?_ | refine iteENF (by omega) ?_ | refine iteDT (by omega) ?_ | refine iteDF (by omega) ?_ | refine iteNT (by omega) ?_ | refine iteNF (by omega) ?_) | refine ⟨_, rfl, ?_⟩ | refine ⟨_, _, rfl, rfl, ?_⟩ | refine ⟨_, _, rfl, ?_⟩ | refine ⟨rfl, ?_⟩ | refine .inl ⟨_, rfl, ?_⟩ | refine .inr ⟨_, rfl, ?_⟩))
local macro_rules | `(tactic| walk_at "b") => `(tactic| try dsimp (config := { proj := false, iota := false, eta := false, zeta := false }) only)
section
variable {P : Program} {w : World} {K : PySem.W.Frag} {mg : Str → Option Value} {base : Heap} [pf : Sup.PF P fileS]
def sp_law (K : PySem.W.Frag) : Sp := fun vs H Q _ => ∃ (a : Addr) (ns : List Int), vs = [.ref a] ∧ SqL K H a (ns.map V.int) ∧ ns.length ≤ 63 ∧ ∀ H', Q (.bl true) H'
theorem G_law (T : Top K mg) : FnG P w K mg base CX0 7 T.f_law T.fd_law ["_law_script"] (sp_law K) := by
  refine FnG.body T.F_law sc_law (fun vs H Q E h => by obtain ⟨a, ns, rfl, _⟩ := h; rfl) (fun cdv A outer s H vs Q E gd hr h => ?_)
  obtain ⟨a, ns, rfl, hS, hz, q⟩ := h
  refine ⟨_, PSs.nox (pss_cons (ps_for PassesOwn.never rfl (pi_range1 (by rfl) T.n_range (pa_cons pe_int pa_nil)) (pg_name (i := 1) sc_law.nd rfl (by first | exact Or.inl rfl | exact Or.inr rfl))
    (pss_cons (ps_set (i := 3) sc_law.nd rfl (by first | exact Or.inl rfl | exact Or.inr rfl) (pe_call (G_law_generator (P := P) T) (hr.mono (by decide)) (by rfl) T.g_law_generator T.F_law_generator.kp T.b_law_generator .nil pass0 (pa_cons (pv 0) (pa_cons (pv 1) pa_nil))))
  (pss_cons (ps_set (i := 4) sc_law.nd rfl (by first | exact Or.inl rfl | exact Or.inr rfl) (pe_op op_add pe_int (pe_call (G_law_random (P := P) T) (hr.mono (by decide)) (by rfl) T.g_law_random T.F_law_random.kp T.b_law_random .nil pass0 (pa_cons (pv 3) (pa_cons (pe_ix (k_ixL K rfl) (pe_lst (pa_cons pe_int (pa_cons pe_int pa_nil))) (pe_call (G_law_random (P := P) T) (hr.mono (by decide)) (by rfl) T.g_law_random T.F_law_random.kp T.b_law_random .nil pass0 (pa_cons (pv 3) (pa_cons pe_int pa_nil))) (fun _ _ => rfl)) pa_nil)))))
  (pss_cons (ps_set (i := 5) sc_law.nd rfl (by first | exact Or.inl rfl | exact Or.inr rfl) (pe_call (G_law_small (P := P) T) (hr.mono (by decide)) (by rfl) T.g_law_small T.F_law_small.kp T.b_law_small .nil pass0 (pa_cons (pv 3) (pa_cons (pe_call (G_law_random (P := P) T) (hr.mono (by decide)) (by rfl) T.g_law_random T.F_law_random.kp T.b_law_random .nil pass0 (pa_cons (pv 3) (pa_cons pe_int pa_nil))) pa_nil))))
  (pss_cons (ps_set (i := 6) sc_law.nd rfl (by first | exact Or.inl rfl | exact Or.inr rfl) (pe_call (G_law_product (P := P) T) (hr.mono (by decide)) (by rfl) T.g_law_product T.F_law_product.kp T.b_law_product .nil pass0 (pa_cons (pv 5) (pa_cons (pe_call (G_law_small (P := P) T) (hr.mono (by decide)) (by rfl) T.g_law_small T.F_law_small.kp T.b_law_small .nil pass0 (pa_cons (pv 3) (pa_cons (pe_call (G_law_random (P := P) T) (hr.mono (by decide)) (by rfl) T.g_law_random T.F_law_random.kp T.b_law_random .nil pass0 (pa_cons (pv 3) (pa_cons pe_int pa_nil))) pa_nil))) pa_nil))))
  (pss_cons (ps_if (pt_cmpR op_notN (pe_call (G_leads_all (P := P) T) (hr.mono (by decide)) (by rfl) T.g_leads_all T.F_leads_all.kp T.b_leads_all .nil passL (pa_cons (pv 4) (pa_cons (pv 5) (pa_cons (pv 6) pa_nil)))) pe_non (nomark _))
    (pss_one (ps_ret pe_bl))
    pss_nil)
  (pss_cons (ps_set (i := 7) sc_law.nd rfl (by first | exact Or.inl rfl | exact Or.inr rfl) (pe_ifExp (pt_cmpR op_lt (pv 4) pe_int (nomark _)) (pe_lc (own := [("_law_weight", 12)]) (g := gName 12) (tt := tYes) (by rfl) sc_law.nd (k_piL K rfl (pv 6)) (blkOk_by (own := [("_law_weight", 12)]) (N := N_law) (sc := defScope s_law) (by decide +kernel)) (fun _ _ _ _ _ => (pg_name (i := 12) sc_law.nd rfl (by first | exact Or.inl rfl | exact Or.inr rfl))) (fun _ _ _ _ _ => pts_nil) (fun _ _ _ _ _ => (pe_op op_add (pv 12) (pe_op op_shl (pe_call (G_law_random (P := P) T) (hr.mono (by decide)) (by rfl) T.g_law_random T.F_law_random.kp T.b_law_random .nil pass0 (pa_cons (pv 3) (pa_cons pe_int pa_nil))) (pv 4))))) (pe_callTy (k_listOf K rfl) (by rfl) T.n_list (by decide +kernel) (pa_cons (pv 6) pa_nil))))
  (pss_cons (ps_set (i := 8) sc_law.nd rfl (by first | exact Or.inl rfl | exact Or.inr rfl) (pe_callTy (k_listOf K rfl) (by rfl) T.n_list (by decide +kernel) (pa_cons (pv 6) pa_nil)))
  (pss_cons (ps_if (pt_cmpR (k_neD K rfl hr.units) (pv 8) (pe_lst pa_nil) (nomark _))
    (pss_cons (ps_set (i := 11) sc_law.nd rfl (by first | exact Or.inl rfl | exact Or.inr rfl) (pe_call (G_law_random (P := P) T) (hr.mono (by decide)) (by rfl) T.g_law_random T.F_law_random.kp T.b_law_random .nil pass0 (pa_cons (pv 3) (pa_cons (pe_callB (k_len K rfl) (by rfl) T.n_len (by decide +kernel) (pa_cons (pv 8) pa_nil)) pa_nil))))
  (pss_one (ps_asg (pe_op op_add (pe_ix (k_ixL K rfl) (pv 8) (pv 11) (fun _ _ => rfl)) (pe_ix (k_ixL K rfl) (pe_lst (pa_cons pe_int (pa_cons pe_int (pa_cons (pe_un un_neg pe_int) (pa_cons (pe_ifExp (pt_cmpR op_lt (pv 4) pe_int (nomark _)) (pe_op op_shl pe_int (pe_op op_sub (pv 4) pe_int)) pe_int) pa_nil))))) (pe_call (G_law_random (P := P) T) (hr.mono (by decide)) (by rfl) T.g_law_random T.F_law_random.kp T.b_law_random .nil pass0 (pa_cons (pv 3) (pa_cons pe_int pa_nil))) (fun _ _ => rfl))) (pg_sub (pv 8) (pv 11) set_list))))
    pss_nil)
  (pss_cons (ps_set (i := 9) sc_law.nd rfl (by first | exact Or.inl rfl | exact Or.inr rfl) (pe_call (G_law_weights (P := P) T) (hr.mono (by decide)) (by rfl) T.g_law_weights T.F_law_weights.kp T.b_law_weights .nil pass0 (pa_cons (pv 3) (pa_cons (pe_call (G_law_random (P := P) T) (hr.mono (by decide)) (by rfl) T.g_law_random T.F_law_random.kp T.b_law_random .nil pass0 (pa_cons (pv 3) (pa_cons pe_int pa_nil))) pa_nil))))
  (pss_one (ps_for PassesOwn.never rfl (k_piL K rfl (pe_lst (pa_cons (pe_tup (pa_cons (pv 5) (pa_cons (pv 6) pa_nil))) (pa_cons (pe_tup (pa_cons (pv 5) (pa_cons (pv 7) pa_nil))) (pa_cons (pe_tup (pa_cons (pv 5) (pa_cons (pv 8) pa_nil))) (pa_cons (pe_tup (pa_cons (pv 6) (pa_cons (pv 5) pa_nil))) (pa_cons (pe_tup (pa_cons (pv 9) (pa_cons (pv 5) pa_nil))) (pa_cons (pe_tup (pa_cons (pv 5) (pa_cons (pv 9) pa_nil))) (pa_cons (pe_tup (pa_cons (pv 9) (pa_cons (pv 9) pa_nil))) pa_nil))))))))) (pg_name (i := 10) sc_law.nd rfl (by first | exact Or.inl rfl | exact Or.inr rfl))
    (pss_one (ps_if (pt_not (pt_val (pe_callG (G_law_good (P := P) T) gd (hr.mono (by decide)) (by rfl) T.g_law_good T.F_law_good.kp T.b_law_good .nil pass0 (pa_cons (pv 3) (pa_cons (pv 4) (pa_cons (pe_ix (k_ixT K rfl) (pv 10) pe_int (fun _ _ => rfl)) (pa_cons (pe_ix (k_ixT K rfl) (pv 10) pe_int (fun _ _ => rfl)) pa_nil)))))))
    (pss_one (ps_ret pe_bl))
    pss_nil))))))))))))))
  (pss_cons (ps_set (i := 2) sc_law.nd rfl (by first | exact Or.inl rfl | exact Or.inr rfl) (pe_lst (pa_cons (pe_call (G_leads_all (P := P) T) (hr.mono (by decide)) (by rfl) T.g_leads_all T.F_leads_all.kp T.b_leads_all .nil passL (pa_cons pe_int (pa_cons (pe_lst (pa_cons pe_int pa_nil)) (pa_cons (pe_lst (pa_cons pe_int (pa_cons (pe_un un_neg pe_int) pa_nil))) pa_nil)))) (pa_cons (pe_call (G_leads_all (P := P) T) (hr.mono (by decide)) (by rfl) T.g_leads_all T.F_leads_all.kp T.b_leads_all .nil passL (pa_cons pe_int (pa_cons (pe_lst pa_nil) (pa_cons (pe_lst (pa_cons pe_int pa_nil)) pa_nil)))) (pa_cons (pe_call (G_leads_all (P := P) T) (hr.mono (by decide)) (by rfl) T.g_leads_all T.F_leads_all.kp T.b_leads_all .nil passL (pa_cons pe_int (pa_cons (pe_lst (pa_cons pe_int pa_nil)) (pa_cons (pe_lst pa_nil) pa_nil)))) (pa_cons (pe_call (G_leads_all (P := P) T) (hr.mono (by decide)) (by rfl) T.g_leads_all T.F_leads_all.kp T.b_leads_all .nil passL (pa_cons pe_int (pa_cons (pe_lst (pa_cons pe_int pa_nil)) (pa_cons (pe_lst (pa_cons pe_int pa_nil)) pa_nil)))) pa_nil))))))
  (pss_cons (ps_expr (pe_bm PySem.F.plainAttrs_list PySem.F.slot_list_append PySem.F.type_list_append mt_append (pv 2) (pa_cons (pe_callKO (G_leads_all (P := P) T) (hr.mono (by decide)) (by rfl) T.g_leads_all T.F_leads_all.kp (FunD.kbindsN T.F_leads_all ["other", "one", "depth"] List.reverse Vals_rev (fun _ _ _ _ _ _ ws hl => match ws, hl with | [_, _, _], _ => rfl)) passL (pk_cons (pe_lst (pa_cons pe_int pa_nil)) (pk_cons (pe_lst (pa_cons pe_int (pa_cons (pe_un un_neg pe_int) pa_nil))) (pk_cons pe_int pk_nil)))) pa_nil)))
  (pss_one (ps_ret (pe_and (pe_cmpR (k_eqD K rfl hr.units) (pv 2) (pe_lst (pa_cons pe_non (pa_cons pe_non (pa_cons (pe_tup (pa_cons (pe_lst (pa_cons (pe_un un_neg pe_int) pa_nil)) (pa_cons pe_int pa_nil))) (pa_cons pe_non (pa_cons (pe_tup (pa_cons (pe_lst (pa_cons pe_int (pa_cons (pe_un un_neg pe_int) pa_nil))) (pa_cons pe_int pa_nil))) pa_nil)))))) (nomark _)) (pe_one (pe_callG0 (G_law_refused (P := P) T) gd (hr.mono (by decide)) (by rfl) T.g_law_refused T.F_law_refused.kp T.b_law_refused .nil pass0)))))))), ?_⟩
  refine ⟨_, rfl, by decide, by decide, ?_⟩
  refine for_range (lo := 0) (n := Int.toNat 2) (fun i σ HA => ∃ v1 v3 v4 v5 v6 v7 v8 v9 v10 v11 : Option V, σ = [some (.ref a), v1, none, v3, v4, v5, v6, v7, v8, v9, v10, v11, none] ∧ Same H HA) ⟨none, none, none, none, none, none, none, none, none, none, rfl, Same.refl _⟩ ?_ ?_
  · rintro i σ HA hi ⟨v1, v3, v4, v5, v6, v7, v8, v9, v10, v11, rfl, sA⟩
    have hi2 : i < 2 := hi
    rw [Int.zero_add]
    refine ⟨_, rfl, _, rfl, a, ns, i, rfl, sA.seq hS, fun H1 g s1 ng gG => ?_⟩
    have gG1 : GenAt H1 g 1000 := gG.mono (by omega)
    refine ⟨_, rfl, (by show 2 ≤ sizeLine; decide), fun p0 np0 => ?_⟩
    obtain ⟨H2, e2, s2, hp0⟩ := fresh (.lst [V.int 3, .int 24]) np0
    rw [e2]
    refine ⟨_, rfl, g, _, _, rfl, gG1.same s2, by decide, by decide, by decide +kernel, fun x1 H3 x10 x11 g3 b3 => ?_⟩
    have hp03 := b3 _ _ ((gG1.ne np0)) hp0
    obtain ⟨v, hv, v0, v24⟩ : ∃ v : Int, atI [V.int 3, .int 24] x1 = some (.int v) ∧ 0 < v ∧ v ≤ 24 := by
      rcases (show x1 = 0 ∨ x1 = 1 by omega) with rfl | rfl
      · exact ⟨3, rfl, by decide, by decide⟩
      · exact ⟨24, rfl, by decide, by decide⟩
    refine ⟨p0, _, _, _, rfl, rfl, .inl (.inl hp03), hv, g, _, _, rfl, g3, by decide, v0, small_2900 (by omega), fun x2 H4 x20 x21 g4 b4 => ?_⟩
    obtain ⟨d, hd, d1, d2⟩ : ∃ d : Nat, 1 + x2 = (d : Int) ∧ 1 ≤ d ∧ d ≤ 24 := ⟨(1 + x2).toNat, by omega, by omega, by omega⟩
    refine ⟨_, _, rfl, rfl, ?_⟩
    dsimp only
    rw [hd]
    refine ⟨_, rfl, _, rfl, g, _, _, rfl, g4, by decide, by decide, by decide +kernel, fun x3 H5 x30 x31 g5 b5 => ?_⟩
    obtain ⟨m1, rfl⟩ : ∃ m : Nat, x3 = (m : Int) := ⟨x3.toNat, by omega⟩
    refine ⟨g, _, m1, rfl, g5, by decide, by omega, fun H6 one ws b6 n6 og g6 hone lws sws => ?_⟩
    refine ⟨_, rfl, _, rfl, _, rfl, g, _, _, rfl, g6, by decide, by decide, by decide +kernel, fun x4 H7 x40 x41 g7 b7 => ?_⟩
    obtain ⟨m2, rfl⟩ : ∃ m : Nat, x4 = (m : Int) := ⟨x4.toNat, by omega⟩
    refine ⟨g, _, m2, rfl, g7, by decide, by omega, fun H8 pu us b8 n8 pg g8 hpu lus sus => ?_⟩
    have hone8 := b8 _ _ og (b7 _ _ og hone)
    refine ⟨one, pu, ws, us, rfl, hone8, hpu, by omega, by omega, sws, sus, fun H9 oth s9 noth hoth => ?_⟩
    have othg : oth ≠ g := g8.ne noth
    have lq : (prodL (asP ws) (asP us)).length = m1 + m2 := by rw [prodL_len, asP_len, asP_len]; omega
    have sq : ∀ x ∈ prodL (asP ws) (asP us), x.natAbs ≤ 100 := prodL_small (asP_small (by decide) sws) (asP_small (by decide) sus) (by rw [asP_len]; omega)
    have gq : GoodR (prodL (asP ws) (asP us)) := goodS (by omega) (by decide) sq
    have gw : GoodR ws := goodS (by omega) (by decide) sws
    have hone9 := s9 _ _ hone8
    have g9 := g8.same s9
    have pnone := prod_none (d := d) d1 (ws := ws) (us := us)
    have b19 : But g H1 H9 := ((((((But.of s2).trans b3).trans b4).trans b5).trans b6).trans b7).trans (b8.same s9)
    generalize prodL (asP ws) (asP us) = qs at *
    refine ⟨_, rfl, _, rfl, _, rfl, _, _, _, rfl, .inl ⟨d, rfl, d1, d2, .inl ⟨one, ws, rfl, hone9, gw, .inl ⟨oth, qs, rfl, hoth, gq, fun H10 s10 => ⟨fun _ => ?_, fun k t p hk => ?_⟩⟩⟩⟩⟩
    rotate_left
    · rw [pnone] at hk
      cases hk
    refine ⟨rfl, _, rfl, iteNF rfl ?_⟩
    have hone10 := s10 _ _ hone9
    have hoth10 := s10 _ _ hoth
    have g10 := g9.same s10
    have b110 : But g H1 H10 := b19.same s10
    refine ⟨_, rfl, _, _, rfl, rfl, _, rfl, ?_⟩
    refine join_te (fun v H' => ∃ p : Addr, v = .ref p ∧ RuleAt g p H' ∧ But g H10 H' ∧ GenAt H' g 4400) (fun e R' k => ?_) (fun e R' k => ?_) fun v H11 hv => ?_
    · have e9 : (d : Int) < 9 := of_decide_eq_true e
      have d9 : d ≤ 8 := by omega
      refine ⟨_, rfl, oth, rfl, ⟨_, .inl (.inl hoth10)⟩, fun D nD => ?_⟩
      refine lc_drawL (K := K) (xs := qs) g _ 100 (fun y => y.natAbs ≤ 1000) nD g10 hoth10 othg (small4 (by omega)) (fun x => rfl) ?_ ?_
      · intro j x H' hx b' g' Qt qt
        have hj : j < qs.length := (List.getElem?_eq_some_iff.mp hx).1
        have hxs := sq x (List.mem_of_getElem? hx)
        refine ⟨_, rfl, _, rfl, g, _, _, rfl, g', by omega, by decide, by decide +kernel, fun y H'' y0 y1 g2 b2 => ⟨_, rfl, _, _, rfl, rfl, ⟨by omega, by omega, by omega⟩, _, _, rfl, rfl, ?_⟩⟩
        refine qt _ _ ?_ b2 (g2.mono (by omega))
        rw [Int.toNat_natCast]
        have hp : (2 : Int) ^ d ≤ 2 ^ 8 := pow2_le d9
        have hp0 : (0 : Int) < 2 ^ d := Int.pow_pos (by decide)
        rcases (show y = 0 ∨ y = 1 by omega) with rfl | rfl
        · rw [Int.zero_mul]; omega
        · rw [Int.one_mul]; omega
      · intro H' ys b' g' hD hl hP
        exact k _ _ ⟨D, rfl, ⟨ys, hD, goodS (by omega) (by decide) hP, g10.ne nD⟩, b', g'.mono (by omega)⟩
    · refine ⟨_, rfl, oth, _, rfl, .inl (.inl (.inl hoth10)), fun p np => ?_⟩
      exact k _ _ ⟨p, rfl, ⟨qs, upd_same, gq, g10.ne np⟩, But.of (same_upd np), (g10.same (same_upd np)).mono (by omega)⟩
    obtain ⟨more, rfl, rmore, b11, g11⟩ := hv
    have hoth11 := b11 _ _ othg hoth10
    refine ⟨_, rfl, oth, _, rfl, .inl (.inl (.inl hoth11)), fun bent nbent => ?_⟩
    obtain ⟨H12, e12, s12, hbent⟩ := fresh (.lst (qs.map V.int)) nbent
    rw [e12]
    have nbg : bent ≠ g := g11.ne nbent
    have g12 := g11.same s12
    refine ⟨_, rfl, Nat.zero_le _, fun p6 np6 => ?_⟩
    obtain ⟨H13, e13, s13, hp6⟩ := fresh (.lst ([] : List V)) np6
    rw [e13]
    have hbent13 := s13 _ _ hbent
    have b1113 : But g H11 H13 := (But.of s12).same s13
    refine neD_lst (ns := qs) (ms := []) (.inl (.inl hbent13)) (.inl (.inl hp6)) ⟨_, rfl, ?_⟩
    have g13 := g12.same s13
    have bent11 : H11 bent = none := nbent
    refine joinS (fun σ H' => ∃ v11 : Option V, σ = [some (.ref a), some (.int (i : Nat)), none, some (.ref g), some (.int (d : Nat)), some (.ref one), some (.ref oth), some (.ref more), some (.ref bent), v9, v10, v11, none] ∧ But g H11 H' ∧ GenAt H' g 5000 ∧ RuleAt g bent H') (fun σ H' hp => ?_) (fun e k => ?_) (fun _ => ⟨v11, rfl, b1113, g13.mono (by omega), qs, hbent13, gq, nbg⟩)
    rotate_left
    · have hne : qs ≠ [] := fun z => by rw [z] at e; exact absurd e (by decide)
      have hl0 : 0 < qs.length := List.length_pos_iff.mpr hne
      refine ⟨_, rfl, _, rfl, bent, _, rfl, .inl (.inl (.inl hbent13)), g, _, _, rfl, g13, by decide, by rw [List.length_map]; omega, small_2900 (by rw [List.length_map]; omega), fun y H14 y0 y1 g14 b14 => ?_⟩
      obtain ⟨j, rfl⟩ : ∃ j : Nat, y = (j : Int) := ⟨y.toNat, by omega⟩
      rw [List.length_map] at y1
      have hj : j < qs.length := by omega
      have hbent14 := b14 _ _ nbg hbent13
      have hget : (qs.map V.int)[j]? = some (.int (qs[j]'hj)) := by rw [List.getElem?_map, List.getElem?_eq_getElem hj]; rfl
      have hsj := sq _ (List.getElem_mem hj)
      generalize qs[j]'hj = qj at *
      refine ⟨_, rfl, _, rfl, bent, _, _, _, rfl, rfl, .inl (.inl hbent14), atI_nat hget, _, rfl, _, rfl, _, _, rfl, rfl, _, rfl, ?_⟩
      refine join_te (fun v H' => ∃ u : Int, v = .int u ∧ u.natAbs ≤ 8192 ∧ H' = H14) (fun e R' k => ?_) (fun e R' k => ?_) fun v H' hv => ?_
      · have e14 : (d : Int) < 14 := of_decide_eq_true e
        refine ⟨_, rfl, _, _, rfl, rfl, _, _, rfl, rfl, ⟨by omega, by omega, by decide⟩, k _ _ ⟨_, rfl, ?_, rfl⟩⟩
        rw [Int.one_mul, show ((d : Int) - 1).toNat = d - 1 by omega]
        have hp : (2 : Int) ^ (d - 1) ≤ 2 ^ 12 := pow2_le (by omega)
        have hp0 : (0 : Int) < 2 ^ (d - 1) := Int.pow_pos (by decide)
        omega
      · exact k _ _ ⟨4, rfl, by decide, rfl⟩
      obtain ⟨u, rfl, hu, rfl⟩ := hv
      refine ⟨(by show 4 ≤ sizeLine; decide), fun p7 np7 => ?_⟩
      obtain ⟨H15, e15, s15, hp7⟩ := fresh (.lst [V.int 1, .int 2, .int (-1), .int u]) np7
      rw [e15]
      have p7g : p7 ≠ g := g14.ne np7
      have nbent7 : bent ≠ p7 := ne_of_none hbent14 np7
      refine ⟨_, rfl, g, _, _, rfl, g14.same s15, by decide, by decide, by decide +kernel, fun z H16 z0 z1 g16 b16 => ?_⟩
      have hp716 := b16 _ _ p7g hp7
      have hbent16 := b16 _ _ nbg (s15 _ _ hbent14)
      obtain ⟨t, ht, htl⟩ : ∃ t : Int, atI [V.int 1, .int 2, .int (-1), .int u] z = some (.int t) ∧ t.natAbs ≤ 8192 := by
        rcases (show z = 0 ∨ z = 1 ∨ z = 2 ∨ z = 3 by omega) with rfl | rfl | rfl | rfl
        · exact ⟨1, rfl, by decide⟩
        · exact ⟨2, rfl, by decide⟩
        · exact ⟨-1, rfl, by decide⟩
        · exact ⟨u, rfl, hu⟩
      refine ⟨p7, _, _, _, rfl, rfl, .inl (.inl hp716), ht, _, _, rfl, rfl, ?_⟩
      refine ⟨_, rfl, _, rfl, bent, _, _, j, rfl, rfl, hbent16, ?_, k _ _ ⟨_, rfl, ?_, ?_, ?_⟩⟩
      · unfold ixN
        rw [if_pos (by omega), if_pos (by rw [List.length_map]; omega)]
        rfl
      · intro c o nc hc
        rw [upd_ne (ne_of_none hc bent11)]
        exact b16 _ _ nc (s15 _ _ (b14 _ _ nc (b1113 _ _ nc hc)))
      · obtain ⟨x', y', z', e1, e2, e3⟩ := g16
        exact ⟨x', y', z', by rw [upd_ne nbg.symm]; exact e1, e2, by omega⟩
      · refine ⟨qs.set j (qj + t), by rw [upd_same, List.map_set], ⟨by rw [List.length_set]; exact gq.1, fun w hw => ?_⟩, nbg⟩
        rcases List.mem_or_eq_of_mem_set hw with h | rfl
        · exact gq.2 w h
        · omega
    obtain ⟨v11, rfl, b12, g12, rbent⟩ := hp
    refine ⟨_, rfl, _, rfl, g, _, _, rfl, g12, by decide, by decide, by decide +kernel, fun y H18 y0 y1 g18 b18 => ?_⟩
    obtain ⟨m, rfl⟩ : ∃ m : Nat, y = (m : Int) := ⟨y.toNat, by omega⟩
    refine ⟨g, _, m, rfl, g18, by decide, by omega, fun H19 drawn ds b19' nd dg g19 hdrawn gd' => ?_⟩
    have b1019 : But g H10 H19 := ((b11.trans b12).trans b18).trans b19'
    have r1 : RuleAt g one H19 := ⟨ws, b1019 _ _ og hone10, gw, og⟩
    have r2 : RuleAt g oth H19 := ⟨qs, b1019 _ _ othg hoth10, gq, othg⟩
    have r3 : RuleAt g more H19 := ((rmore.but b12).but b18).but b19'
    have r4 : RuleAt g bent H19 := (rbent.but b18).but b19'
    have r5 : RuleAt g drawn H19 := ⟨ds, hdrawn, gd', dg⟩
    have b119 : But g H1 H19 := b110.trans b1019
    refine ⟨_, rfl, _, rfl, (by show 2 ≤ sizeLine; decide), fun t0 nt0 => ?_⟩
    obtain ⟨G0, eG0, sG0, ht0⟩ := fresh (.tup [V.ref one, .ref oth]) nt0
    rw [eG0]
    refine ⟨_, rfl, _, rfl, (by show 2 ≤ sizeLine; decide), fun t1 nt1 => ?_⟩
    obtain ⟨G1, eG1, sG1, ht1⟩ := fresh (.tup [V.ref one, .ref more]) nt1
    rw [eG1]
    refine ⟨_, rfl, _, rfl, (by show 2 ≤ sizeLine; decide), fun t2 nt2 => ?_⟩
    obtain ⟨G2, eG2, sG2, ht2⟩ := fresh (.tup [V.ref one, .ref bent]) nt2
    rw [eG2]
    refine ⟨_, rfl, _, rfl, (by show 2 ≤ sizeLine; decide), fun t3 nt3 => ?_⟩
    obtain ⟨G3, eG3, sG3, ht3⟩ := fresh (.tup [V.ref oth, .ref one]) nt3
    rw [eG3]
    refine ⟨_, rfl, _, rfl, (by show 2 ≤ sizeLine; decide), fun t4 nt4 => ?_⟩
    obtain ⟨G4, eG4, sG4, ht4⟩ := fresh (.tup [V.ref drawn, .ref one]) nt4
    rw [eG4]
    refine ⟨_, rfl, _, rfl, (by show 2 ≤ sizeLine; decide), fun t5 nt5 => ?_⟩
    obtain ⟨G5, eG5, sG5, ht5⟩ := fresh (.tup [V.ref one, .ref drawn]) nt5
    rw [eG5]
    refine ⟨_, rfl, _, rfl, (by show 2 ≤ sizeLine; decide), fun t6 nt6 => ?_⟩
    obtain ⟨G6, eG6, sG6, ht6⟩ := fresh (.tup [V.ref drawn, .ref drawn]) nt6
    rw [eG6]
    refine ⟨(by show 7 ≤ sizeLine; decide), fun L nL => ?_⟩
    obtain ⟨G7, eG7, sG7, hL⟩ := fresh (.lst [V.ref t0, .ref t1, .ref t2, .ref t3, .ref t4, .ref t5, .ref t6]) nL
    rw [eG7]
    have k0 := sG7 _ _ (sG6 _ _ (sG5 _ _ (sG4 _ _ (sG3 _ _ (sG2 _ _ (sG1 _ _ ht0))))))
    have k1 := sG7 _ _ (sG6 _ _ (sG5 _ _ (sG4 _ _ (sG3 _ _ (sG2 _ _ ht1)))))
    have k2 := sG7 _ _ (sG6 _ _ (sG5 _ _ (sG4 _ _ (sG3 _ _ ht2))))
    have k3 := sG7 _ _ (sG6 _ _ (sG5 _ _ (sG4 _ _ ht3)))
    have k4 := sG7 _ _ (sG6 _ _ (sG5 _ _ ht4))
    have k5 := sG7 _ _ (sG6 _ _ ht5)
    have k6 := sG7 _ _ ht6
    have s19 := ((((((sG0.trans sG1).trans sG2).trans sG3).trans sG4).trans sG5).trans sG6).trans sG7
    have Lg : L ≠ g := (g19.same (((((((sG0.trans sG1).trans sG2).trans sG3).trans sG4).trans sG5).trans sG6))).ne nL
    have gG7 := g19.same s19
    have all7 : ∀ (j : Nat) (v : V), [V.ref t0, .ref t1, .ref t2, .ref t3, .ref t4, .ref t5, .ref t6][j]? = some v → ∃ t x y : Addr, v = .ref t ∧ t ≠ g ∧ G7 t = some (.tup [.ref x, .ref y]) ∧ RuleAt g x G7 ∧ RuleAt g y G7 := by
      have up : ∀ {p : Addr}, RuleAt g p H19 → RuleAt g p G7 := fun h => h.but (But.of s19)
      have ng' : ∀ {t : Addr} {o : List V}, G7 t = some (.tup o) → t ≠ g := fun h z => by
        obtain ⟨x', y', z', e1, _⟩ := gG7
        rw [z, e1] at h
        cases h
      intro j v hv
      match j, hv with
      | 0, hv => cases hv; exact ⟨_, _, _, rfl, ng' k0, k0, up r1, up r2⟩
      | 1, hv => cases hv; exact ⟨_, _, _, rfl, ng' k1, k1, up r1, up r3⟩
      | 2, hv => cases hv; exact ⟨_, _, _, rfl, ng' k2, k2, up r1, up r4⟩
      | 3, hv => cases hv; exact ⟨_, _, _, rfl, ng' k3, k3, up r2, up r1⟩
      | 4, hv => cases hv; exact ⟨_, _, _, rfl, ng' k4, k4, up r5, up r1⟩
      | 5, hv => cases hv; exact ⟨_, _, _, rfl, ng' k5, k5, up r1, up r5⟩
      | 6, hv => cases hv; exact ⟨_, _, _, rfl, ng' k6, k6, up r5, up r5⟩
      | j + 7, hv => simp at hv
    refine ⟨L, rfl, ⟨_, .inl (.inl hL)⟩, for_list (K := K) (a := L) (fun j σ HB => ∃ v10 : Option V, σ = [some (.ref a), some (.int (i : Nat)), none, some (.ref g), some (.int (d : Nat)), some (.ref one), some (.ref oth), some (.ref more), some (.ref bent), some (.ref drawn), v10, v11, none] ∧ But g G7 HB ∧ GenAt HB g (10000 + 10000 * j)) ⟨v10, rfl, But.refl, gG7.mono (by omega)⟩ (fun j σ HB _ ⟨_, _, b, _⟩ => .inl (.inl (b _ _ Lg hL))) ?_ ?_⟩
    · rintro j v σ HB hv ⟨v10, rfl, bB, gB⟩
      have hj7 : j < 7 := (List.getElem?_eq_some_iff.mp hv).1
      obtain ⟨t, x, y, rfl, tg, ht, rx, ry⟩ := all7 j v hv
      obtain ⟨wx, hx, gx, xg⟩ := rx.but bB
      obtain ⟨wy, hy, gy, yg⟩ := ry.but bB
      have htB := bB _ _ tg ht
      refine ⟨_, rfl, _, rfl, _, rfl, t, _, _, _, rfl, rfl, .inl (.inl htB), atI_nat (j := 0) rfl, _, rfl, t, _, _, _, rfl, rfl, .inl (.inl htB), at1 _ _ _, ?_⟩
      refine ⟨g, x, y, _, d, wx, wy, rfl, gB, by omega, hx, hy, xg, yg, gx, gy, d1, d2, fun HC bC gC => ?_⟩
      refine ⟨_, rfl, iteF ⟨_, rfl, bB.trans bC, gC.mono (by omega)⟩⟩
    · rintro σ HB ⟨v10, rfl, bB, gB⟩
      exact ⟨_, _, _, _, _, _, _, _, _, _, rfl, sA.trans (But.fresh s1 ng ((b119.same s19).trans bB))⟩
  · rintro σ HA ⟨v1, v3, v4, v5, v6, v7, v8, v9, v10, v11, rfl, sA⟩
    refine ⟨(by show 1 ≤ sizeLine; decide), fun a1 na1 => ?_⟩
    obtain ⟨Ha1, ea1, sa1, ha1⟩ := fresh (.lst [V.int (1)]) na1
    rw [ea1]
    refine ⟨_, rfl, (by show 2 ≤ sizeLine; decide), fun b1 nb1 => ?_⟩
    obtain ⟨Hb1, eb1, sb1, hb1⟩ := fresh (.lst [V.int (2), .int (-1)]) nb1
    rw [eb1]
    refine ⟨_, _, _, rfl, .inl ⟨3, rfl, by decide, by decide, .inl ⟨a1, [1], rfl, sb1 _ _ ha1, ⟨by decide, by decide⟩, .inl ⟨b1, [2, -1], rfl, hb1, ⟨by decide, by decide⟩, fun H1 s1 => ⟨fun _ => ?_, fun k t p hk => ?_⟩⟩⟩⟩⟩
    rotate_left
    · rw [show placeO (2 ^ 3) [1] [2, -1] = none by decide +kernel] at hk
      cases hk
    refine ⟨(by show 0 ≤ sizeLine; decide), fun a2 na2 => ?_⟩
    obtain ⟨Ha2, ea2, sa2, ha2⟩ := fresh (.lst ([] : List V)) na2
    rw [ea2]
    refine ⟨(by show 1 ≤ sizeLine; decide), fun b2 nb2 => ?_⟩
    obtain ⟨Hb2, eb2, sb2, hb2⟩ := fresh (.lst [V.int (5)]) nb2
    rw [eb2]
    refine ⟨_, _, _, rfl, .inl ⟨3, rfl, by decide, by decide, .inl ⟨a2, [], rfl, sb2 _ _ ha2, ⟨by decide, by decide⟩, .inl ⟨b2, [5], rfl, hb2, ⟨by decide, by decide⟩, fun H2 s2 => ⟨fun _ => ?_, fun k t p hk => ?_⟩⟩⟩⟩⟩
    rotate_left
    · rw [show placeO (2 ^ 3) [] [5] = none by decide +kernel] at hk
      cases hk
    refine ⟨(by show 1 ≤ sizeLine; decide), fun a3 na3 => ?_⟩
    obtain ⟨Ha3, ea3, sa3, ha3⟩ := fresh (.lst [V.int (5)]) na3
    rw [ea3]
    refine ⟨(by show 0 ≤ sizeLine; decide), fun b3 nb3 => ?_⟩
    obtain ⟨Hb3, eb3, sb3, hb3⟩ := fresh (.lst ([] : List V)) nb3
    rw [eb3]
    refine ⟨_, _, _, rfl, .inl ⟨3, rfl, by decide, by decide, .inl ⟨a3, [5], rfl, sb3 _ _ ha3, ⟨by decide, by decide⟩, .inl ⟨b3, [], rfl, hb3, ⟨by decide, by decide⟩, fun H3 s3 => ⟨fun z => ?_, fun k t3 p3 hk nt3 np3 ht3 hp3 => ?_⟩⟩⟩⟩⟩
    · rw [show placeO (2 ^ 3) [5] [] = some 0 by decide +kernel] at z
      cases z
    rw [show placeO (2 ^ 3) [5] [] = some 0 by decide +kernel] at hk
    cases hk
    refine ⟨(by show 1 ≤ sizeLine; decide), fun a4 na4 => ?_⟩
    obtain ⟨Ha4, ea4, sa4, ha4⟩ := fresh (.lst [V.int (3)]) na4
    rw [ea4]
    refine ⟨(by show 1 ≤ sizeLine; decide), fun b4 nb4 => ?_⟩
    obtain ⟨Hb4, eb4, sb4, hb4⟩ := fresh (.lst [V.int (1)]) nb4
    rw [eb4]
    refine ⟨_, _, _, rfl, .inl ⟨1, rfl, by decide, by decide, .inl ⟨a4, [3], rfl, sb4 _ _ ha4, ⟨by decide, by decide⟩, .inl ⟨b4, [1], rfl, hb4, ⟨by decide, by decide⟩, fun H4 s4 => ⟨fun _ => ?_, fun k t p hk => ?_⟩⟩⟩⟩⟩
    rotate_left
    · rw [show placeO (2 ^ 1) [3] [1] = none by decide +kernel] at hk
      cases hk
    refine ⟨(by show 4 ≤ sizeLine; decide), fun L nL => ?_⟩
    obtain ⟨HL, eL, sL, hL⟩ := fresh (.lst [V.non, .non, .ref t3, .non]) nL
    rw [eL]
    refine ⟨_, rfl, .inl ⟨rfl, _, .inl (.inl hL)⟩, (by show 1 ≤ sizeLine; decide), fun c1 nc1 => ?_⟩
    obtain ⟨Hc1, ec1, sc1, hc1⟩ := fresh (.lst [V.int 1]) nc1
    rw [ec1]
    refine ⟨_, rfl, (by show 2 ≤ sizeLine; decide), fun c2 nc2 => ?_⟩
    obtain ⟨Hc2, ec2, sc2, hc2⟩ := fresh (.lst [V.int 2, .int (-1)]) nc2
    rw [ec2]
    refine ⟨rfl, _, _, _, rfl, .inl ⟨3, rfl, by decide, by decide, .inl ⟨c2, [2, -1], rfl, hc2, ⟨by decide, by decide⟩, .inl ⟨c1, [1], rfl, sc2 _ _ hc1, ⟨by decide, by decide⟩, fun H5 s5 => ⟨fun z => ?_, fun k t5 p5 hk nt5 np5 ht5 hp5 => ?_⟩⟩⟩⟩⟩
    · rw [show placeO (2 ^ 3) [2, -1] [1] = some 1 by decide +kernel] at z
      cases z
    rw [show placeO (2 ^ 3) [2, -1] [1] = some 1 by decide +kernel] at hk
    cases hk
    have hL2 := sc2 _ _ (sc1 _ _ hL)
    have t5L : t5 ≠ L := (ne_of_none hL2 nt5).symm
    have p5L : p5 ≠ L := (ne_of_none hL2 np5).symm
    have s34 := ((sa4.trans sb4).trans s4)
    have t3L : t3 ≠ L := ne_of_none (s34 _ _ ht3) nL
    have p3L : p3 ≠ L := ne_of_none (s34 _ _ hp3) nL
    have s35 := ((s34.trans sL).trans sc1).trans (sc2.trans s5)
    refine ⟨L, _, _, rfl, rfl, s5 _ _ hL2, (by show 4 < sizeLine; decide), ?_⟩
    have xL : upd H5 L (.lst ([V.non, .non, .ref t3, .non] ++ [V.ref t5])) L = some (.lst [V.non, .non, .ref t3, .non, .ref t5]) := upd_same
    have xt3 : upd H5 L (.lst ([V.non, .non, .ref t3, .non] ++ [V.ref t5])) t3 = _ := (upd_ne t3L).trans (s35 _ _ ht3)
    have xp3 : upd H5 L (.lst ([V.non, .non, .ref t3, .non] ++ [V.ref t5])) p3 = _ := (upd_ne p3L).trans (s35 _ _ hp3)
    have xt5 : upd H5 L (.lst ([V.non, .non, .ref t3, .non] ++ [V.ref t5])) t5 = _ := (upd_ne t5L).trans ht5
    have xp5 : upd H5 L (.lst ([V.non, .non, .ref t3, .non] ++ [V.ref t5])) p5 = _ := (upd_ne p5L).trans hp5
    refine ⟨_, rfl, _, rfl, (by show 1 ≤ sizeLine; decide), fun d1 nd1 => ?_⟩
    obtain ⟨K1, f1, u1, hd1⟩ := fresh (.lst [V.int (-1)]) nd1
    rw [f1]
    refine ⟨(by show 2 ≤ sizeLine; decide), fun d2 nd2 => ?_⟩
    obtain ⟨K2, f2, u2, hd2⟩ := fresh (.tup [V.ref d1, .int 0]) nd2
    rw [f2]
    refine ⟨_, rfl, (by show 2 ≤ sizeLine; decide), fun d3 nd3 => ?_⟩
    obtain ⟨K3, f3, u3, hd3⟩ := fresh (.lst [V.int 0, .int (-1)]) nd3
    rw [f3]
    refine ⟨(by show 2 ≤ sizeLine; decide), fun d4 nd4 => ?_⟩
    obtain ⟨K4, f4, u4, hd4⟩ := fresh (.tup [V.ref d3, .int 1]) nd4
    rw [f4]
    refine ⟨(by show 5 ≤ sizeLine; decide), fun d5 nd5 => ?_⟩
    obtain ⟨K5, f5, u5, hd5⟩ := fresh (.lst [V.non, .non, .ref d2, .non, .ref d4]) nd5
    rw [f5]
    have u15 := (((u1.trans u2).trans u3).trans u4).trans u5
    have D1 : Dp K K5 (.ref d2) (.tuple [rowD [-1], .int 0]) := .tup (.inl (.inl (u5 _ _ (u4 _ _ (u3 _ _ hd2))))) (.cons (.lst (.inl (.inl (u5 _ _ (u4 _ _ (u3 _ _ (u2 _ _ hd1)))))) (Pre.dp_ints [-1])) (.cons (.int _) .nil))
    have D2 : Dp K K5 (.ref d4) (.tuple [rowD [0, -1], .int 1]) := .tup (.inl (.inl (u5 _ _ hd4))) (.cons (.lst (.inl (.inl (u5 _ _ (u4 _ _ hd3)))) (Pre.dp_ints [0, -1])) (.cons (.int _) .nil))
    have D3 : Dp K K5 (.ref t3) (.tuple [rowD [-1], .int 0]) := .tup (.inl (.inl (u15 _ _ xt3))) (.cons (.lst (.inl (.inl (u15 _ _ xp3))) (Pre.dp_ints [-1])) (.cons (.int _) .nil))
    have D4 : Dp K K5 (.ref t5) (.tuple [rowD [0, -1], .int 1]) := .tup (.inl (.inl (u15 _ _ xt5))) (.cons (.lst (.inl (.inl (u15 _ _ xp5))) (Pre.dp_ints [0, -1])) (.cons (.int _) .nil))
    refine ⟨.list [.none, .none, .tuple [rowD [-1], .int 0], .none, .tuple [rowD [0, -1], .int 1]], .list [.none, .none, .tuple [rowD [-1], .int 0], .none, .tuple [rowD [0, -1], .int 1]], .lst (.inl (.inl (u15 _ _ xL))) (.cons .non (.cons .non (.cons D3 (.cons .non (.cons D4 .nil))))), .lst (.inl (.inl hd5)) (.cons .non (.cons .non (.cons D1 (.cons .non (.cons D2 .nil))))), by decide +kernel, by decide +kernel, ?_⟩
    rw [show PyData.eqv (.list [.none, .none, .tuple [rowD [-1], .int 0], .none, .tuple [rowD [0, -1], .int 1]]) (.list [.none, .none, .tuple [rowD [-1], .int 0], .none, .tuple [rowD [0, -1], .int 1]]) = true by decide +kernel]
    exact ⟨_, rfl, iteT ⟨rfl, fun H' _ => q H'⟩⟩
end
end My

open PySem PySem.W PySem.Calls PyProof.Rows
set_option maxRecDepth 100000 in
set_option maxHeartbeats 0 in
theorem PySem.Challenge.cw_wholesound_k24_rules_that_lead_all_holds : PySem.Challenge.rw_wholesound_k24_rules_that_lead_all.Holds := by
  w_on; o_law
  refine HandSHeadRun.head_any (r := OpenLaw.row PySem.Challenge.rw_wholesound_k24_rules_that_lead_all) (q := view (OpenLaw.row PySem.Challenge.rw_wholesound_k24_rules_that_lead_all).prog [34]) (H := My.hk) (ob := My.ob) (M := 8000) (loose := My.loose) (d := HandSHeadRun.topDef (OpenLaw.row PySem.Challenge.rw_wholesound_k24_rules_that_lead_all).prog 34) (kwd := []) My.ob_eq
    (by kernel_rfl) (fun s => by kernel_rfl) My.run (by kernel_rfl) (by kernel_rfl) (by kernel_rfl) (by rfl) (by first | assumption | decide +kernel) (by decide +kernel) ⟨rfl, rfl, rfl, rfl, rfl, by decide +kernel⟩ ?hw ?hc
  case hw => w_witness2
  case hc =>
    refine My.end_g (l := PySem.Challenge.rw_wholesound_k24_rules_that_lead_all) (n := 63) (k := 7) (x := "_law_script") rfl (by decide) (by kernel_rfl) ⟨rfl, by decide, by decide⟩ ?F
    intro w mg fa h Y G hmg0
    obtain ⟨K, KX, c⟩ := Y
    have hmg : mg ("law" : PySem.Str) = some (.ref fa) := by
      have e : (HandSHeadRun.topDef (OpenLaw.row PySem.Challenge.rw_wholesound_k24_rules_that_lead_all).prog 34).name = ("law" : PySem.Str) := by kernel_rfl
      rw [← e]
      exact hmg0
    have T : My.Top K mg := My.top_mk KX G c
    have e := hmg.symm.trans T.g_law
    cases e
    have b := L2.FunD.bindsA (ps := ["_law_script"]) T.F_law fun _ _ _ _ _ _ us hl => match us, hl with | [_], _ => rfl
    exact ⟨K, T.fd_law, My.sp_law K, KX, fun s v => b s [v] rfl, fun H a ns hl hS => ⟨a, ns, rfl, hS, hl, fun _ => rfl⟩, fun base _ _ => My.G_law (pf := ⟨by kernel_rfl, by kernel_rfl⟩) T⟩


