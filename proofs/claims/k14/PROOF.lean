import PyProof.Rows.All
import Wide.All
import OpenK.AllK
import Wide.FinOn
import KE.KStateDown
import Lean
import HandS.ForMost
import HandS.Exc
import HandS.Flow
import HandS.DictComp
import HandS.Style
import HandS.Wide
import HandS.WideBits
import HandS.IsInst
import HandS.Codes
import HandS.Walk
import HandS.Words
import HandS.WordsExc
import HandS.Defaults
import HandS.Head0
import HandS.Head1
import HandS.Head2
import HandS.HeadEnd
import HandS.HeadHook1
import HandS.HeadHook2
import HandS.SortInts
import PyProof.Rows.SortShellAny
import PyProof.InstNe
import KE.DataMinMax
import KE.SortData
import KE.IntBitsLaws
import KE.BitLaws
import HandS.Deep
import HandS.SetKeys
import PyProof.Rows.StrMul
import HandS.TupLe
import HandS.Property
import HandS.Conv
import HandS.NoneIn
import HandS.SetFor
import HandS.Strs
import HandS.Sort
import HandS.StrMore
import HandS.ExcInit
import HandS.ExcSuper
import HandS.Nested
import KE.KExcSuper
import HandS.ExcField
import HandS.TryMany
import HandS.ExcIs
import HandS.TryOnly
import HandS.CallSlots
import KE.KDictDisplayH
import PyProof.StrLawsFirst
import KE.GoesZip
import KE.GoesMore
import HandS.Zip
import PyProof.CallType
import PyProof.ZipIter
import PyProof.TupleIter
import PyProof.Rows.CallKwBuiltin
import HandS.Star
import PySem.Challenge.RW_wholesound_k14_guessers_refused_and_what
set_option Elab.async false
set_option linter.all false
set_option maxRecDepth 100000
set_option maxHeartbeats 4000000
set_option exponentiation.threshold 100000
namespace Pre
open PySem PySem.Spec PyProof.Rows L2
/-! ### heaps -/
theorem same_upd {H : Hp} {p : Addr} {o : HO} (h : H p = none) : Same H (upd H p o) := fun b x e => by
  rw [upd_ne (ne_of_none e h)]
  exact e
/-- a fresh thing that is then changed is no change of what was -/
theorem same_over {H H' : Hp} {p : Addr} {o : HO} (n : H p = none) (s : Same H H') : Same H (upd H' p o) := fun b x e => by
  rw [upd_ne (ne_of_none e n)]
  exact s b x e
theorem Same.tup {K : PySem.W.Frag} {H H' : Hp} {a : Addr} {xs : List V} (e : Same H H') (h : SqT K H a xs) : SqT K H' a xs := by
  rcases h with (h | ⟨o, h⟩) | h
  · exact .inl (.inl (e _ _ h))
  · exact .inl (.inr ⟨o, e _ _ h⟩)
  · exact .inr h
mutual
theorem dp_same {K : PySem.W.Frag} {H H' : Hp} (s : Same H H') : ∀ (d : PyData) (v : V), Dp K H v d → Dp K H' v d
  | .none, _, h => by cases h; exact .non
  | .bool _, _, h => by cases h; exact .bl _
  | .int _, _, h => by cases h; exact .int _
  | .str _, _, h => by cases h; exact .str _
  | .list ds, _, h => by cases h with | lst a b => exact .lst (s.seq a) (dps_same s ds _ b)
  | .tuple ds, _, h => by cases h with | tup a b => exact .tup (Same.tup s a) (dps_same s ds _ b)
  | .dict _, _, h => nomatch h
theorem dps_same {K : PySem.W.Frag} {H H' : Hp} (s : Same H H') : ∀ (ds : List PyData) (vs : List V), DpAll K H vs ds → DpAll K H' vs ds
  | [], _, h => by cases h; exact .nil
  | d :: ds, _, h => by cases h with | cons a b => exact .cons (dp_same s d _ a) (dps_same s ds _ b)
end
theorem dp_ints {K : PySem.W.Frag} {H : Hp} : ∀ ns : List Int, DpAll K H (ns.map V.int) (ns.map PyData.int)
  | [] => .nil
  | n :: r => .cons (.int n) (dp_ints r)
theorem eqv_ints : ∀ ns ms : List Int, PyData.eqvAll (ns.map PyData.int) (ms.map PyData.int) = decide (ns = ms)
  | [], [] => rfl
  | [], _ :: _ => rfl
  | _ :: _, [] => rfl
  | n :: r, m :: q => by
    show (PyData.eqv (.int n) (.int m) && PyData.eqvAll (r.map PyData.int) (q.map PyData.int)) = decide (n :: r = m :: q)
    rw [eqv_ints r q]
    show ((n == m) && decide (r = q)) = decide (n :: r = m :: q)
    by_cases h : n = m
    · subst h; simp
    · simp [h]
theorem lay_ints : ∀ ns : List Int, PyData.canLayAll0 (ns.map PyData.int) = true
  | [] => rfl
  | n :: r => by
    show (PyData.canLay0 (.int n) && PyData.canLayAll0 (r.map PyData.int)) = true
    rw [lay_ints r]
    rfl
theorem depth_ints : ∀ ns : List Int, PyData.depthAll (ns.map PyData.int) = 0
  | [] => by simp [PyData.depthAll]
  | n :: r => by
    show PyData.depthAll (.int n :: r.map PyData.int) = 0
    rw [PyData.depthAll, depth_ints r]
    simp [PyData.depth]
theorem shaped_ints (ns : List Int) : SeqAt.shaped (.list (ns.map PyData.int)) = true := by
  unfold SeqAt.shaped
  rw [PyData.canLay0, lay_ints, PyData.depth, depth_ints]
  rfl
theorem shaped_tup (ns : List Int) : SeqAt.shaped (.tuple (ns.map PyData.int)) = true := by
  unfold SeqAt.shaped
  rw [PyData.canLay0, lay_ints, PyData.depth, depth_ints]
  rfl
/-! ### comparisons of lists and tuples of whole numbers that are told alike -/
theorem ne_tup {K : PySem.W.Frag} {H : Hp} {a b : Addr} {ns : List Int} {Q : V → Hp → Prop} (ha : SqT K H a (ns.map V.int)) (hb : SqT K H b (ns.map V.int)) (q : Q (.bl false) H) : rNeD K (.ref a) (.ref b) H Q := by
  refine ⟨.tuple (ns.map PyData.int), .tuple (ns.map PyData.int), .tup ha (dp_ints ns), .tup hb (dp_ints ns), shaped_tup ns, shaped_tup ns, ?_⟩
  rw [PyData.eqv, eqv_ints, decide_eq_true rfl]
  exact q
theorem eq_tup {K : PySem.W.Frag} {H : Hp} {a b : Addr} {ns : List Int} {Q : V → Hp → Prop} (ha : SqT K H a (ns.map V.int)) (hb : SqT K H b (ns.map V.int)) (q : Q (.bl true) H) : rEqD K (.ref a) (.ref b) H Q := by
  refine ⟨.tuple (ns.map PyData.int), .tuple (ns.map PyData.int), .tup ha (dp_ints ns), .tup hb (dp_ints ns), shaped_tup ns, shaped_tup ns, ?_⟩
  rw [PyData.eqv, eqv_ints, decide_eq_true rfl]
  exact q
/-- lists of whole numbers, compared -/
theorem eqD_lst {K : PySem.W.Frag} {H : Hp} {a b : Addr} {ns ms : List Int} {Q : V → Hp → Prop} (ha : SqL K H a (ns.map V.int)) (hb : SqL K H b (ms.map V.int)) (q : Q (.bl (decide (ns = ms))) H) : rEqD K (.ref a) (.ref b) H Q := by
  refine ⟨.list (ns.map PyData.int), .list (ms.map PyData.int), .lst ha (dp_ints ns), .lst hb (dp_ints ms), shaped_ints ns, shaped_ints ms, ?_⟩
  rw [PyData.eqv, eqv_ints]
  exact q
theorem neD_lst {K : PySem.W.Frag} {H : Hp} {a b : Addr} {ns ms : List Int} {Q : V → Hp → Prop} (ha : SqL K H a (ns.map V.int)) (hb : SqL K H b (ms.map V.int)) (q : Q (.bl (!decide (ns = ms))) H) : rNeD K (.ref a) (.ref b) H Q := by
  refine ⟨.list (ns.map PyData.int), .list (ms.map PyData.int), .lst ha (dp_ints ns), .lst hb (dp_ints ms), shaped_ints ns, shaped_ints ms, ?_⟩
  rw [PyData.eqv, eqv_ints]
  exact q
theorem ne_lst {K : PySem.W.Frag} {H : Hp} {a b : Addr} {ns : List Int} {Q : V → Hp → Prop} (ha : SqL K H a (ns.map V.int)) (hb : SqL K H b (ns.map V.int)) (q : Q (.bl false) H) : rNeD K (.ref a) (.ref b) H Q :=
  neD_lst ha hb (by rw [decide_eq_true rfl]; exact q)
theorem eq_lst {K : PySem.W.Frag} {H : Hp} {a b : Addr} {ns : List Int} {Q : V → Hp → Prop} (ha : SqL K H a (ns.map V.int)) (hb : SqL K H b (ns.map V.int)) (q : Q (.bl true) H) : rEqD K (.ref a) (.ref b) H Q :=
  eqD_lst ha hb (by rw [decide_eq_true rfl]; exact q)
/-! ### powers -/
def CPowW (i j : Int) : Prop := 0 ≤ j ∧ (Builtin.Int.intBits i : Int) * j ≤ 2 ^ 27
theorem op_powW {X : Cx} : OpR X (binaryOp .Pow) (rI CPowW fun i j => .int (i ^ j.toNat)) := opI fun _ _ _ _ _ _ _ hc q => pow_int hc.1 hc.2 q
/-! ### comprehensions whose parts leave what is tracked as it is: sel tells of each item what comes of it -/
theorem take_fm {α : Type} {l : List (Option α)} {i : Nat} {o : Option α} (h : l[i]? = some o) : (l.take (i + 1)).filterMap id = (l.take i).filterMap id ++ o.toList := by
  rw [List.take_add_one, h, List.filterMap_append]
  cases o <;> rfl
theorem fm_len {α : Type} (l : List (Option α)) (i : Nat) : ((l.take i).filterMap id).length ≤ l.length :=
  Nat.le_trans (List.length_filterMap_le _ _) (by rw [List.length_take]; omega)
theorem lc_selL {K : PySem.W.Frag} {a : Addr} {xs : List V} {j : Nat} {tt : TT} {te : TE} {vs : List Nat} {σ : L2.St} {H1 : Hp} {D : Addr} {Qd : Hp → Prop} (sel : List (Option V)) (nD : H1 D = none) (hS : SqL K H1 a xs) (hlen : sel.length = xs.length) (hz : xs.length < sizeLine)
    (hw : ∀ x, wipe ((wipe σ vs).set j (some x)) vs = wipe σ vs)
    (hs : ∀ (i : Nat) (x : V) (o : Option V) (H' : Hp), xs[i]? = some x → sel[i]? = some o → Same H1 H' → ∀ Qt : Option V → Hp → Prop, (∀ H'', Same H' H'' → Qt o H'') →
      tt ((wipe σ vs).set j (some x)) H' fun b H3 => if b = true then te ((wipe σ vs).set j (some x)) H3 fun y H4 => Qt (some y) H4 else Qt none H3)
    (hd : ∀ H', Same H1 H' → H' D = some (.lst (sel.filterMap id)) → Qd H') :
    ∃ W : Nat → Nat → Hp → Prop, (∃ m, W 0 m (upd H1 D (.lst []))) ∧ ∀ i m H, W i m H →
      ((Itl K a).stop i H ∧ Qd H) ∨ ((Itl K a).go i H ∧ ∃ Nx : Hp → Prop, (∀ H', Nx H' → ∃ m', m' < m ∧ W (i + 1) m' H') ∧ ∀ x H', (Itl K a).yld i H x H' → gName j x (wipe σ vs) H' fun σ2 H2 => wipe σ2 vs = wipe σ vs ∧ tt σ2 H2 fun b H3 =>
        if b = true then te σ2 H3 fun y H4 => ∃ acc, H4 D = some (.lst acc) ∧ acc.length < sizeLine ∧ Nx (upd H4 D (.lst (acc ++ [y]))) else Nx H3) := by
  refine lc_list (K := K) (a := a) (xs := xs) (fun i H => Same H1 H ∧ H D = some (.lst ((sel.take i).filterMap id))) ⟨same_upd nD, upd_same⟩ (fun i H _ p => p.1.seq hS) ?_ ?_
  · rintro i x H hx ⟨s, hD⟩
    refine ⟨hw x, ?_⟩
    have hi : i < sel.length := by rw [hlen]; exact (List.getElem?_eq_some_iff.mp hx).1
    have ho : sel[i]? = some sel[i] := List.getElem?_eq_getElem hi
    have hl : ((sel.take i).filterMap id).length < sizeLine := Nat.lt_of_le_of_lt (fm_len sel i) (by omega)
    refine hs i x sel[i] H hx ho s (fun o H4 => match o with
      | some y => ∃ acc, H4 D = some (.lst acc) ∧ acc.length < sizeLine ∧ (Same H1 (upd H4 D (.lst (acc ++ [y]))) ∧ (upd H4 D (.lst (acc ++ [y]))) D = some (.lst ((sel.take (i + 1)).filterMap id)))
      | none => Same H1 H4 ∧ H4 D = some (.lst ((sel.take (i + 1)).filterMap id))) fun H4 s4 => ?_
    generalize sel[i] = o at ho ⊢
    cases o with
    | some y =>
      refine ⟨_, s4 _ _ hD, hl, same_over nD (s.trans s4), ?_⟩
      rw [upd_same, take_fm ho]
      rfl
    | none =>
      refine ⟨s.trans s4, ?_⟩
      rw [take_fm ho, s4 _ _ hD]
      simp
  · rintro H ⟨s, hD⟩
    refine hd H s ?_
    rw [hD, ← hlen, List.take_length]
theorem lc_selR {lo : Int} {n : Nat} {j : Nat} {tt : TT} {te : TE} {vs : List Nat} {σ : L2.St} {H1 : Hp} {D : Addr} {Qd : Hp → Prop} (sel : List (Option V)) (nD : H1 D = none) (hlen : sel.length = n) (hz : n < sizeLine)
    (hw : ∀ x, wipe ((wipe σ vs).set j (some x)) vs = wipe σ vs)
    (hs : ∀ (i : Nat) (o : Option V) (H' : Hp), i < n → sel[i]? = some o → Same H1 H' → ∀ Qt : Option V → Hp → Prop, (∀ H'', Same H' H'' → Qt o H'') →
      tt ((wipe σ vs).set j (some (.int (lo + (i : Int))))) H' fun b H3 => if b = true then te ((wipe σ vs).set j (some (.int (lo + (i : Int))))) H3 fun y H4 => Qt (some y) H4 else Qt none H3)
    (hd : ∀ H', Same H1 H' → H' D = some (.lst (sel.filterMap id)) → Qd H') :
    ∃ W : Nat → Nat → Hp → Prop, (∃ m, W 0 m (upd H1 D (.lst []))) ∧ ∀ i m H, W i m H →
      ((Itr lo n).stop i H ∧ Qd H) ∨ ((Itr lo n).go i H ∧ ∃ Nx : Hp → Prop, (∀ H', Nx H' → ∃ m', m' < m ∧ W (i + 1) m' H') ∧ ∀ x H', (Itr lo n).yld i H x H' → gName j x (wipe σ vs) H' fun σ2 H2 => wipe σ2 vs = wipe σ vs ∧ tt σ2 H2 fun b H3 =>
        if b = true then te σ2 H3 fun y H4 => ∃ acc, H4 D = some (.lst acc) ∧ acc.length < sizeLine ∧ Nx (upd H4 D (.lst (acc ++ [y]))) else Nx H3) := by
  refine lc_range (lo := lo) (n := n) (fun i H => Same H1 H ∧ H D = some (.lst ((sel.take i).filterMap id))) ⟨same_upd nD, upd_same⟩ ?_ ?_
  · rintro i H hi' ⟨s, hD⟩
    refine ⟨hw _, ?_⟩
    have hi : i < sel.length := by rw [hlen]; exact hi'
    have ho : sel[i]? = some sel[i] := List.getElem?_eq_getElem hi
    have hl : ((sel.take i).filterMap id).length < sizeLine := Nat.lt_of_le_of_lt (fm_len sel i) (by omega)
    refine hs i sel[i] H hi' ho s (fun o H4 => match o with
      | some y => ∃ acc, H4 D = some (.lst acc) ∧ acc.length < sizeLine ∧ (Same H1 (upd H4 D (.lst (acc ++ [y]))) ∧ (upd H4 D (.lst (acc ++ [y]))) D = some (.lst ((sel.take (i + 1)).filterMap id)))
      | none => Same H1 H4 ∧ H4 D = some (.lst ((sel.take (i + 1)).filterMap id))) fun H4 s4 => ?_
    generalize sel[i] = o at ho ⊢
    cases o with
    | some y =>
      refine ⟨_, s4 _ _ hD, hl, same_over nD (s.trans s4), ?_⟩
      rw [upd_same, take_fm ho]
      rfl
    | none =>
      refine ⟨s.trans s4, ?_⟩
      rw [take_fm ho, s4 _ _ hD]
      simp
  · rintro H ⟨s, hD⟩
    refine hd H s ?_
    rw [hD, ← hlen, List.take_length]
theorem fm_some {α : Type} (ys : List α) : (ys.map some).filterMap id = ys := by
  rw [List.filterMap_map]
  show List.filterMap (fun y => some y) ys = ys
  exact List.filterMap_some
/-- no test: ys tells what comes of each item -/
theorem lc_mapL {K : PySem.W.Frag} {a : Addr} {xs : List V} {j : Nat} {te : TE} {vs : List Nat} {σ : L2.St} {H1 : Hp} {D : Addr} {Qd : Hp → Prop} (ys : List V) (nD : H1 D = none) (hS : SqL K H1 a xs) (hlen : ys.length = xs.length) (hz : xs.length < sizeLine)
    (hw : ∀ x, wipe ((wipe σ vs).set j (some x)) vs = wipe σ vs)
    (hs : ∀ (i : Nat) (x y : V) (H' : Hp), xs[i]? = some x → ys[i]? = some y → Same H1 H' → ∀ Qt : V → Hp → Prop, (∀ H'', Same H' H'' → Qt y H'') → te ((wipe σ vs).set j (some x)) H' Qt)
    (hd : ∀ H', Same H1 H' → H' D = some (.lst ys) → Qd H') :
    ∃ W : Nat → Nat → Hp → Prop, (∃ m, W 0 m (upd H1 D (.lst []))) ∧ ∀ i m H, W i m H →
      ((Itl K a).stop i H ∧ Qd H) ∨ ((Itl K a).go i H ∧ ∃ Nx : Hp → Prop, (∀ H', Nx H' → ∃ m', m' < m ∧ W (i + 1) m' H') ∧ ∀ x H', (Itl K a).yld i H x H' → gName j x (wipe σ vs) H' fun σ2 H2 => wipe σ2 vs = wipe σ vs ∧ tYes σ2 H2 fun b H3 =>
        if b = true then te σ2 H3 fun y H4 => ∃ acc, H4 D = some (.lst acc) ∧ acc.length < sizeLine ∧ Nx (upd H4 D (.lst (acc ++ [y]))) else Nx H3) := by
  refine lc_selL (K := K) (a := a) (xs := xs) (tt := tYes) (ys.map some) nD hS (by rw [List.length_map]; exact hlen) hz hw ?_ ?_
  · intro i x o H' hx ho s Qt qt
    rw [List.getElem?_map] at ho
    obtain ⟨y, hy, rfl⟩ := Option.map_eq_some_iff.mp ho
    show if true = true then te ((wipe σ vs).set j (some x)) H' (fun y H4 => Qt (some y) H4) else Qt none H'
    exact iteT (hs i x y H' hx hy s (fun y H4 => Qt (some y) H4) qt)
  · intro H' s hD
    rw [fm_some] at hD
    exact hd H' s hD
theorem lc_mapR {lo : Int} {n : Nat} {j : Nat} {te : TE} {vs : List Nat} {σ : L2.St} {H1 : Hp} {D : Addr} {Qd : Hp → Prop} (ys : List V) (nD : H1 D = none) (hlen : ys.length = n) (hz : n < sizeLine)
    (hw : ∀ x, wipe ((wipe σ vs).set j (some x)) vs = wipe σ vs)
    (hs : ∀ (i : Nat) (y : V) (H' : Hp), i < n → ys[i]? = some y → Same H1 H' → ∀ Qt : V → Hp → Prop, (∀ H'', Same H' H'' → Qt y H'') → te ((wipe σ vs).set j (some (.int (lo + (i : Int))))) H' Qt)
    (hd : ∀ H', Same H1 H' → H' D = some (.lst ys) → Qd H') :
    ∃ W : Nat → Nat → Hp → Prop, (∃ m, W 0 m (upd H1 D (.lst []))) ∧ ∀ i m H, W i m H →
      ((Itr lo n).stop i H ∧ Qd H) ∨ ((Itr lo n).go i H ∧ ∃ Nx : Hp → Prop, (∀ H', Nx H' → ∃ m', m' < m ∧ W (i + 1) m' H') ∧ ∀ x H', (Itr lo n).yld i H x H' → gName j x (wipe σ vs) H' fun σ2 H2 => wipe σ2 vs = wipe σ vs ∧ tYes σ2 H2 fun b H3 =>
        if b = true then te σ2 H3 fun y H4 => ∃ acc, H4 D = some (.lst acc) ∧ acc.length < sizeLine ∧ Nx (upd H4 D (.lst (acc ++ [y]))) else Nx H3) := by
  refine lc_selR (lo := lo) (n := n) (tt := tYes) (ys.map some) nD (by rw [List.length_map]; exact hlen) hz hw ?_ ?_
  · intro i o H' hi ho s Qt qt
    rw [List.getElem?_map] at ho
    obtain ⟨y, hy, rfl⟩ := Option.map_eq_some_iff.mp ho
    show if true = true then te ((wipe σ vs).set j (some (.int (lo + (i : Int))))) H' (fun y H4 => Qt (some y) H4) else Qt none H'
    exact iteT (hs i y H' hi hy s (fun y H4 => Qt (some y) H4) qt)
  · intro H' s hD
    rw [fm_some] at hD
    exact hd H' s hD
/-- an item of a list of whole numbers -/
theorem int_at {ns : List Int} {i : Nat} {x : V} (h : (ns.map V.int)[i]? = some x) : ∃ n, ns[i]? = some n ∧ x = .int n := by
  rw [List.getElem?_map] at h
  obtain ⟨n, hn, e⟩ := Option.map_eq_some_iff.mp h
  exact ⟨n, hn, e.symm⟩
/-! ### rules with the written part named (within a comprehension Lean doesn't find it) -/
section
variable {X : Cx}
theorem k_len (K : PySem.W.Frag) (h : X.K = K) : CallR X (.builtin "len") (fun xs H Q => ∃ p ys, xs = [.ref p] ∧ (SqL K H p ys ∨ SqT K H p ys) ∧ Q (.int ys.length) H) := by subst h; exact call_len_seq
theorem k_sum (K : PySem.W.Frag) (h : X.K = K) (hc : X.calm = true) : CallR X (.builtin "sum") (rSum K) := by subst h; exact cr_sum hc
theorem k_max (K : PySem.W.Frag) (h : X.K = K) (hc : X.calm = true) : CallR X (.builtin "max") (rMax K) := by subst h; exact cr_max hc
theorem k_min (K : PySem.W.Frag) (h : X.K = K) (hc : X.calm = true) : CallR X (.builtin "min") (rMin K) := by subst h; exact cr_min hc
theorem k_isi (K : PySem.W.Frag) (h : X.K = K) : CallR X (.builtin "isinstance") (rIsi K) := by subst h; exact call_isi
theorem k_listOf (K : PySem.W.Frag) (h : X.K = K) : CallR X (.type "list") (fun xs H Q => ∃ p ys, xs = [.ref p] ∧ (SqL K H p ys ∨ SqT K H p ys) ∧ ∀ l, H l = none → Q (.ref l) (upd H l (.lst ys))) := by subst h; exact call_list_of
theorem k_tupleOf (K : PySem.W.Frag) (h : X.K = K) : CallR X (.type "tuple") (fun xs H Q => ∃ p ys, xs = [.ref p] ∧ ((SqL K H p ys ∧ ∀ l, H l = none → Q (.ref l) (upd H l (.tup ys))) ∨ (SqT K H p ys ∧ Q (.ref p) H))) := by subst h; exact call_tuple_of
theorem k_ixL (K : PySem.W.Frag) (h : X.K = K) : IxR X (rIxL K) := by subst h; exact ix_list
theorem k_ixT (K : PySem.W.Frag) (h : X.K = K) : IxR X (rIxT K) := by subst h; exact ix_tup
theorem k_slL (K : PySem.W.Frag) (h : X.K = K) : SlR X (rSlL K) := by subst h; exact sl_list
theorem k_slT (K : PySem.W.Frag) (h : X.K = K) : SlR X (rSlT K) := by subst h; exact sl_tup
theorem k_eqD (K : PySem.W.Frag) (h : X.K = K) (hu : X.A.units + 64 < cLine) : OpR X (compareOp .Eq) (rEqD K) := by subst h; exact op_eqD hu
theorem k_neD (K : PySem.W.Frag) (h : X.K = K) (hu : X.A.units + 64 < cLine) : OpR X (compareOp .NotEq) (rNeD K) := by subst h; exact op_neD hu
theorem k_in (K : PySem.W.Frag) (h : X.K = K) : OpR X (compareOp .In) (rIn K false) := by subst h; exact op_in_seq
theorem k_notIn (K : PySem.W.Frag) (h : X.K = K) : OpR X (compareOp .NotIn) (rIn K true) := by subst h; exact op_notIn_seq
theorem k_piL (K : PySem.W.Frag) (h : X.K = K) {tg l : Expr} {tl : TE} (hl : PE X l tl) : PI X tg l (iList K tl) := by subst h; exact pi_list hl
theorem k_piT (K : PySem.W.Frag) (h : X.K = K) {tg l : Expr} {tl : TE} (hl : PE X l tl) : PI X tg l (iTup K tl) := by subst h; exact pi_tup hl
theorem k_piE (K : PySem.W.Frag) (h : X.K = K) {e : Expr} {ta : TA} {p pos tpos : Pos} {elts : List Expr} {kk : Nat} (hg : Gl X "enumerate") (hm : X.mg "enumerate" = none) (ha : PA X [e] ta) (hs : starEach [e] X.env = [(false, eval e X.env)] := by rfl) : PI X (.Tuple elts kk tpos) (.Call (.Name "enumerate" p) [e] [] pos) (iEnum K ta) := by subst h; exact pi_enum hg hm ha hs
theorem k_pgT (K : PySem.W.Frag) (h : X.K = K) {es : List Expr} {k : Nat} {t : TGs} {n : Nat} {pos : Pos} (hc : X.calm = true) (hp : PGs X es t) (hn : (assignEach es X.env).length = n := by rfl) (hst : (assignEach es X.env).findIdx? (·.1) = none := by rfl) : PG X (.Tuple es k pos) (gTup K n t) := by subst h; exact pg_tup hc hp hn hst
theorem k_pgL (K : PySem.W.Frag) (h : X.K = K) {es : List Expr} {k : Nat} {t : TGs} {n : Nat} {pos : Pos} (hc : X.calm = true) (hp : PGs X es t) (hn : (assignEach es X.env).length = n := by rfl) (hst : (assignEach es X.env).findIdx? (·.1) = none := by rfl) : PG X (.Tuple es k pos) (gUnl K n t) := by subst h; exact pg_unl hc hp hn hst
theorem k_fld (K : PySem.W.Frag) (h : X.K = K) {e : Expr} {f : Str} {pos : Pos} {ta : TE} (he : PE X e ta) (hb : attributeBase e f X.env (eval e X.env) = eval e X.env) : PE X (.Attribute e f pos) (tFld K ta f) := by subst h; exact pe_fld he hb
theorem k_index (K : PySem.W.Frag) (h : X.K = K) : MtR X "list.index" (rIndex K) := by subst h; exact mt_index
end
/-! ### small things -/
theorem fresh {H : Hp} {p : Addr} (o : HO) (np : H p = none) : ∃ H', upd H p o = H' ∧ Same H H' ∧ H' p = some o := ⟨_, rfl, same_upd np, upd_same⟩
theorem cut_take (xs : List V) (k : Nat) : cutV xs none (some (k : Int)) = xs.take k := by
  unfold cutV
  rw [HT.sIx_nat, HT.sIx_none, List.drop_zero, Nat.sub_zero]
  rcases Nat.le_total k xs.length with h | h
  · rw [Nat.min_eq_left h]
  · rw [Nat.min_eq_right h, List.take_of_length_le h, List.take_length]
theorem cut_drop (xs : List V) (k : Nat) : cutV xs (some (k : Int)) none = xs.drop k := by
  unfold cutV
  rw [HT.sIx_nat, HT.sIx_none]
  rcases Nat.le_total k xs.length with h | h
  · rw [Nat.min_eq_left h, List.take_of_length_le (by rw [List.length_drop]; exact Nat.le_refl _)]
  · rw [Nat.min_eq_right h, List.drop_length, List.drop_of_length_le h, List.take_nil]
theorem rep_ints (k : Nat) (ks : List Int) : (List.replicate k (ks.map V.int)).flatten = ((List.replicate k ks).flatten).map V.int := by
  rw [List.map_flatten, List.map_replicate]
theorem rep_len {α : Type} (k : Nat) (ks : List α) : ((List.replicate k ks).flatten).length = k * ks.length := by
  induction k with
  | zero => simp
  | succ k ih => rw [List.replicate_succ, List.flatten_cons, List.length_append, ih, Nat.succ_mul]; omega
theorem rep_mem {α : Type} {k : Nat} {ks : List α} {x : α} (h : x ∈ (List.replicate k ks).flatten) : x ∈ ks := by
  obtain ⟨l, hl, hx⟩ := List.mem_flatten.mp h
  rw [(List.mem_replicate.mp hl).2] at hx
  exact hx
/-! ### comprehensions that make new things: R tells what is known of the i-th; D is no part of it -/
def Off (D : Addr) (H H' : Hp) : Prop := ∀ b o, b ≠ D → H b = some o → H' b = some o
def RelPv (R : Nat → V → Hp → Prop) (H1 : Hp) (D : Addr) (i : Nat) (H : Hp) : Prop := ∃ ys : List V, Same H1 H ∧ H D = some (.lst ys) ∧ ys.length = i ∧ ∀ (k : Nat) (y : V), ys[k]? = some y → R k y H
theorem lc_relR {lo : Int} {n : Nat} {j : Nat} {te : TE} {vs : List Nat} {σ : L2.St} {H1 : Hp} {D : Addr} {Qd : Hp → Prop} (R : Nat → V → Hp → Prop) (nD : H1 D = none) (hz : n < sizeLine)
    (mono : ∀ i y H H', Off D H H' → R i y H → R i y H')
    (hw : ∀ x, wipe ((wipe σ vs).set j (some x)) vs = wipe σ vs)
    (hs : ∀ (i : Nat) (H' : Hp) (xs : List V), i < n → Same H1 H' → H' D = some (.lst xs) → ∀ Qt : V → Hp → Prop, (∀ y H'', Same H' H'' → R i y H'' → Qt y H'') → te ((wipe σ vs).set j (some (.int (lo + (i : Int))))) H' Qt)
    (hd : ∀ H' ys, Same H1 H' → H' D = some (.lst ys) → ys.length = n → (∀ (i : Nat) (y : V), ys[i]? = some y → R i y H') → Qd H') :
    ∃ W : Nat → Nat → Hp → Prop, (∃ m, W 0 m (upd H1 D (.lst []))) ∧ ∀ i m H, W i m H →
      ((Itr lo n).stop i H ∧ Qd H) ∨ ((Itr lo n).go i H ∧ ∃ Nx : Hp → Prop, (∀ H', Nx H' → ∃ m', m' < m ∧ W (i + 1) m' H') ∧ ∀ x H', (Itr lo n).yld i H x H' → gName j x (wipe σ vs) H' fun σ2 H2 => wipe σ2 vs = wipe σ vs ∧ tYes σ2 H2 fun b H3 =>
        if b = true then te σ2 H3 fun y H4 => ∃ acc, H4 D = some (.lst acc) ∧ acc.length < sizeLine ∧ Nx (upd H4 D (.lst (acc ++ [y]))) else Nx H3) := by
  refine lc_range (lo := lo) (n := n) (RelPv R H1 D) ⟨[], same_upd nD, upd_same, rfl, fun k y h => by simp at h⟩ ?_ ?_
  · rintro i H hi ⟨ys, s, hD, hl, hR⟩
    refine ⟨hw _, ?_⟩
    show if true = true then te ((wipe σ vs).set j (some (.int (lo + (i : Int))))) H (fun y H4 => ∃ acc, H4 D = some (.lst acc) ∧ acc.length < sizeLine ∧ RelPv R H1 D (i + 1) (upd H4 D (.lst (acc ++ [y])))) else RelPv R H1 D (i + 1) H
    refine iteT (hs i H ys hi s hD _ fun y H4 s4 r4 => ?_)
    refine ⟨ys, s4 _ _ hD, by omega, ys ++ [y], same_over nD (s.trans s4), upd_same, by rw [List.length_append, hl]; rfl, fun k z hz => ?_⟩
    have off : Off D H4 (upd H4 D (.lst (ys ++ [y]))) := fun b o nb h => by rw [upd_ne nb]; exact h
    by_cases hk : k < ys.length
    · rw [List.getElem?_append_left hk] at hz
      exact mono k z H _ (fun b o nb h => off b o nb (s4 b o h)) (hR k z hz)
    · rw [List.getElem?_append_right (by omega)] at hz
      have hk2 : k - ys.length = 0 := by
        have h2 := (List.getElem?_eq_some_iff.mp hz).1
        rw [List.length_singleton] at h2
        omega
      rw [hk2] at hz
      cases hz
      have ek : k = i := by omega
      rw [ek]
      exact mono i y H4 _ off r4
  · rintro H ⟨ys, s, hD, hl, hR⟩
    exact hd H ys s hD hl hR
/-! ### ways that are told by whole numbers -/
theorem iteDT {p A B : Prop} [Decidable p] (hp : p) (h : A) : if decide p = true then A else B := by rw [decide_eq_true hp]; exact iteT h
theorem iteDF {p A B : Prop} [Decidable p] (hp : ¬ p) (h : B) : if decide p = true then A else B := by rw [decide_eq_false hp]; exact iteF h
theorem iteNT {p A B : Prop} [Decidable p] (hp : ¬ p) (h : A) : if (!decide p) = true then A else B := by rw [decide_eq_false hp]; exact iteT h
theorem iteNF {p A B : Prop} [Decidable p] (hp : p) (h : B) : if (!decide p) = true then A else B := by rw [decide_eq_true hp]; exact iteF h
theorem iteET {a b : Int} {A B : Prop} [Decidable (V.int a = V.int b)] (hp : a = b) (h : A) : if decide (V.int a = V.int b) = true then A else B := iteDT (congrArg V.int hp) h
theorem iteEF {a b : Int} {A B : Prop} [Decidable (V.int a = V.int b)] (hp : ¬ a = b) (h : B) : if decide (V.int a = V.int b) = true then A else B := iteDF (fun z => hp (V.int.inj z)) h
theorem iteENT {a b : Int} {A B : Prop} [Decidable (V.int a = V.int b)] (hp : ¬ a = b) (h : A) : if (!decide (V.int a = V.int b)) = true then A else B := iteNT (fun z => hp (V.int.inj z)) h
theorem iteENF {a b : Int} {A B : Prop} [Decidable (V.int a = V.int b)] (hp : a = b) (h : B) : if (!decide (V.int a = V.int b)) = true then A else B := iteNF (congrArg V.int hp) h
theorem iteNtt {A B : Prop} (h : B) : if (!true) = true then A else B := h
theorem iteNff {A B : Prop} (h : A) : if (!false) = true then A else B := h
/-- 1 or 0 of a comparison -/
theorem int_if {p : Prop} [Decidable p] : (if decide p = true then (1 : Int) else 0) = if p then 1 else 0 := by by_cases h : p <;> simp [h]
end Pre

namespace My
open PySem PySem.Spec PyProof.Rows L2
/-! ### own errors whose __init__ says super().__init__(value); self.value = value -/
namespace Sup
open PySem.W PySem.Calls
section
variable {prog : Program} {w : World} {A : Around} {E : Value → Shared → Prop} {h : Heap} {g : Array GenState} {d : Drawn} {t : Nat} {os : OsState}
variable {nm q : Str} {C N : Addr} {bs bm : List Value} {hdct : Bool} {sn : List Str} {sub : List Value} {ab : Bool} {col : Option Bool} {dd : Option Addr} {k0 k1 k2 k3 k5 : Option Value}
theorem call_bwV {u e t0 : Addr} {rest : List Value} {Q : Value → Shared → Prop}
    (hC : h.get? C = some (excClassObj nm q C N bs bm hdct sn sub ab col dd k0 k1 k2 k3 k5 "ValueError.__new__")) (he : h.get? e = some (HandSPX.excO C t0)) (hu : h.get? u = some (kxs_mw "ValueError.__init__" e)) (hrest : rest.length ≤ sizeLine)
    (hq : ∀ h' t1, (∀ b o, b ≠ e → h.get? b = some o → h'.get? b = some o) → h'.get? e = some (HandSPX.excO C t1) → Q .none ⟨h', g, d, t, os⟩) :
    wpAny (model prog w) A (call (.ref u) rest) Q E ⟨h, g, d, t, os⟩ := by
  refine wpAny_call (codeAny_of_tree ?_)
  show wpAny _ A.in1 (callAny (.ref u) ⟨rest, []⟩) _ _ _
  simp only [callAny]
  refine wpAny_bind (wpAny_load hu ?_)
  simp only [kxs_mw, show (Value.type "method-wrapper" == Value.type "method" || Value.type "method-wrapper" == Value.type "builtin_function_or_method" || Value.type "method-wrapper" == Value.type "method-wrapper") = true by decide, if_true]
  refine W.KFB.if_so (by decide) ?_
  refine wpAny_bind (ESX.check_bound F.excBase_ValueError hC he rfl ?_)
  refine wpAny_bind (wpAny_pure (wpAny_pure ?_))
  refine ⟨Code.quiet_builtin _ (by decide +kernel), codeAny_builtin F.excBase_ValueError.initEntry ?_⟩
  rw [Around.under_plainId F.excBase_ValueError.init.plain _]
  exact exc_init_tree (cls := .ref C) (t0 := t0) (dv := none) (c2 := .none) (c3 := .none) (b4 := .bool false) he hrest fun h' k e' _ => hq h' _ k e'
end
/-- the file of the program: what its code objects are asked for -/
class PF (P : Program) (file : Str) : Prop where
  file : ((P.main.file : Str) == file) = true
  top : (P.main.scope.names.lookup ("super" : Str)).isSome = false
/-- what the written part says of such a class C, named x, and its __init__ at fI -/
structure SupC (K : Frag) (file x : Str) (st : Stmt) (C fI : Addr) (fd : FuncData) : Prop where
  T : OexC K C
  ex : ∃ (oc : Value) (od : Option Addr) (dV kV doc pm : Value) (an : Option Addr) (c cc : Addr) (ct : Value) (osl : Array (Option Value)),
    fd = ksFn "__init__" (x ++ (".__init__" : Str)) (defArgs st) (defBody st) (defScope st) dV kV doc pm an (.ref c) ct cc ∧ K.lookup fI = some ⟨oc, od, .func fd, osl⟩ ∧ codeIn K (.ref c) (x ++ (".__init__" : Str)) = true ∧
    (∃ (ccl : Value) (cdd : Option Addr) (vs : Array Value) (ccs : Array (Option Value)) (tf : Tok), K.lookup c = some ⟨ccl, cdd, .fields vs, ccs⟩ ∧ vs[2]? = some (.str file tf)) ∧ (∃ (cl : Value) (cld : Option Addr) (csl : Array (Option Value)), K.lookup cc = some ⟨cl, cld, .cell (some (.ref C)), csl⟩)
  sup : ks_superIn K C C "__init__" = some (some (.builtin "ValueError.__init__"))
  subV : subIn K (.ref C) (.type "ValueError") = some true
  subC : mroIn K C (.ref C) = some true
  opq : nsIn K cStatics "thirdparty.any" = some none
  nov : findIn K (.ref C) "value" = some none
/-- the body's shape -/
def SupBody (st : Stmt) : Prop := ∃ p0 p1 p2 p3 p4 p5 p6 p7 p8 p9 : Pos,
  defBody st = [.Expr (.Call (.Attribute (.Call (.Name "super" p0) [] [] p1) "__init__" p2) [.Name "value" p3] [] p4) p5, .Assign [.Attribute (.Name "self" p6) "value" p7] (.Name "value" p8) p9] ∧
  ((defArgs st).posonlyargs ++ (defArgs st).args).head?.map (·.arg) = some ("self" : Str) ∧
  ∀ env : Env, ∃ pl : Sem Bool, eval (.Call (.Attribute (.Call (.Name "super" p0) [] [] p1) "__init__" p2) [.Name "value" p3] [] p4) env = (do
      let ov ← attributeBase (.Call (.Name "super" p0) [] [] p1) "__init__" env (eval (.Call (.Name "super" p0) [] [] p1) env)
      standAt p2.atName
      let (f, first) ← holding [ov] (getMethod ov "__init__" pl)
      callWith p4 f first (backTo p4 (starEach [.Name "value" p3] env)) [])
def sp_exc_init (C : Addr) : Sp := fun vs H Q _ => ∃ (a : Addr) (v : V), vs = [.ref a, v] ∧ H a = some (exo a C none) ∧ ∀ d, H d = none → d ≠ a → Q .non (upd (upd H d (exd d [("value", v)])) a (exo a C (some d)))
section
variable {P : Program} {w : World} {K : Frag} {mg : Str → Option Value} {base : Heap} {CX : CXT} {file x : Str} {st : Stmt} {C fI : Addr} {fd : FuncData}
theorem fn_sup [pf : PF P file] (S : NdefX.NScope ["self", "value", "__class__"] ["self", "value"] ["__class__"] (defScope st)) (hgs : (defScope st).names.lookup ("super" : Str) = some .globalImplicit) (hb0 : SupBody st) (F : SupC K file x st C fI fd) (nosup : mg ("super" : Str) = none) :
    FnOk P w K mg base CX 1 fI fd ["self", "value"] (sp_exc_init C) := by
  refine ⟨fun vs H Q E h => by obtain ⟨a, v, rfl, _⟩ := h; rfl, fun A outer s H args us vs Q E hr e0 hb rv hsp => ?_⟩
  obtain ⟨a, v, rfl, ha, q⟩ := hsp
  obtain ⟨oc, od, dV, kV, doc, pm, an, c, cc, ct, osl, rfl, lk, hcd, ⟨ccl, cdd, cvs, ccs, tf, lkc, hvs⟩, cl, cld, csl, lkcc⟩ := F.ex
  obtain ⟨p0, p1, p2, p3, p4, p5, p6, p7, p8, p9, hbody, hself, hev⟩ := hb0
  obtain ⟨pl, hpl⟩ := hev (NdefX.envF ⟨"__init__", x ++ (".__init__" : Str), defArgs st, defBody st, defScope st, [("__class__", cc)], c⟩ fI s.heap.objs.size)
  have hin : K.In s.heap := e0.mod.kin.keeps fun b o z => (e0.bs b o z).1
  have lim : s.heap.NoLimit := e0.mod.nolimit.keeps fun b o e => (e0.bs b o e).1
  let Fn : NdefX.NF := ⟨"__init__", x ++ (".__init__" : Str), defArgs st, defBody st, defScope st, [("__class__", cc)], c⟩
  refine codeAny_call_function hr.depth (hin _ _ lk) rfl S.co S.gen rfl (codeRec_of hin hcd) (hb _ _ _ _ ?_)
  refine wpAny_newFunctionEnv S.nocell (fun ⟨n, _⟩ hy => S.par n (List.of_mem_zip hy).1) (fun h₁ hns hsb => ⟨lim.fresh _ hsb, ?_⟩) S.kind
  show codeAny _ _ (.func (defBody st) (NdefX.envF Fn fI s.heap.objs.size)) _ _
  have kp : ∀ b o, s.heap.get? b = some o → h₁.get? b = some o := fun b o e => hsb.extBut b o (Nat.ne_of_lt (Heap.lt_size e)) (Heap.get?_push_of_some _ e)
  have hcc : ∀ y c', ([("__class__", cc)] : List (Str × Addr)).lookup y = some c' → y = ("__class__" : Str) ∧ c' = cc := fun y c' e => by
    by_cases h : y = ("__class__" : Str)
    · subst h
      cases e
      exact ⟨rfl, rfl⟩
    · rw [List.lookup_cons, show (y == ("__class__" : Str)) = false by simpa using h] at e
      cases e
  have cells : NdefX.CellsAt Fn.cl ["__class__"] [some (.ref C)] s.heap H := {
    len := rfl
    all := fun y c' e => by
      obtain ⟨_, rfl⟩ := hcc y c' e
      exact ⟨(e0.bs _ _ (e0.mod.kin _ _ lkcc)).2, _, _, hin _ _ lkcc, rfl⟩
    inj := fun y z c' e1 e2 => by rw [(hcc y c' e1).1, (hcc z c' e2).1]
    has := fun i y e => by
      cases i with
      | zero =>
        cases e
        refine ⟨cc, rfl, fun u hu => ?_⟩
        cases hu
        exact ⟨.ref C, rfl, _, hin _ _ lkcc, rfl⟩
      | succ i => simp at e }
  have I : Inv (NdefX.ncx CX P w K mg base ["self", "value", "__class__"] Fn fI A outer s H E) [] (NdefX.startF ["self", "value", "__class__"] [.ref a, v] [some (.ref C)]) H { s with heap := h₁, toks := s.toks + (["self", "value"].zip us).length } := NdefX.inv_startN S hr.hd e0 rfl rv cells hns kp
  obtain ⟨nm, q0, N, bs, bm, sn, sub, ab, col, dd, k0, k1, k2, k3, k5, hC, hbm⟩ := F.T.cls
  have hcl : clsIn K C = some { name := nm, bases := bs, mro := .ref C :: bm, ns := N, qualname := q0, hasDict := true, slotNames := sn, subclasses := sub, abstract := ab, collection := col, hasDel := false } := by unfold clsIn; rw [hC] <;> rfl
  refine ks_codeAny_funcAt ?_
  rw [hbody]
  obtain ⟨ar, hp, har⟩ : ∃ ar, ((defArgs st).posonlyargs ++ (defArgs st).args).head? = some ar ∧ ar.arg = ("self" : Str) := by
    cases e : ((defArgs st).posonlyargs ++ (defArgs st).args).head? with
    | none => rw [e] at hself; cases hself
    | some ar => rw [e] at hself; exact ⟨ar, rfl, Option.some.inj hself⟩
  have X1 : K.In h₁ := hin.keeps kp
  obtain ⟨ual, rfl⟩ : ∃ u1, us = [.ref a, u1] := by
    cases rv with
    | cons r1 r2 => cases r2 with
      | cons r3 r4 => cases r4; cases r1; exact ⟨_, rfl⟩
  refine ks_wpAt_execs_cons (ks_wpAt_Expr_any (ks_wpAt_MethodCall (pl := pl) ?_ hpl) I.quiet)
  refine ks_wpAt_super_base (env := NdefX.envF Fn fI s.heap.objs.size) hgs (S.frk _ (by simp)) (by decide) rfl (X1 _ _ lk) rfl hp rfl (X1 _ _ lkc) rfl hvs pf.file pf.top ?_
  obtain ⟨mb, hb1, hb2⟩ := I.mod.blt
  refine ks_loadName_global S.kind hgs (loadGlobal_builtin (env := NdefX.envF Fn fI s.heap.objs.size) (I.mod.glob.keeps I.bk) nosup (hb1.keeps I.bk) ((hb2 _ (by decide)).trans (show bootBuiltins "super" = some (.type "super") by decide +kernel)) ⟨rfl, ?_⟩)
  refine wpAny_loadName_free S.kind (S.frk _ (by simp)) rfl ⟨_, X1 _ _ lkcc, rfl⟩ ?_
  rw [har]
  refine wpAny_loadName_local S.kind (S.par _ (by simp)) hns rfl ?_
  obtain ⟨t1, he0⟩ := exo_at e0.hok ha
  have he1 := kp _ _ he0
  refine ks_wpAny_isType_cls (X1 _ _ hC) rfl ⟨rfl, ?_⟩
  refine ks_wpAny_call_super (X1 _ _ hC) rfl he1 rfl (fun c e => by cases e) (looks_mroIn X1 F.subC) (fun h2 hso k2 => ?_)
  have X2 : K.In h2 := X1.keeps k2
  have he2 := k2 _ _ he1
  have IA : InstAt h2 a (HandSPX.excO C t1) C none := ⟨he2, rfl, rfl, trivial⟩
  have hf := F.sup
  unfold ks_superIn at hf
  rw [hcl] at hf
  refine kxs_getMethod kxs_ValueError hso (looks_opaque X2 F.opq) (l₀ := .ref C :: bm) (fun A Q E s k q => wpAny_bind ((looks_clsIn X2 hcl) A _ E s k (wpAny_pure q))) rfl X2 hf (IA.type.andThen (looks_subIn X2 F.subV)) (ks_ne X2 IA hcl) (by decide) ?_
  have k3 : ∀ b o, h₁.get? b = some o → (h2.push (kxs_mw "ValueError.__init__" a)).get? b = some o := fun b o e => Heap.get?_push_of_some _ (k2 b o e)
  have I3 := I.kept (h' := h2.push (kxs_mw "ValueError.__init__" a)) (t' := s.toks + (["self", "value"].zip [Value.ref a, ual]).length + 1) k3
  refine kxs_callWith (i := "ValueError.__init__") (x := a) rfl ?_
  rw [show starEach [Expr.Name "value" p3] (NdefX.envF Fn fI s.heap.objs.size) = (false, eval (.Name "value" p3) (NdefX.envF Fn fI s.heap.objs.size)) :: starEach [] (NdefX.envF Fn fI s.heap.objs.size) from rfl]
  refine evalArgs_plain ?_
  refine spliced_cons ?_
  obtain ⟨m, hn, hl⟩ := I3.loc
  obtain ⟨u, ru, l⟩ := hl 1 "value" v rfl rfl (.inl (S.par _ (by simp)))
  have fin : wpAny (model P w) (A.deeper (NdefX.envF Fn fI s.heap.objs.size)) (eval (.Name "value" p3) (NdefX.envF Fn fI s.heap.objs.size)) (fun z s' => z = u ∧ s' = { s with heap := h2.push (kxs_mw "ValueError.__init__" a), toks := s.toks + (["self", "value"].zip [Value.ref a, ual]).length + 1 }) (fun e s' =>
      wpAny (model P w) (A.deeper (NdefX.envF Fn fI s.heap.objs.size)) (leaving (NdefX.envF Fn fI s.heap.objs.size) e)
        (fun x s'' => CR CX outer P w H s Q E (Except.error e) s'')
        (fun e' s'' => CR CX outer P w H s Q E (Except.error e') s'') s') { s with heap := h2.push (kxs_mw "ValueError.__init__" a), toks := s.toks + (["self", "value"].zip [Value.ref a, ual]).length + 1 } := by
    rcases l with ⟨hk, hm⟩ | ⟨hk, _⟩
    · exact wpAny_Name (wpAny_loadName_local S.kind hk hn hm ⟨rfl, rfl⟩) (by decide)
    · have hv : (defScope st).names.lookup ("value" : Str) = some .local := S.par _ (by simp)
      rcases hk with hk | hk <;> exact absurd (hv.symm.trans hk) (by intro z; cases z)
  refine wpAny_mono fin (fun z s' hz => ?_) fun _ _ z => z
  obtain ⟨rfl, rfl⟩ := hz
  refine spliced_nil ⟨Heap.get?_push_at rfl rfl, ?_⟩
  refine call_bwV (e := a) (t0 := t1) (X2.keeps (fun b o e => Heap.get?_push_of_some _ e) _ _ hC) (Heap.get?_push_of_some _ he2) (Heap.get?_push_at rfl rfl) (by show 1 ≤ sizeLine; decide) fun h' t2 k4 hx => ?_
  refine wpAt_of_wpAny ?_
  have J := I3.write (t' := s.toks + (["self", "value"].zip [Value.ref a, ual]).length + 1) (x := a) (e := a) (o := exo a C none) (by rw [ha]; exact True.intro) (.inl rfl) k4 ⟨_, hx⟩ (exo_ok hx)
  have eu : upd H a (exo a C none) = H := by
    funext b
    by_cases hb : b = a
    · rw [hb, upd_same, ha]
    · rw [upd_ne hb]
  rw [eu] at J
  have ht : PSs (NdefX.ncx CX P w K mg base ["self", "value", "__class__"] Fn fI A outer s H E) [.Assign [.Attribute (.Name "self" p6) "value" p7] (.Name "value" p8) p9] (tOst K "value" (tVar 0) (tVar 1)) :=
    pss_one (ps_ost (pe_var (i := 0) rfl (.inl (S.par _ (by simp)))) (pe_var (i := 1) rfl (.inl (S.par _ (by simp)))))
  refine wpAny_mono (ht.run [] _ _ H { nx := fun _ H' => Q .non H', rt := Q } J ⟨v, rfl, .ref a, rfl, a, C, rfl, F.T, F.nov, .inl ⟨ha, fun dx n ne => q dx n ne⟩⟩) (fun fl s' hs => ?_) fun e s' hs => hs
  have fin : ∀ {σ' : L2.St} {H' : Hp} {v : V} {u : Value}, Inv (NdefX.ncx CX P w K mg base ["self", "value", "__class__"] Fn fI A outer s H E) [] σ' H' s' → L2.RelV v u → Q v H' → CE outer P w H s Q u s' :=
    fun {σ' H' v u} J rv q => ⟨v, H', J.os, J.bare, J.base, J.hok, rv, q⟩
  cases fl with
  | ret u =>
    obtain ⟨v, σ', H', J, rv, q⟩ := hs
    exact fin J rv q
  | next =>
    obtain ⟨σ', H', J, q⟩ := hs
    exact fin (v := V.non) (u := Value.none) J rfl q
  | brk =>
    obtain ⟨_, _, _, q⟩ := hs
    exact False.elim q
  | cont =>
    obtain ⟨_, _, _, q⟩ := hs
    exact False.elim q
end
end Sup
end My

namespace My
open PySem PySem.Spec PyProof.Rows L2
/-! ### such an error raised; its value in an except suite; several clauses with a name -/
/-- what is left to be shown behind the making of such an error with the value v -/
theorem mk_sup {C : Addr} {v : V} {H1 : Hp} {Q : XK} (q : ∀ d, H1 d = none → Q (.ref C) (some d) (upd H1 d (.xd [("value", v)]))) : [v].length ≤ 1000 ∧ ∀ a, H1 a = none → Sup.sp_exc_init C (.ref a :: ([v] ++ [])) (upd H1 a (exo a C none))
    (fun w H2 => w = .non ∧ ∃ (d : Addr) (fs : List (Str × V)), H2 a = some (exo a C (some d)) ∧ H2 d = some (exd d fs) ∧ H1 d = none ∧ Q (.ref C) (some d) (upd (del H2 a) d (.xd fs))) (fun _ _ _ => False) := by
  refine ⟨by show 1 ≤ 1000; decide, fun a na => ⟨a, v, rfl, upd_same, fun d nd da => ⟨rfl, d, [("value", v)], upd_same, ?_, ?_, ?_⟩⟩⟩
  · rw [upd_ne da, upd_same]
  · rw [upd_ne da] at nd
    exact nd
  · have hn : H1 d = none := by rw [upd_ne da] at nd; exact nd
    have e : upd (del (upd (upd (upd H1 a (exo a C none)) d (exd d [("value", v)])) a (exo a C (some d))) a) d (.xd [("value", v)]) = upd H1 d (.xd [("value", v)]) := by
      funext b
      by_cases hb : b = d
      · rw [hb, upd_same, upd_same]
      · rw [upd_ne hb, upd_ne hb]
        by_cases hba : b = a
        · rw [hba, del_same, na]
        · rw [del_ne hba, upd_ne hba, upd_ne hb, upd_ne hba]
    rw [e]
    exact q d hn
/-- the reading of err.f, the class of err told there -/
def tXfA (K : PySem.W.Frag) (a : Addr) (cls : Value) (d : Option Addr) (f : Str) (te : TE) : TE := fun σ H Q => te σ H fun x H1 => x = .ref a ∧ ∃ C : Addr, cls = .ref C ∧ XfC K C ∧ PySem.W.findIn K (.ref C) f = some none ∧ ∃ (dd : Addr) (fs : List (Str × V)) (v : V), d = some dd ∧ H1 dd = some (.xd fs) ∧ fs.lookup f = some v ∧ Q v H1
theorem pe_xfA {X : Cx} {a : Addr} {oe : Obj} {cls : Value} {d : Option Addr} {pn : List (Addr × Obj)} {e : Expr} {te : TE} {pos : Pos} {n : Str}
    (hz : Zc cls d oe) (hf : ∃ vs, oe.data = .fields vs) (he : PE (X.suite a ((a, oe) :: pn)) e te) (hb : attributeBase e n X.env (eval e X.env) = eval e X.env := by rfl) :
    PE (X.suite a ((a, oe) :: pn)) (.Attribute e n pos) (tXfA X.K a cls d n te) := by
  refine ⟨fun pins s σ H Q I h => ?_⟩
  refine attr_of hb (thn (he.run pins s σ H _ I h) fun u s1 hh => ?_)
  obtain ⟨x, H1, I1, rx, ex, C, ec, T, hno, dd, fs, v, ed, ea, l, q⟩ := hh
  subst ex
  obtain rfl : u = Value.ref a := rx
  subst ec
  subst ed
  obtain ⟨ha, _⟩ := I1.pin (a, oe) (List.mem_append_left _ List.mem_cons_self)
  obtain ⟨vs, hd⟩ := hf
  have hx : ObjOk X.prog X.w H1 s1.heap dd (.xd fs) := I1.hok dd _ ea
  obtain ⟨mA, hns, hr⟩ := hx
  obtain ⟨od, ho, hl⟩ := lookIn_ns hns
  obtain ⟨u, hu, ru⟩ := RelO.some_of (v := v) (o := mA n) (by rw [← l]; exact hr n)
  have J : PySem.W.InstAt s1.heap a oe C (some od) := ⟨ha, hz.1, by unfold PySem.W.notCls; rw [hd] <;> rfl, by rw [hz.2]; exact ho⟩
  exact HandSPX.exc_get I1.kIn J T.ga T.gg T.exC (PySem.W.findObj_own T.hdC hno rfl (by rw [hl, hu])) (handed_of ru) ⟨v, H1, I1.tok _, ru, q⟩
/-- what the clauses 'except x as n' wish of an exception of the body, one after the other; slot i is n's -/
def wManyAs (K : PySem.W.Frag) (i : Nat) (Wout : WX) (D : Ends) : List (Value × (Addr → Value → Option Addr → TS)) → WX
  | [] => Wout
  | (c, ts) :: r => fun cls d σ H => ∃ b, PySem.W.exmOne K cls c = some b ∧ (b = true → ∀ a, H a = none → ts a cls d { nx := fun σ' H' => D.nx (σ'.set i none) H', rt := D.rt, bk := fun σ' H' => D.bk (σ'.set i none) H', ct := fun σ' H' => D.ct (σ'.set i none) H' } (σ.set i (some (.ref a))) H) ∧
    (b = false → wManyAs K i Wout D r cls d σ H)
inductive HdsAs (X : Cx) (n : Str) : List ExceptHandler → List (Value × (Addr → Value → Option Addr → TS)) → Prop
  | nil : HdsAs X n [] []
  | cons {x : Str} {c : Value} {ts : Addr → Value → Option Addr → TS} {b₀ : Stmt} {suite : List Stmt} {np pos' : Pos} {hds : List ExceptHandler} {l : List (Value × (Addr → Value → Option Addr → TS))} (hc : Names X x c)
      (hsu : ∀ (a : Addr) (oe : Obj) (cls : Value) (d : Option Addr) (pn : List (Addr × Obj)), Zc cls d oe → (∃ vs, oe.data = .fields vs) → PSs (X.suite a ((a, oe) :: pn)) (b₀ :: suite) (ts a cls d)) (r : HdsAs X n hds l) :
      HdsAs X n (.ExceptHandler (some (.Name x np)) (some n) (b₀ :: suite) pos' :: hds) ((c, ts) :: l)
section
variable {X : Cx} {n : Str} {i : Nat} {body : List Stmt} {h₀ : ExceptHandler} {hds : List ExceptHandler} {l : List (Value × (Addr → Value → Option Addr → TS))} {pos : Pos} {tb : WX → TS} {Wout : WX}
theorem ps_try_manyAs (hs : X.stack = X.env :: X.outer) (hf : X.env.frame = some X.env.locals) (hN : X.N.Nodup) (hi : X.N[i]? = some n) (hln : X.env.kindOf n = some .local) (tk : Takes X Wout)
    (hb : ∀ (W : WX) (pn : List (Addr × Obj)) (xe : Value → Shared → Prop), Takes (X.tr pn xe) W → PassesOwn (model X.prog X.w) X.A X.env xe → PSs (X.tr pn xe) body (tb W))
    (hh : HdsAs X n (h₀ :: hds) l) : PS X (.Try body (h₀ :: hds) [] [] pos) (fun D σ H => tb (wManyAs X.K i Wout D l) D σ H) := by
  refine ⟨fun pins s σ H D I h => ?_⟩
  have ok := I.ok
  have hfr : X.A.frames = some (X.env :: X.outer) := by rw [ok.frames, hs]
  have hloc : Loc X.env.scope n := .inl hln
  refine wpAny_Try_except ?_
  refine wpAny_mono ((hb (wManyAs X.K i Wout D l) (X.pn ++ pins) (fun e s₁ => wpAny (model X.prog X.w) X.A (noteFrame e X.env) (fun _ s₂ => wpAny (model X.prog X.w) X.A (setFlight e none) (fun _ s₃ =>
    wpAny (model X.prog X.w) X.A (handleBy e X.env (h₀ :: hds)) (SP X pins D) X.xe s₃) X.xe s₂) X.xe s₁) (fun u s' xx => ?_) PassesOwn.looking).run [] s σ H D (I.toTry _) h) (fun f s1 hsp => ?_) (fun e s1 he => he)
  · -- the catch
    obtain ⟨a, B, sI, pins', σ', H', cls, d, rfl, J', nb, up, sky, na, os, ag, w⟩ := xx
    have J : Inv X pins σ' H' sI := J'.ofTry ok
    have sky' : Sky B (X.env :: X.outer) a (Zc cls d) X.env.locals s'.heap := by rw [← hs]; exact sky
    show wpAny (model X.prog X.w) X.A (noteFrame (.ref a) X.env) _ _ _
    refine Sky.land Zc.steady hfr hf sky' fun h3 fl3 up3 => ?_
    have J3 : Inv X pins σ' H' { s' with heap := h3 } := J.landed nb fl3.1 (up.trans up3) os ag
    obtain ⟨oe3, vs3, he3, hz3, hd3⟩ := fl3.there
    have notFr : ∀ {h : Heap} {o : Obj} {vs : Array Value}, h.FunFrames B (X.env :: X.outer) → h.get? a = some o → o.data = .fields vs → a ∉ frs (X.env :: X.outer) := fun {h o vs} ff e dd hm => by
      obtain ⟨_, o', e', hnf⟩ := ff.mem hm
      rw [e] at e'; cases e'
      exact hnf _ dd
    have nfr := notFr fl3.2.2.1 he3 hd3
    have nL : a ≠ X.env.locals := fun z => nfr (List.mem_filterMap.mpr ⟨X.env, List.mem_cons_self, by rw [hf, z]⟩)
    have nF : a ∉ X.fs := fun hm => by
      obtain ⟨e, he, q⟩ := List.mem_filterMap.mp hm
      exact nfr (List.mem_filterMap.mpr ⟨e, List.mem_cons_of_mem _ he, q⟩)
    have S3 := J3.suite he3 hd3 na nL nF
    have go : ∀ {hds' : List ExceptHandler} {l' : List (Value × (Addr → Value → Option Addr → TS))}, HdsAs X n hds' l' → wManyAs X.K i Wout D l' cls d σ' H' →
        wpAny (model X.prog X.w) X.A (handleBy (.ref a) X.env hds') (SP X pins D) X.xe { s' with heap := h3 } := by
      intro hds' l' hk
      induction hk with
      | nil =>
        intro w
        refine wpAny_handleBy_nil ?_
        obtain ⟨k1, k2, k3, oe, vs, T, oT, ts', he, hz, hd, h1, hr⟩ := id fl3
        unfold PySem.passOn
        refine wpAny_bind (wpAny_field he hd h1 ?_)
        rw [if_neg (show ¬ ((Value.ref T == Value.none) = true) from by simp)]
        have fin : wpAny (model X.prog X.w) X.A (setFlight (.ref a) X.env.frame) (fun _ s4 => wpAny (model X.prog X.w) X.A (throw (.ref a) : Sem Flow) (SP X pins D) X.xe s4) X.xe { s' with heap := h3 } := by
          rw [hf]
          refine HandSPX.setFlight_upZ fl3 fun h4 hh4 up4 => wpAny_throw (tk _ _ ?_)
          exact ⟨a, B, sI, pins, σ', H', cls, d, rfl, J, nb, (up.trans up3).trans up4, .inr (.inr (by rw [hs]; exact hh4)), na, os, ag, w⟩
        first
          | exact wpAny_bind (wpAny_pure (wpAny_bind fin))
          | exact wpAny_bind fin
      | @cons x c ts b₀ suite np pos' hds2 l2 hc hsu r ih =>
        intro w
        obtain ⟨b, hb1, hyes, hno⟩ := w
        refine wpAny_handleBy_cons (codeAny_handlers_test ?_) (by intro q; cases q)
        have LT : PySem.W.Looks (model X.prog X.w) h3 (typeOf (.ref a)) cls := fun A Q E s k q => wpAny_typeOf_ref (k _ _ he3) (by rw [hz3.1]; exact q)
        have LM := PySem.W.exm_one (M := model X.prog X.w) (J3.kIn) LT hb1
        have test : ∀ {Q : Value → Shared → Prop} {E : Value → Shared → Prop}, Q c { s' with heap := h3 } → wpAny (model X.prog X.w) (X.A.mark (some (.ref a))) (eval (.Name x np) X.env) Q E { s' with heap := h3 } := fun {Q E} q => by
          obtain ⟨hg, hdbg, hm | ⟨hm, hv, hnn⟩⟩ := hc
          · exact ld_glob (X := X.suite a ((a, oe3) :: (X.pn ++ pins))) S3 hg hm q hdbg
          · exact ld_blt (X := X.suite a ((a, oe3) :: (X.pn ++ pins))) S3 hg hm hv q hnn hdbg
        refine test (LM.here ?_)
        cases b with
        | true =>
          refine codeAny_handlers_suite_as ?_
          refine HandSPX.lands_againZ fl3 fun h4 fl4 up4 => ?_
          have J4 : Inv X pins σ' H' { s' with heap := h4 } := J.landed nb fl4.1 ((up.trans up3).trans up4) os ag
          obtain ⟨oe4, vs4, he4, hz4, hd4⟩ := fl4.there
          have S4 := J4.suite he4 hd4 na nL nF
          refine store_ok (X := X.suite a ((a, oe4) :: (X.pn ++ pins))) (v := .ref a) S4 hN hi hloc rfl (fun s5 S5 => ?_) (.inr hln)
          refine wpAny_mono ((hsu a oe4 cls d (X.pn ++ pins) hz4 ⟨_, hd4⟩).run [] s5 _ H' _ S5 (hyes rfl a na)) (fun f s6 hsp => ?_) (fun _ _ z => False.elim z)
          have end_ : ∀ {σ6 : L2.St} {H6 : Hp} {Q : Shared → Prop}, Inv (X.suite a ((a, oe4) :: (X.pn ++ pins))) [] σ6 H6 s6 → (∀ s7, Inv X pins (σ6.set i none) H6 s7 → Q s7) →
              wpAny (model X.prog X.w) X.A (do bindName X.env n .none; unbindBehindTheSuite X.env n pos') (fun _ s7 => Q s7) X.xe s6 := fun {σ6 H6 Q} S6 hq => gone_ok (S6.unsuite ok) hN hi hln hq
          cases f with
          | next =>
            obtain ⟨σ6, H6, S6, q6⟩ := hsp
            exact end_ S6 fun s7 J7 => ⟨_, _, J7, q6⟩
          | brk =>
            obtain ⟨σ6, H6, S6, q6⟩ := hsp
            exact end_ S6 fun s7 J7 => ⟨_, _, J7, q6⟩
          | cont =>
            obtain ⟨σ6, H6, S6, q6⟩ := hsp
            exact end_ S6 fun s7 J7 => ⟨_, _, J7, q6⟩
          | ret u =>
            obtain ⟨v6, σ6, H6, S6, r6, q6⟩ := hsp
            exact end_ S6 fun s7 J7 => ⟨_, _, _, J7, r6, q6⟩
        | false =>
          show wpAny _ X.A (handleBy (.ref a) X.env hds2) _ _ _
          exact ih (hno rfl)
    exact go hh w
  · cases f with
    | next =>
      obtain ⟨σ', H', J', q⟩ := hsp
      exact wpAny_execs_nil ⟨σ', H', J'.ofTry ok, q⟩
    | brk =>
      obtain ⟨σ', H', J', q⟩ := hsp
      exact ⟨σ', H', J'.ofTry ok, q⟩
    | cont =>
      obtain ⟨σ', H', J', q⟩ := hsp
      exact ⟨σ', H', J'.ofTry ok, q⟩
    | ret u =>
      obtain ⟨v, σ', H', J', r, q⟩ := hsp
      exact ⟨v, σ', H', J'.ofTry ok, r, q⟩
end
end My

namespace My
open PySem PySem.Spec PyProof.Rows L2
/-! ### own errors as they stand behind the top: what is asked of the written part -/
abbrev ErW : Type := Option (Str × Str × Arguments × FuncBody × Scope × Addr × Addr)
def erI (K : PySem.W.Frag) (x : Str) : Addr := match PySem.W.findIn K (.ref (He.ga K x)) "__init__" with
  | some (some (.ref a)) => a
  | _ => 0
def erW (K : PySem.W.Frag) (x : Str) : ErW := match K.lookup (erI K x) with
  | some ⟨_, _, .func fd, _⟩ => some (fd.name, fd.qualname, fd.params, fd.body, fd.scope, fd.globals, fd.builtins)
  | _ => none
/-- an own error class over ValueError -/
def oexB (K : PySem.W.Frag) (C : Addr) : Bool := match K.lookup C with
  | some ⟨.type "type", _, .cls cd, sl⟩ => (match cd.mro, sl.toList with
    | .ref C' :: bm, [_, _, _, _, some (.builtin n), _] => C' == C && (n == ("ValueError.__new__" : String) && (!cd.hasDel && (cd.hasDict && PySem.HandSPX.refsVE bm)))
    | _, _ => false)
  | _ => false
theorem oexB_ok {K : PySem.W.Frag} {C : Addr} (q : oexB K C = true) : ∃ nm qn N bs bm sn sub ab col dd k0 k1 k2 k3 k5, K.lookup C = some (excClassObj nm qn C N bs bm true sn sub ab col dd k0 k1 k2 k3 k5 "ValueError.__new__") ∧ PySem.HandSPX.refsVE bm = true := by
  unfold oexB at q
  split at q
  · rename_i dd cd sl ho
    split at q
    · rename_i C' bm k0 k1 k2 k3 n k5 hm hs
      simp only [Bool.and_eq_true, beq_iff_eq, Bool.not_eq_true'] at q
      obtain ⟨rfl, rfl, hdel, hdict, ht⟩ := q
      obtain ⟨nm, bs, mro, ns, qn, hd, sn, sub, ab, col, del⟩ := cd
      dsimp only at hm hdel hdict
      subst hm hdel hdict
      have hsl : sl = #[k0, k1, k2, k3, some (.builtin "ValueError.__new__"), k5] := by
        obtain ⟨l⟩ := sl
        simp only at hs
        rw [hs]
      subst hsl
      exact ⟨nm, qn, ns, bs, bm, sn, sub, ab, col, dd, k0, k1, k2, k3, k5, ho, ht⟩
    · cases q
  · cases q
/-- its __init__: one cell, of the class; code of the file; one default, None -/
def iniB (K : PySem.W.Frag) (file x : Str) : Bool := match K.lookup (erI K x) with
  | some ⟨_, _, .func fd, _⟩ => (match fd.closure with
    | [(n, cc)] => decide (n = ("__class__" : Str)) && ((match K.lookup cc with
      | some ⟨_, _, .cell (some (.ref C')), _⟩ => C' == He.ga K x
      | _ => false) && ((match fd.code with
        | .ref c => (match K.lookup c with
          | some ⟨_, _, .fields vs, _⟩ => (match (vs[2]? : Option Value) with
            | some (Value.str f _) => decide (f = file)
            | _ => false)
          | _ => false)
        | _ => false) && (PySem.W.codeIn K fd.code (x ++ (".__init__" : Str)) && (He.dflB K fd.defaults [.non] && He.kwdB K fd.kwdefaults []))))
    | _ => false)
  | _ => false
def errB (K : PySem.W.Frag) (file x : Str) : Bool :=
  oexB K (He.ga K x) && (iniB K file x && (xfB K (He.ga K x) && (decide (PySem.W.findIn K (.ref (He.ga K x)) "__setattr__" = some (some (.builtin "object.__setattr__"))) && (decide (PySem.W.subIn K (.ref (He.ga K x)) (.type "BaseException") = some true) && (decide (PySem.W.typeIn K (.ref (He.ga K x)) = some (.type "type")) && (PySem.W.keepIn K (.ref (He.ga K x)) &&
  (decide (PySem.W.ks_superIn K (He.ga K x) (He.ga K x) "__init__" = some (some (.builtin "ValueError.__init__"))) && (decide (PySem.W.subIn K (.ref (He.ga K x)) (.type "ValueError") = some true) && (decide (PySem.W.mroIn K (He.ga K x) (.ref (He.ga K x)) = some true) && (decide (PySem.W.nsIn K cStatics "thirdparty.any" = some none) && (decide (PySem.W.findIn K (.ref (He.ga K x)) "value" = some none) &&
  (decide (PySem.W.findIn K (.ref (He.ga K x)) "__init__" = some (some (.ref (erI K x)))) && decide (PySem.W.typeIn K (.ref (erI K x)) = some (.type "function"))))))))))))))
structure ErrC (K : PySem.W.Frag) (file x : Str) (st : Stmt) (C fI : Addr) (fd : FuncData) : Prop where
  sup : Sup.SupC K file x st C fI fd
  ini : PySem.W.findIn K (.ref C) "__init__" = some (some (.ref fI))
  ity : PySem.W.typeIn K (.ref fI) = some (.type "function")
  bnd : Binds K fd ["self", "value"] []
  xf : XfC K C
theorem err_ok {K : PySem.W.Frag} {file x : Str} {st : Stmt} (h : errB K file x = true) (e : erW K x = some (("__init__" : Str), x ++ (".__init__" : Str), defArgs st, FuncBody.stmts (defBody st), defScope st, mainGlobals, builtinsNs))
    (hb : ∀ (T cc : Addr) (kV doc pm : Value) (an : Option Addr) (cdv ct : Value) (us its : List Value), us.length = 2 → its.length = 1 →
      ∃ k, bindArgs (PySem.W.ksFn "__init__" (x ++ (".__init__" : Str)) (defArgs st) (defBody st) (defScope st) (.ref T) kV doc pm an cdv ct cc) ⟨us, []⟩ = seqItems? (.ref T) >>= k ∧ k (some its.toArray) = pure ((["self", "value"] : List Str).zip us)) :
    ∃ fd, ErrC K file x st (He.ga K x) (erI K x) fd := by
  unfold errB at h
  obtain ⟨h1, h⟩ := He.ba h
  obtain ⟨h2, h⟩ := He.ba h
  obtain ⟨h3, h⟩ := He.ba h
  obtain ⟨h4, h⟩ := He.ba h
  obtain ⟨h5, h⟩ := He.ba h
  obtain ⟨h6, h⟩ := He.ba h
  obtain ⟨h7, h⟩ := He.ba h
  obtain ⟨h8, h⟩ := He.ba h
  obtain ⟨h9, h⟩ := He.ba h
  obtain ⟨h10, h⟩ := He.ba h
  obtain ⟨h11, h⟩ := He.ba h
  obtain ⟨h12, h⟩ := He.ba h
  obtain ⟨h13, h14⟩ := He.ba h
  unfold iniB at h2
  unfold erW at e
  cases q : K.lookup (erI K x) with
  | none => rw [q] at e; cases e
  | some o =>
    obtain ⟨oc, od, dt, osl⟩ := o
    rw [q] at e h2
    cases dt with
    | func fd =>
      obtain ⟨n1, n2, n3, n4, n5, n6, n7, n8, n9, n10, n11, n12, n13, n14, n15⟩ := fd
      have e2 : (some (n1, n2, n3, n4, n5, n6, n15) : ErW) = some (("__init__" : Str), x ++ (".__init__" : Str), defArgs st, FuncBody.stmts (defBody st), defScope st, mainGlobals, builtinsNs) := e
      simp only [Option.some.injEq, Prod.mk.injEq] at e2
      obtain ⟨r1, r2, r3, r4, r5, r6, r7⟩ := e2
      subst r1 r2 r3 r4 r5 r6 r7
      dsimp only at h2
      split at h2
      · rename_i n cc
        obtain ⟨k1, h2⟩ := He.ba h2
        obtain ⟨k2, h2⟩ := He.ba h2
        obtain ⟨k3, h2⟩ := He.ba h2
        obtain ⟨k4, h2⟩ := He.ba h2
        obtain ⟨k5, k6⟩ := He.ba h2
        obtain rfl := of_decide_eq_true k1
        split at k2
        · rename_i cl cld C' csl lcc
          obtain rfl := beq_iff_eq.mp k2
          split at k3
          · rename_i c0
            split at k3
            · rename_i ccl cdd vs ccs lc
              split at k3
              · rename_i f tf hvs
                obtain rfl := of_decide_eq_true k3
                have D := He.dflB_ok k5
                refine ⟨_, ⟨⟨⟨oexB_ok h1, of_decide_eq_true h4, of_decide_eq_true h5, of_decide_eq_true h6, h7⟩, ⟨oc, od, n8, n9, n10, n11, n12, _, cc, n14, osl, rfl, q, k4, ⟨ccl, cdd, vs, ccs, tf, lc, hvs⟩, cl, cld, csl, lcc⟩,
                  of_decide_eq_true h8, of_decide_eq_true h9, of_decide_eq_true h10, of_decide_eq_true h11, of_decide_eq_true h12⟩, of_decide_eq_true h13, of_decide_eq_true h14, ?_, xfB_ok h3⟩⟩
                rcases D with ⟨z, _⟩ | ⟨_, T, o, its, m, rfl, lT, oT, rT⟩
                · cases z
                · intro s us X hlen
                  rw [List.append_nil] at hlen ⊢
                  obtain ⟨k, e1, e2⟩ := hb T cc n9 n10 n11 n12 _ n14 us its hlen rT.length.symm
                  refine BindsTo.of_looks fun M => ?_
                  refine Eq.mpr (congrArg (fun z => PySem.W.Looks M s.heap z _) e1) ?_
                  exact looks_items X lT oT (.of_pure e2)
              · cases k3
            · cases k3
          · cases k3
        · cases k2
      · cases h2
    | _ => cases e
end My

namespace My
open PySem PySem.Spec PyProof.Rows L2
/-! ### an error kept behind its clause: asked by isinstance, its value read -/
/-- a caught error: its class, its dict -/
def ExK (cls : Value) (d : Option Addr) (a : Addr) : HO := .ext fun h => ∃ (oe : Obj) (vs : Array Value), h.get? a = some oe ∧ Zc cls d oe ∧ oe.data = .fields vs
section
variable {X : Cx} {pins : List (Addr × Obj)} {σ : L2.St} {H : Hp} {s : Shared} {a : Addr}
/-- what is not there in a state is none of what the state speaks of -/
theorem _root_.L2.Inv.newIn (I : Inv X pins σ H s) (hx : X.ex = []) (na : s.heap.get? a = none) : X.s_0.heap.get? a = none ∧ a ≠ X.env.locals ∧ (∀ x c, X.env.cells.lookup x = some c → a ≠ c) ∧ ∀ p ∈ X.pn ++ pins, a ≠ p.1 := by
  refine ⟨?_, ?_, ?_, ?_⟩
  · cases e : X.s_0.heap.get? a with
    | none => rfl
    | some o =>
      obtain ⟨o', e'⟩ := I.base.there a o e (by rw [hx]; exact fun z => nomatch z)
      rw [na] at e'
      cases e'
  · obtain ⟨m, ⟨o, es, ep, ho, _⟩, _⟩ := I.loc
    exact fun e => by rw [← e, na] at ho; cases ho
  · intro x c e z
    obtain ⟨v, o, ho, _⟩ := I.cell x c e
    rw [← z, na] at ho
    cases ho
  · intro p hp z
    have ho := (I.pin p hp).1
    rw [← z, na] at ho
    cases ho
/-- an object that is there is from now on told of -/
theorem _root_.L2.Inv.track {cls : Value} {d : Option Addr} {oe : Obj} {vs : Array Value} (I : Inv X pins σ H s) (ha : s.heap.get? a = some oe) (z : Zc cls d oe) (hd : oe.data = .fields vs) (na : H a = none) (n0 : X.s_0.heap.get? a = none) (nL : a ≠ X.env.locals)
    (nC : ∀ x c, X.env.cells.lookup x = some c → a ≠ c) (nP : ∀ p ∈ X.pn ++ pins, a ≠ p.1) : Inv X pins σ (upd H a (ExK cls d a)) s := by
  have ne : ∀ {b : Addr} {o : HO}, H b = some o → b ≠ a := fun {b o} e q => by rw [q, na] at e; cases e
  refine ⟨I.ok, I.os, I.bare, ⟨I.base.keep, I.base.slot, fun b o e n hx => ?_, I.base.there, fun b xs e => ?_, fun b o u e => ?_, fun b ps e => ?_⟩, I.loc, I.cell, ?_, fun x c e => ?_, fun p hp => ?_, fun b u e => ?_, I.len⟩
  · rw [upd_ne fun q => by rw [q, n0] at e; cases e]
    exact I.base.free b o e n hx
  · have q := I.base.tups b xs e
    rw [upd_ne (ne q)]
    exact q
  · have q := I.base.frzs b o u e
    rw [upd_ne (ne q)]
    exact q
  · obtain ⟨m, q⟩ := I.base.tbls b ps e
    exact ⟨m, by rw [upd_ne (ne q)]; exact q⟩
  · rw [upd_ne fun q => nL q.symm]
    exact I.free
  · rw [upd_ne fun q => nC x c e q.symm]
    exact I.freeC x c e
  · obtain ⟨e, n, r⟩ := I.pin p hp
    exact ⟨e, by rw [upd_ne fun q => nP p hp q.symm]; exact n, r⟩
  · by_cases hb : b = a
    · subst hb
      rw [upd_same] at e
      cases e
      exact ⟨⟨oe, vs, ha, z, hd⟩, ⟨oe, ha⟩, fun _ _ ⟨o, v, q, r⟩ k => ⟨o, v, k o q, r⟩⟩
    · rw [upd_ne hb] at e
      exact (I.hok b u e).stay (fun c v _ q => q) (fun c q => by rw [upd_ne (ne q)]; exact q) fun c xs q => by rw [upd_ne (ne q)]; exact q
end
/-- as wManyAs, the error told of behind the clause -/
def wKeepAs (K : PySem.W.Frag) (i : Nat) (Wout : WX) (D : Ends) : List (Value × (Addr → Value → Option Addr → TS)) → WX
  | [] => Wout
  | (c, ts) :: r => fun cls d σ H => ∃ b, PySem.W.exmOne K cls c = some b ∧ (b = true → ∀ a, H a = none → ts a cls d { nx := fun σ' H' => D.nx (σ'.set i none) (upd H' a (ExK cls d a)), rt := D.rt, bk := fun σ' H' => D.bk (σ'.set i none) H', ct := fun σ' H' => D.ct (σ'.set i none) H' } (σ.set i (some (.ref a))) H) ∧
    (b = false → wKeepAs K i Wout D r cls d σ H)
section
variable {X : Cx} {n : Str} {i : Nat} {body : List Stmt} {h₀ : ExceptHandler} {hds : List ExceptHandler} {l : List (Value × (Addr → Value → Option Addr → TS))} {pos : Pos} {tb : WX → TS} {Wout : WX}
theorem ps_try_keep (hx0 : X.ex = []) (hs : X.stack = X.env :: X.outer) (hf : X.env.frame = some X.env.locals) (hN : X.N.Nodup) (hi : X.N[i]? = some n) (hln : X.env.kindOf n = some .local) (tk : Takes X Wout)
    (hb : ∀ (W : WX) (pn : List (Addr × Obj)) (xe : Value → Shared → Prop), Takes (X.tr pn xe) W → PassesOwn (model X.prog X.w) X.A X.env xe → PSs (X.tr pn xe) body (tb W))
    (hh : HdsAs X n (h₀ :: hds) l) : PS X (.Try body (h₀ :: hds) [] [] pos) (fun D σ H => tb (wKeepAs X.K i Wout D l) D σ H) := by
  refine ⟨fun pins s σ H D I h => ?_⟩
  have ok := I.ok
  have hfr : X.A.frames = some (X.env :: X.outer) := by rw [ok.frames, hs]
  have hloc : Loc X.env.scope n := .inl hln
  refine wpAny_Try_except ?_
  refine wpAny_mono ((hb (wKeepAs X.K i Wout D l) (X.pn ++ pins) (fun e s₁ => wpAny (model X.prog X.w) X.A (noteFrame e X.env) (fun _ s₂ => wpAny (model X.prog X.w) X.A (setFlight e none) (fun _ s₃ =>
    wpAny (model X.prog X.w) X.A (handleBy e X.env (h₀ :: hds)) (SP X pins D) X.xe s₃) X.xe s₂) X.xe s₁) (fun u s' xx => ?_) PassesOwn.looking).run [] s σ H D (I.toTry _) h) (fun f s1 hsp => ?_) (fun e s1 he => he)
  · -- the catch
    obtain ⟨a, B, sI, pins', σ', H', cls, d, rfl, J', nb, up, sky, na, os, ag, w⟩ := xx
    have J : Inv X pins σ' H' sI := J'.ofTry ok
    have sky' : Sky B (X.env :: X.outer) a (Zc cls d) X.env.locals s'.heap := by rw [← hs]; exact sky
    show wpAny (model X.prog X.w) X.A (noteFrame (.ref a) X.env) _ _ _
    refine Sky.land Zc.steady hfr hf sky' fun h3 fl3 up3 => ?_
    have J3 : Inv X pins σ' H' { s' with heap := h3 } := J.landed nb fl3.1 (up.trans up3) os ag
    obtain ⟨oe3, vs3, he3, hz3, hd3⟩ := fl3.there
    have notFr : ∀ {h : Heap} {o : Obj} {vs : Array Value}, h.FunFrames B (X.env :: X.outer) → h.get? a = some o → o.data = .fields vs → a ∉ frs (X.env :: X.outer) := fun {h o vs} ff e dd hm => by
      obtain ⟨_, o', e', hnf⟩ := ff.mem hm
      rw [e] at e'; cases e'
      exact hnf _ dd
    have nfr := notFr fl3.2.2.1 he3 hd3
    have nL : a ≠ X.env.locals := fun z => nfr (List.mem_filterMap.mpr ⟨X.env, List.mem_cons_self, by rw [hf, z]⟩)
    have nF : a ∉ X.fs := fun hm => by
      obtain ⟨e, he, q⟩ := List.mem_filterMap.mp hm
      exact nfr (List.mem_filterMap.mpr ⟨e, List.mem_cons_of_mem _ he, q⟩)
    have S3 := J3.suite he3 hd3 na nL nF
    have new := Inv.newIn J hx0 (a := a) (by
      cases e : sI.heap.get? a with
      | none => rfl
      | some o =>
        have := nb a o e (by rw [hs]; exact nfr)
        rw [fl3.2.1] at this
        cases this)
    have go : ∀ {hds' : List ExceptHandler} {l' : List (Value × (Addr → Value → Option Addr → TS))}, HdsAs X n hds' l' → wKeepAs X.K i Wout D l' cls d σ' H' →
        wpAny (model X.prog X.w) X.A (handleBy (.ref a) X.env hds') (SP X pins D) X.xe { s' with heap := h3 } := by
      intro hds' l' hk
      induction hk with
      | nil =>
        intro w
        refine wpAny_handleBy_nil ?_
        obtain ⟨k1, k2, k3, oe, vs, T, oT, ts', he, hz, hd, h1, hr⟩ := id fl3
        unfold PySem.passOn
        refine wpAny_bind (wpAny_field he hd h1 ?_)
        rw [if_neg (show ¬ ((Value.ref T == Value.none) = true) from by simp)]
        have fin : wpAny (model X.prog X.w) X.A (setFlight (.ref a) X.env.frame) (fun _ s4 => wpAny (model X.prog X.w) X.A (throw (.ref a) : Sem Flow) (SP X pins D) X.xe s4) X.xe { s' with heap := h3 } := by
          rw [hf]
          refine HandSPX.setFlight_upZ fl3 fun h4 hh4 up4 => wpAny_throw (tk _ _ ?_)
          exact ⟨a, B, sI, pins, σ', H', cls, d, rfl, J, nb, (up.trans up3).trans up4, .inr (.inr (by rw [hs]; exact hh4)), na, os, ag, w⟩
        first
          | exact wpAny_bind (wpAny_pure (wpAny_bind fin))
          | exact wpAny_bind fin
      | @cons x c ts b₀ suite np pos' hds2 l2 hc hsu r ih =>
        intro w
        obtain ⟨b, hb1, hyes, hno⟩ := w
        refine wpAny_handleBy_cons (codeAny_handlers_test ?_) (by intro q; cases q)
        have LT : PySem.W.Looks (model X.prog X.w) h3 (typeOf (.ref a)) cls := fun A Q E s k q => wpAny_typeOf_ref (k _ _ he3) (by rw [hz3.1]; exact q)
        have LM := PySem.W.exm_one (M := model X.prog X.w) (J3.kIn) LT hb1
        have test : ∀ {Q : Value → Shared → Prop} {E : Value → Shared → Prop}, Q c { s' with heap := h3 } → wpAny (model X.prog X.w) (X.A.mark (some (.ref a))) (eval (.Name x np) X.env) Q E { s' with heap := h3 } := fun {Q E} q => by
          obtain ⟨hg, hdbg, hm | ⟨hm, hv, hnn⟩⟩ := hc
          · exact ld_glob (X := X.suite a ((a, oe3) :: (X.pn ++ pins))) S3 hg hm q hdbg
          · exact ld_blt (X := X.suite a ((a, oe3) :: (X.pn ++ pins))) S3 hg hm hv q hnn hdbg
        refine test (LM.here ?_)
        cases b with
        | true =>
          refine codeAny_handlers_suite_as ?_
          refine HandSPX.lands_againZ fl3 fun h4 fl4 up4 => ?_
          have J4 : Inv X pins σ' H' { s' with heap := h4 } := J.landed nb fl4.1 ((up.trans up3).trans up4) os ag
          obtain ⟨oe4, vs4, he4, hz4, hd4⟩ := fl4.there
          have S4 := J4.suite he4 hd4 na nL nF
          refine store_ok (X := X.suite a ((a, oe4) :: (X.pn ++ pins))) (v := .ref a) S4 hN hi hloc rfl (fun s5 S5 => ?_) (.inr hln)
          refine wpAny_mono ((hsu a oe4 cls d (X.pn ++ pins) hz4 ⟨_, hd4⟩).run [] s5 _ H' _ S5 (hyes rfl a na)) (fun f s6 hsp => ?_) (fun _ _ z => False.elim z)
          have end_ : ∀ {σ6 : L2.St} {H6 : Hp} {Q : Shared → Prop}, Inv (X.suite a ((a, oe4) :: (X.pn ++ pins))) [] σ6 H6 s6 → (∀ s7, Inv X pins (σ6.set i none) H6 s7 → Q s7) →
              wpAny (model X.prog X.w) X.A (do bindName X.env n .none; unbindBehindTheSuite X.env n pos') (fun _ s7 => Q s7) X.xe s6 := fun {σ6 H6 Q} S6 hq => gone_ok (S6.unsuite ok) hN hi hln hq
          cases f with
          | next =>
            obtain ⟨σ6, H6, S6, q6⟩ := hsp
            obtain ⟨ha6, na6, _, _, _⟩ := S6.pin (a, oe4) (List.mem_append.mpr (.inl List.mem_cons_self))
            exact gone_ok (Inv.track (S6.unsuite ok) ha6 hz4 hd4 na6 new.1 new.2.1 new.2.2.1 new.2.2.2) hN hi hln fun s7 J7 => ⟨_, _, J7, q6⟩
          | brk =>
            obtain ⟨σ6, H6, S6, q6⟩ := hsp
            exact end_ S6 fun s7 J7 => ⟨_, _, J7, q6⟩
          | cont =>
            obtain ⟨σ6, H6, S6, q6⟩ := hsp
            exact end_ S6 fun s7 J7 => ⟨_, _, J7, q6⟩
          | ret u =>
            obtain ⟨v6, σ6, H6, S6, r6, q6⟩ := hsp
            exact end_ S6 fun s7 J7 => ⟨_, _, _, J7, r6, q6⟩
        | false =>
          show wpAny _ X.A (handleBy (.ref a) X.env hds2) _ _ _
          exact ih (hno rfl)
    exact go hh w
  · cases f with
    | next =>
      obtain ⟨σ', H', J', q⟩ := hsp
      exact wpAny_execs_nil ⟨σ', H', J'.ofTry ok, q⟩
    | brk =>
      obtain ⟨σ', H', J', q⟩ := hsp
      exact ⟨σ', H', J'.ofTry ok, q⟩
    | cont =>
      obtain ⟨σ', H', J', q⟩ := hsp
      exact ⟨σ', H', J'.ofTry ok, q⟩
    | ret u =>
      obtain ⟨v, σ', H', J', r, q⟩ := hsp
      exact ⟨v, σ', H', J'.ofTry ok, r, q⟩
end
/-! ### isinstance of it, its value -/
/-- what isinstance asks of the class of an error -/
structure ExcI (K : PySem.W.Frag) (D : Addr) : Prop where
  xf : XfC K D
  ha : PySem.W.findIn K (.ref D) "__class__" = some (some (.builtin "object.__class__"))
  hn : PySem.W.specialIn K (.builtin "object.__class__") "__get__" = some (some (.builtin "getset_descriptor.__get__"))
  ht : PySem.W.takesIn K (.builtin "object.__class__") = some true
  hm : PySem.W.mroIn K D (.type "object") = some true
/-- its class by name, the error with a dict of its own -/
theorem cls_named {prog : Program} {w : World} {A : Around} {F : Value → Shared → Prop} {st : Shared} {K : PySem.W.Frag} {a C : Addr} {oe od : Obj} {G : Option Value → Shared → Prop} (c : ExcI K C) (hK : K.In st.heap) (J : PySem.W.InstAt st.heap a oe C (some od))
    (g : G (some (.ref C)) { st with toks := st.toks + 1 }) : wpAny (model prog w) A (getAttr? (.ref a) "__class__") G F st := by
  have found : PySem.W.findObj K C (some od) "__class__" = some (.bind (.builtin "getset_descriptor.__get__") (.builtin "object.__class__")) := by
    refine PySem.W.findObj_data ?_ c.ha c.hn c.ht
    obtain ⟨kd, hk, _⟩ := PySem.W.any_some c.xf.hdC
    rw [hk]
    rfl
  obtain ⟨hh, gs, dr, tk, o5⟩ := st
  have isC := J.type (M := model prog w)
  have isGa := PySem.W.looks_findIn (M := model prog w) hK c.xf.ga
  have isGg := PySem.W.looks_findIn (M := model prog w) hK c.xf.gg
  have isIt := PySem.W.looks_find (M := model prog w) hK J found
  have isSub : PySem.W.Looks (model prog w) hh (isInstance (.ref a) (.type "BaseException")) true := isC.andThen (PySem.W.looks_subIn hK c.xf.exC)
  have n1 : (Value.builtin "BaseException.__getattribute__" == Value.builtin "object.__getattribute__") = false := by decide +kernel
  have n2 : (onTheHeap (Value.ref C) && Value.builtin "BaseException.__getattribute__" == Value.builtin "object.__getattribute__") = false := by rw [n1]; exact Bool.and_false _
  have n3 : (false && onTheHeap (Value.builtin "BaseException.__getattribute__")) = false := Bool.false_and _
  unfold getAttr? getAttrBy? getAttrBy
  refine wpAny_bind (wpAny_mkText (wpAny_bind (wpAny_attempt (wpAny_holding (wpAny_bind (isC.at (wpAny_bind (isGa.at ?_))))))))
  change wpAny _ _ (if (onTheHeap (Value.ref C) && Value.builtin "BaseException.__getattribute__" == Value.builtin "object.__getattribute__") = true then _ else _) _ _ _
  rw [n2]
  rw [if_neg Bool.false_ne_true]
  unfold getAttrByItsOwn hookBefore
  refine wpAny_bind ?_
  have n4 : onTheHeap (Value.ref C) = true := by rfl
  rw [if_pos n4]
  refine isGg.at (wpAny_bind (wpAny_attempt (wpAny_holding ?_)))
  unfold callGetattribute
  rw [n3]
  rw [if_neg Bool.false_ne_true]
  unfold boundAndCalled
  rw [PySem.F.excAttr_ValueError.ga.bind (.ref a)]
  refine wpAny_bind (wpAny_pure ?_)
  change wpAny _ _ (call (.builtin "BaseException.__getattribute__") [.ref a, .str "__class__" tk]) _ _ _
  refine wpAny_call (codeAny_call_builtin PySem.F.excAttr_ValueError.ga.plain PySem.F.entry_bexc_ga ?_)
  refine @PySem.W.check_slot (model prog w) _ _ ⟨hh, gs, dr, tk + 1, o5⟩ "BaseException.__getattribute__" "BaseException" "__getattribute__" (.ref a) [.str "__class__" tk] [] _ (by decide +kernel) (by decide +kernel) isSub (PySem.F.args_bexc_ga _ _) ?_
  unfold Builtin.«object.__getattribute__»
  refine wpAny_bind (wpAny_of_eq (a := ((Value.ref a : Value), [Value.str "__class__" tk])) (by first | rfl | (simp only [slotArgs]; rfl)) (wpAny_bind (wpAny_pure (wpAny_bind (isC.at (wpAny_bind (isIt.at ?_)))))))
  change wpAny _ _ (holding [Value.builtin "object.__class__"] (call (.builtin "getset_descriptor.__get__") [.builtin "object.__class__", .ref a, .ref C]) >>= ret) _ _ _
  refine wpAny_bind (wpAny_holding (wpAny_call (PySem.W.class_get (s := ⟨hh, gs, dr, tk + 1, o5⟩) (ox := oe) (od := some od) hK J c.hm (wpAny_pure ?_))))
  change wpAny _ _ (handedOut (.ref C)) _ _ _
  rw [PySem.W.handedOut_of (v := .ref C) rfl]
  first
    | exact wpAny_pure g
    | exact wpAny_pure (wpAny_pure g)
    | exact wpAny_pure (wpAny_bind (wpAny_pure (wpAny_pure g)))
/-- the error is an object of its class, its dict there -/
theorem kit_err {K : PySem.W.Frag} {a C : Addr} {oe od : Obj} (c : ExcI K C) : PySem.W.KitX K (.ref a) (.ref C) (fun h => PySem.W.InstAt h a oe C (some od)) where
  ty := fun _ _ _ J => J.type
  it := fun _ h hK _ => by
    obtain ⟨kd, hk, _⟩ := PySem.W.any_some c.xf.hdC
    unfold PySem.W.clsIn at hk
    split at hk
    · rename_i e1 e2 e3 e4 there
      intro B R' F' st keep goal
      unfold isType loadHead
      exact wpAny_bind (wpAny_loadPart (keep _ _ (hK _ _ there)) (wpAny_pure goal))
    · cases hk
  ne := fun h t dd is m sl hK ht => by
    obtain ⟨kd, hk, _⟩ := PySem.W.any_some c.xf.hdC
    cases q : (Value.ref C == Value.ref t) with
    | false => rfl
    | true =>
      obtain rfl : C = t := Value.ref.inj (beq_iff_eq.mp q)
      unfold PySem.W.clsIn at hk
      split at hk
      · rename_i e1 e2 e3 e4 there
        have z := (hK _ _ there).symm.trans ht
        cases z
      · cases hk
  ca := fun hK J g => cls_named c hK J g
/-- isinstance(x, c): x a kept error, or any other thing as before -/
def rIsiE (K : PySem.W.Frag) : List V → Hp → VK → Prop := fun xs H Q => rIsi K xs H Q ∨ ∃ (a C dd : Addr) (fs : List (Str × V)) (c : V) (u : Value) (b : Bool), xs = [.ref a, c] ∧ H a = some (ExK (.ref C) (some dd) a) ∧ H dd = some (.xd fs) ∧ ExcI K C ∧ ClsV c u ∧ PySem.W.kitOne K (.ref C) u = some b ∧ Q (.bl b) H
section
variable {X : Cx}
theorem inst_kept {pins : List (Addr × Obj)} {σ : L2.St} {H : Hp} {s : Shared} {a C dd : Addr} {fs : List (Str × V)} (I : Inv X pins σ H s) (ha : H a = some (ExK (.ref C) (some dd) a)) (hd : H dd = some (.xd fs)) :
    ∃ (oe od : Obj) (mA : Str → Option Value), PySem.W.InstAt s.heap a oe C (some od) ∧ s.heap.get? dd = some od ∧ (∀ n, PySem.W.lookIn n od = some (mA n)) ∧ ∀ f, RelO (fs.lookup f) (mA f) := by
  obtain ⟨⟨oe, vs, he, hz, hv⟩, _⟩ := I.hok a _ ha
  obtain ⟨mA, hns, hr⟩ := (show ObjOk X.prog X.w H s.heap dd (.xd fs) from I.hok dd _ hd)
  obtain ⟨od, ho, hl⟩ := lookIn_ns hns
  exact ⟨oe, od, mA, ⟨he, hz.1, by unfold PySem.W.notCls; rw [hv] <;> rfl, by rw [hz.2]; exact ho⟩, ho, hl, hr⟩
theorem call_isiE : CallR X (.builtin "isinstance") (rIsiE X.K) := by
  intro pins s σ H xs us Q I r h
  rcases h with h | ⟨a, C, dd, fs, c, u, b, rfl, ha, hd, hc, hu, hk, q⟩
  · exact call_isi pins s σ H xs us Q I r h
  · obtain ⟨oe, od, mA, J, _⟩ := inst_kept I ha hd
    obtain ⟨u1, u2, rfl, r1, r2⟩ := r.two
    obtain rfl : u1 = Value.ref a := r1
    obtain rfl := hu.eq r2
    exact PySem.W.kia_one (kit_err hc) I.kIn J hk (fun z => nomatch z) fun tk => ⟨.bl b, H, I.tok tk, rfl, q⟩
theorem k_isiE (K : PySem.W.Frag) (h : X.K = K) : CallR X (.builtin "isinstance") (rIsiE K) := by subst h; exact call_isiE
/-- err.f of a kept error -/
def tXfK (K : PySem.W.Frag) (f : Str) (te : TE) : TE := fun σ H Q => te σ H fun x H1 => ∃ (a C dd : Addr) (fs : List (Str × V)) (v : V), x = .ref a ∧ H1 a = some (ExK (.ref C) (some dd) a) ∧ H1 dd = some (.xd fs) ∧ XfC K C ∧ PySem.W.findIn K (.ref C) f = some none ∧ fs.lookup f = some v ∧ Q v H1
theorem pe_xfK {e : Expr} {te : TE} {pos : Pos} {n : Str} (he : PE X e te) (hb : attributeBase e n X.env (eval e X.env) = eval e X.env := by rfl) : PE X (.Attribute e n pos) (tXfK X.K n te) := by
  refine ⟨fun pins s σ H Q I h => ?_⟩
  refine attr_of hb (thn (he.run pins s σ H _ I h) fun u s1 hh => ?_)
  obtain ⟨x, H1, I1, rx, a, C, dd, fs, v, ex, ha, hd, T, hno, l, q⟩ := hh
  subst ex
  obtain rfl : u = Value.ref a := rx
  obtain ⟨oe, od, mA, J, ho, hl, hr⟩ := inst_kept I1 ha hd
  obtain ⟨u, hu, ru⟩ := RelO.some_of (v := v) (o := mA n) (by rw [← l]; exact hr n)
  exact HandSPX.exc_get I1.kIn J T.ga T.gg T.exC (PySem.W.findObj_own T.hdC hno rfl (by rw [hl, hu])) (handed_of ru) ⟨v, H1, I1.tok _, ru, q⟩
end
end My

namespace My
open PySem PySem.Spec PyProof.Rows L2 Pre PySem.W
/-! ### a function called by a local name -/
def tCallV (P : Program) (w : World) (K : PySem.W.Frag) (mg : Str → Option Value) (base : Heap) (CX : CXT) (k : Nat) (E : XK) (tf : TE) (t : TA) : TE := fun σ H Q => tf σ H fun v H1 =>
  ∃ (f : Addr) (fd : FuncData) (ps : List Str) (sp : Sp), v = .ref f ∧ FnOk P w K mg base CX k f fd ps sp ∧ PySem.W.keepIn K (.ref f) = true ∧ Binds K fd ps [] ∧ t σ H1 fun vs H2 => sp vs H2 Q E
section
variable {X : Cx} {CX : CXT} {k : Nat} {E : XK} {x : Str} {p pos : Pos} {e : Expr} {es : List Expr} {tf : TE} {t : TA}
theorem pe_callV (hr : Room k X.A) (hf : PE X (.Name x p) tf) (hx : Passes CX X E) (ha : PA X (e :: es) t) (he : starEach (e :: es) X.env = (false, eval e X.env) :: starEach es X.env := by rfl) (hpl : (backTo pos (starEach es X.env)).any (·.1) = false := by rfl) :
    PE X (.Call (.Name x p) (e :: es) [] pos) (tCallV X.prog X.w X.K X.mg X.base CX k E tf t) := by
  refine ⟨fun pins s σ H Q I h => ?_⟩
  refine wpAny_Call_Name_kw (thn (hf.run pins s σ H _ I h) fun u s1 ⟨v, H1, I1, r, f, fd, ps, sp, ev, F, hk, hb, q⟩ => ?_)
  subst ev
  obtain rfl : u = Value.ref f := r
  refine PySem.W.callWith_K (h₀ := X.base) I1.ok.mod.kin hk (thn (ha.run pos pins s1 σ H1 _ I1 q) fun us s2 ⟨vs, H2, I2, r2, q2⟩ => ⟨I2.kIn, ?_⟩) he hpl
  exact run_fn F hr hb .nil hx I2 r2 (by rw [List.append_nil]; exact q2)
end
/-- what nothing reaches here -/
def sp_no : Sp := fun _ _ _ _ => False
end My

namespace My
open PySem PySem.Spec PyProof.Rows L2 Pre PySem.W
/-! ### a function out of a list, called at once; an instance made in a try -/
theorem arm_sub (v i : Expr) (p : Pos) (xs : List Expr) (kws : List Keyword) (q : Pos) (en : Env) : eval (.Call (.Subscript v i p) xs kws q) en = (do
    callWith q (← eval (.Subscript v i p) en) [] (backTo q (starEach xs en)) (backToKw q (keywordEach kws en))) := rfl
section
variable {X : Cx} {CX : CXT} {k : Nat} {v i : Expr} {p pos : Pos} {e : Expr} {es : List Expr} {tf : TE} {t : TA}
/-- l[i](..) in a try: what the callee raises goes to the clause -/
def tCallU (P : Program) (w : World) (K : PySem.W.Frag) (mg : Str → Option Value) (base : Heap) (CX : CXT) (k : Nat) (E : L2.St → XK) (tf : TE) (t : TA) : TE := fun σ H Q => tf σ H fun v H1 =>
  ∃ (f : Addr) (fd : FuncData) (ps : List Str) (sp : Sp), v = .ref f ∧ FnOk P w K mg base CX k f fd ps sp ∧ PySem.W.keepIn K (.ref f) = true ∧ Binds K fd ps [] ∧ t σ H1 fun vs H2 => sp vs H2 Q (E σ)
theorem pe_callU (P : Program) (w : World) (K : PySem.W.Frag) (mg : Str → Option Value) (base : Heap) (e1 : X.prog = P) (e2 : X.w = w) (e3 : X.K = K) (e4 : X.mg = mg) (e5 : X.base = base) {E : L2.St → XK} (hr : Room k X.A) (hf : PE X (.Subscript v i p) tf)
    (hx : ∀ σ, PassesAt (L2.CX X.prog X.w) X σ (E σ)) (ha : PA X (e :: es) t) (he : starEach (e :: es) X.env = (false, eval e X.env) :: starEach es X.env := by rfl) (hpl : (backTo pos (starEach es X.env)).any (·.1) = false := by rfl) :
    PE X (.Call (.Subscript v i p) (e :: es) [] pos) (tCallU P w K mg base (L2.CX P w) k E tf t) := by
  subst e1 e2 e3 e4 e5
  refine ⟨fun pins s σ H Q I h => ?_⟩
  rw [arm_sub]
  refine wpAny_bind (thn (hf.run pins s σ H _ I h) fun u s1 ⟨v, H1, I1, r, f, fd, ps, sp, ev, F, hk, hb, q⟩ => ?_)
  subst ev
  obtain rfl : u = Value.ref f := r
  refine PySem.W.callWith_K (h₀ := X.base) I1.ok.mod.kin hk (thn (ha.run pos pins s1 σ H1 _ I1 q) fun us s2 ⟨vs, H2, I2, r2, q2⟩ => ⟨I2.kIn, ?_⟩) he hpl
  exact run_fnS F hr hb (hx σ) I2 r2 q2
/-- C(..) in a try -/
def tMakeU (C : Addr) (sp : Sp) (E : L2.St → XK) (t : TA) : TE := fun σ H Q => t σ H fun vs G => ∀ x dx, G x = none → G dx = none → dx ≠ x →
  sp (.ref x :: vs) (upd (upd G dx (.own x)) x (.ins C dx [])) (fun v G2 => v = .non ∧ Q (.ref x) G2) (E σ)
theorem run_makeU {C f : Addr} {fd : FuncData} {ps : List Str} {sp : Sp} {E : L2.St → XK} {pins : List (Addr × Obj)} {σ : L2.St} {H : Hp} {s : Shared} {Q : VK} {us : List Value} {vs : List V} (M : Mk X.K C f) (F : FnOk X.prog X.w X.K X.mg X.base CX k f fd ps sp)
    (rm : Room (k + 1) X.A) (hb : Binds X.K fd ps []) (px : PassesAt CX X σ (E σ)) (I : Inv X pins σ H s) (rv : Vals vs us)
    (h : ∀ x dx, H x = none → H dx = none → dx ≠ x → sp (.ref x :: vs) (upd (upd H dx (.own x)) x (.ins C dx [])) (fun v G2 => v = .non ∧ Q (.ref x) G2) (E σ)) :
    wpAny (model X.prog X.w) X.A (call (.ref C) us) (EP X pins σ Q) X.xe s := by
  let n := s.heap.objs.size
  have hn := h (n + 1) n (I.hok.fresh (Nat.le_succ n)) (I.hok.fresh (Nat.le_refl n)) (Nat.ne_of_lt (Nat.lt_succ_self n))
  have J := Inv.made (C := C) I
  have rw2 : Vals (V.ref (n + 1) :: vs) (Value.ref (n + 1) :: us) := .cons rfl rv
  have ln : (Value.ref (n + 1) :: us).length = ps.length := rw2.length.symm.trans (F.len _ _ _ _ hn)
  have bb := hb _ (Value.ref (n + 1) :: us) J.kIn (by rw [List.append_nil]; exact ln)
  rw [List.append_nil] at bb
  refine wpAny_call (make_map (f := f) I.kIn M.makes M.init (beq_iff_eq.mp M.fn) (codeAny_mono
    (F.run _ X.stack _ _ ⟨Value.ref (n + 1) :: us, []⟩ (Value.ref (n + 1) :: us) _ _ (E σ) (rm.make C us []) (J.env0.make C us []) bb rw2 hn) fun r s' hq => ?_))
  cases r with
  | error x => exact px pins _ _ x s' J hq
  | ok fl =>
    cases fl with
    | ret u =>
      obtain ⟨v, G, I3, r3, ev, q3⟩ := J.after hq
      subst ev
      exact ⟨r3, ⟨V.ref (n + 1), G, I3, rfl, q3⟩⟩
    | next => exact hq.elim
    | brk => exact hq.elim
    | cont => exact hq.elim
theorem pe_makeU {C f : Addr} {fd : FuncData} {ps : List Str} {sp : Sp} {E : L2.St → XK} {x : Str} (M : Mk X.K C f) (F : FnOk X.prog X.w X.K X.mg X.base CX k f fd ps sp) (hr : Room (k + 1) X.A) (hg : Gl X x) (hm : X.mg x = some (.ref C)) (hb : Binds X.K fd ps [])
    (hx : ∀ σ, PassesAt CX X σ (E σ)) (ha : PA X (e :: es) t) (hdb : (x == ("__debug__" : Str)) = false := by decide) (he : starEach (e :: es) X.env = (false, eval e X.env) :: starEach es X.env := by rfl) (hpl : (backTo pos (starEach es X.env)).any (·.1) = false := by rfl) :
    PE X (.Call (.Name x p) (e :: es) [] pos) (tMakeU C sp E t) := by
  refine ⟨fun pins s σ H Q I h => ?_⟩
  refine wpAny_Call_Name_kw (ld_glob I hg hm ?_ hdb)
  refine PySem.W.callWith_K (h₀ := X.base) I.ok.mod.kin M.kp (thn (ha.run pos pins s σ H _ I h) fun us s1 ⟨vs, G, I1, r, q⟩ => ⟨I1.kIn, ?_⟩) he hpl
  exact run_makeU M F hr hb (hx σ) I1 r q
end
end My

open PySem PySem.SeqAt MeetsSeq MeetsSeq2 MeetsSeq3 in
theorem My.dict_ne_declines_list (l b : Addr) (items2 : Array Value) (n2 : Nat) (o : Obj) (dd2 : Option Addr) (sl2 : Array (Option Value)) (ho : o.cls = .type "dict") :
    Meets (Builtin.«dict.__ne__» ⟨[.ref l, .ref b], []⟩) (fun _ R s => s.heap.get? l = some o ∧ s.heap.get? b = some { cls := .type "list", dict := dd2, data := .seq items2 n2, slots := sl2 } ∧ R (.ok (.ret .notImplemented)) s) :=
  .of_wp fun prog w A R s h => by obtain ⟨hp, g, d, tk, os⟩ := s; obtain ⟨hl, hb, h⟩ := h; have f1 := F.sub_list_dict; wp_walk using wpAny_loadPart' hl, wpAny_loadPart' hb; exact ⟨_, rfl, h⟩
open PySem PySem.SeqAt MeetsSeq MeetsSeq2 MeetsSeq3 in
theorem My.list_ne_declines_dict (l b : Addr) (items : Array Value) (n : Nat) (dd : Option Addr) (sl : Array (Option Value)) (d1 : Option Addr) (z1 : Data) (l1 : Array (Option Value)) :
    Meets (Builtin.«list.__ne__» ⟨[.ref l, .ref b], []⟩) (fun _ R s => s.heap.get? l = some { cls := .type "list", dict := dd, data := .seq items n, slots := sl } ∧ s.heap.get? b = some ⟨.type "dict", d1, z1, l1⟩ ∧ R (.ok (.ret .notImplemented)) s) :=
  .of_wp fun prog w A R s h => by obtain ⟨hp, g, d, tk, os⟩ := s; obtain ⟨hl, hb, h⟩ := h; have f1 := F.sub_dict_list; wp_walk using wpAny_loadPart' hl, wpAny_loadPart' hb; exact ⟨_, rfl, h⟩
open PySem PySem.SeqAt MeetsSeq MeetsSeq2 MeetsSeq3 in
theorem My.rc_dict_list {A : Around} {s : Shared} {a b : Addr} {o : Obj} {its : Array Value} (ha : s.heap.get? a = some o) (hc : o.cls = .type "dict") (hb : s.heap.IsList b its) (hu : A.units < cLine) : RcNeAt A s (.ref a) (.ref b) true := fun prog w E Q h => by
  obtain ⟨cl1, d1, z1, l1⟩ := o
  obtain ⟨⟨cl, dd, da, sl⟩, h2, c2, n, d2⟩ := id hb
  simp only at c2 d2
  subst c2 d2
  simp only at hc
  have hab : a ≠ b := fun e => by
    subst e
    rw [ha] at h2
    cases h2
    simp at hc
  have yes : ∀ Q' : Value → Shared → Prop, Q' .notImplemented s → wpAny (model prog w) A (call (.builtin "dict.__ne__") [.ref a, .ref b]) Q' E s := fun _ k =>
    call_meets F.slot_dict_ne ⟨_, ha, hc⟩ F.entry_dict_ne (F.args_dict_ne_2 _ _) (My.dict_ne_declines_list a b its n _ dd sl hc) ⟨ha, h2, k⟩
  have h1 : s.heap.get? a = some ⟨.type "dict", d1, z1, l1⟩ := by rw [← hc]; exact ha
  have back : ∀ Q' : Value → Shared → Prop, Q' .notImplemented s → wpAny (model prog w) A (call (.builtin "list.__ne__") [.ref b, .ref a]) Q' E s := fun _ k =>
    call_meets F.slot_list_ne_refl ⟨_, h2, rfl⟩ F.entry_list_ne (F.args_list_ne_2 _ _) (My.list_ne_declines_dict b a its n dd sl d1 z1 l1) ⟨h2, h1, k⟩
  exact rc_ne_decline_or (k := false) ⟨_, ha, hc⟩ ⟨_, h2, rfl⟩ (by decide) F.sub_list_dict F.slot_dict_ne F.slot_list_ne_refl yes back (fun _ k => wpAny_isSame_ref_other' hab ha h2 (by simp) k) (.inr hu) h
namespace My
open PySem PySem.Spec PyProof.Rows L2 Pre
/-! ### != of data, or of an empty dict and a list -/
def rNeX (K : PySem.W.Frag) : R2 := fun x y H Q => rNeD K x y H Q ∨ ∃ (a b : Addr) (xs : List V), x = .ref a ∧ y = .ref b ∧ H a = some (.dK []) ∧ SqL K H b xs ∧ Q (.bl true) H
theorem op_neX {X : Cx} (hu : X.A.units + 64 < cLine) : OpR X (compareOp .NotEq) (rNeX X.K) := by
  intro pins s σ H x y v u Q I rx ry h
  rcases h with h | ⟨a, b, xs, rfl, rfl, ha, hb, q⟩
  · exact op_neD hu pins s σ H x y v u Q I rx ry h
  · cases rx
    cases ry
    obtain ⟨t1, t2, vs, rel, o, es, ep, ho, h2, h3, h4⟩ := I.hok a _ ha
    obtain ⟨us, rv, ⟨o2, n2, e2, c2, _, z2⟩, _⟩ := I.list hb
    exact rc_dict_list ho h2.1 ⟨o2, e2, c2, n2, z2⟩ (by omega) _ _ _ _ ⟨.bl true, H, I, rfl, q⟩
theorem k_neX {X : Cx} (K : PySem.W.Frag) (h : X.K = K) (hu : X.A.units + 64 < cLine) : OpR X (compareOp .NotEq) (rNeX K) := by subst h; exact op_neX hu
end My

namespace My
/-! ### rows by rules, modulo a number: a rule that leads another one -/
/-- a sum of the first n -/
def sumN : Nat → (Nat → Int) → Int
  | 0, _ => 0
  | n + 1, f => sumN n f + f n
theorem sumN_congr {n : Nat} {f g : Nat → Int} (h : ∀ i, i < n → f i = g i) : sumN n f = sumN n g := by
  induction n with
  | zero => rfl
  | succ n ih => rw [sumN, sumN, ih fun i hi => h i (by omega), h n (Nat.lt_succ_self n)]
theorem sumN_zero (n : Nat) : sumN n (fun _ => 0) = 0 := by
  induction n with
  | zero => rfl
  | succ n ih => rw [sumN, ih]; rfl
theorem sumN_none {n : Nat} {f : Nat → Int} (h : ∀ i, i < n → f i = 0) : sumN n f = 0 := (sumN_congr h).trans (sumN_zero n)
theorem sumN_add (n : Nat) (f g : Nat → Int) : sumN n (fun i => f i + g i) = sumN n f + sumN n g := by
  induction n with
  | zero => rfl
  | succ n ih => rw [sumN, sumN, sumN, ih]; omega
theorem sumN_mul (n : Nat) (c : Int) (f : Nat → Int) : sumN n (fun i => c * f i) = c * sumN n f := by
  induction n with
  | zero => simp [sumN]
  | succ n ih => rw [sumN, sumN, ih, Int.mul_add]
theorem sumN_front (n : Nat) (f : Nat → Int) : sumN (n + 1) f = f 0 + sumN n fun i => f (i + 1) := by
  induction n with
  | zero => simp [sumN]
  | succ n ih => rw [sumN, ih, sumN]; omega
theorem sumN_rev (n : Nat) (f : Nat → Int) : sumN n (fun i => f (n - 1 - i)) = sumN n f := by
  induction n generalizing f with
  | zero => rfl
  | succ n ih =>
    rw [sumN_front, sumN]
    have : (sumN n fun i => f (n + 1 - 1 - (i + 1))) = sumN n f := by
      rw [← ih f]
      refine sumN_congr fun i hi => ?_
      congr 1
      omega
    rw [this]
    show f n + _ = _
    omega
theorem sumN_cut {n k : Nat} (h : k ≤ n) {f : Nat → Int} (z : ∀ i, k ≤ i → i < n → f i = 0) : sumN n f = sumN k f := by
  induction n with
  | zero => obtain rfl : k = 0 := by omega
            rfl
  | succ n ih =>
    by_cases e : k = n + 1
    · rw [e]
    · rw [sumN, z n (by omega) (Nat.lt_succ_self n), ih (by omega) fun i h1 h2 => z i h1 (by omega)]
      omega
theorem sumN_swap (n m : Nat) (f : Nat → Nat → Int) : sumN n (fun i => sumN m (f i)) = sumN m fun j => sumN n fun i => f i j := by
  induction n with
  | zero => simp only [sumN]; exact (sumN_zero m).symm
  | succ n ih =>
    rw [sumN, ih, ← sumN_add]
    rfl
theorem sumN_dvd {N : Int} {n : Nat} {f : Nat → Int} (h : ∀ i, i < n → N ∣ f i) : N ∣ sumN n f := by
  induction n with
  | zero => exact Int.dvd_zero N
  | succ n ih => exact Int.dvd_add (ih fun i hi => h i (by omega)) (h n (Nat.lt_succ_self n))
theorem sumN_only {n k : Nat} (hk : k < n) {f : Nat → Int} (z : ∀ i, i < n → i ≠ k → f i = 0) : sumN n f = f k := by
  induction n with
  | zero => omega
  | succ n ih =>
    rw [sumN]
    by_cases e : k = n
    · subst e
      rw [sumN_none fun i hi => z i (by omega) (by omega)]
      omega
    · rw [ih (by omega) fun i hi ne => z i (by omega) ne, z n (Nat.lt_succ_self n) (fun q => e q.symm)]
      omega
section
variable (N : Int) (w : List Int)
/-- the row follows the rule w -/
def Fol (r : Nat → Int) : Prop := ∀ i, N ∣ r (i + w.length) - sumN w.length fun b => w.getD b 0 * r (i + w.length - 1 - b)
/-- a power led down: k weights done -/
def updW (f : Nat → Int) (top k : Nat) : Nat → Int := fun p => if p < top ∧ top - 1 - p < k then (f p + f top * w.getD (top - 1 - p) 0) % N else f p
/-- powers from the t-th on led down -/
def ledN (f : Nat → Int) (L : Nat) : Nat → Nat → Int
  | 0 => f
  | t + 1 => updW N w (ledN f L t) (L - 1 - t) w.length
/-- what is led: the rule q as powers -/
def iniP (q : List Int) : Nat → Int := fun p => q.getD p 0 % N
/-- how many powers there are at first -/
def lenP (q : List Int) : Nat := max q.length w.length
def redP (q : List Int) : Nat → Int := ledN N w (iniP N q) (lenP w q) (lenP w q - w.length)
variable {N w}
theorem upd_same_sum (hN : 0 < N) {f r : Nat → Int} (hr : Fol N w r) {top : Nat} (ht : w.length ≤ top) (i : Nat) : N ∣ sumN top (fun p => updW N w f top w.length p * r (i + p)) - sumN (top + 1) fun p => f p * r (i + p) := by
  rw [sumN]
  have h1 : N ∣ sumN top (fun p => updW N w f top w.length p * r (i + p)) - sumN top fun p => (f p + if top - 1 - p < w.length then f top * w.getD (top - 1 - p) 0 else 0) * r (i + p) := by
    have e : sumN top (fun p => updW N w f top w.length p * r (i + p)) - sumN top (fun p => (f p + if top - 1 - p < w.length then f top * w.getD (top - 1 - p) 0 else 0) * r (i + p)) = sumN top fun p => (updW N w f top w.length p - (f p + if top - 1 - p < w.length then f top * w.getD (top - 1 - p) 0 else 0)) * r (i + p) := by
      rw [Int.sub_eq_add_neg, ← Int.neg_one_mul, ← sumN_mul, ← sumN_add]
      refine sumN_congr fun p _ => ?_
      rw [Int.neg_one_mul, ← Int.sub_eq_add_neg, Int.sub_mul]
    rw [e]
    refine sumN_dvd fun p hp => ?_
    refine Int.dvd_mul_of_dvd_left ?_
    unfold updW
    by_cases c : top - 1 - p < w.length
    · rw [if_pos ⟨hp, c⟩, if_pos c]
      have := Int.dvd_self_sub_emod (x := f p + f top * w.getD (top - 1 - p) 0) (m := N)
      rw [← Int.neg_sub]
      exact Int.dvd_neg.mpr this
    · rw [if_neg fun z => c z.2, if_neg c, Int.add_zero, Int.sub_self]
      exact Int.dvd_zero N
  have h2 : sumN top (fun p => (f p + if top - 1 - p < w.length then f top * w.getD (top - 1 - p) 0 else 0) * r (i + p)) = sumN top (fun p => f p * r (i + p)) + f top * sumN w.length fun b => w.getD b 0 * r (i + top - 1 - b) := by
    have e1 : (fun p => (f p + if top - 1 - p < w.length then f top * w.getD (top - 1 - p) 0 else 0) * r (i + p)) = fun p => f p * r (i + p) + (if top - 1 - p < w.length then f top * w.getD (top - 1 - p) 0 else 0) * r (i + p) := by
      funext p
      rw [Int.add_mul]
    rw [e1, sumN_add]
    congr 1
    rw [← sumN_mul]
    have e2 : sumN top (fun p => (if top - 1 - p < w.length then f top * w.getD (top - 1 - p) 0 else 0) * r (i + p)) = sumN top fun p => (fun b => (if b < w.length then f top * w.getD b 0 else 0) * r (i + top - 1 - b)) (top - 1 - p) := by
      refine sumN_congr fun p hp => ?_
      dsimp only
      rw [show i + top - 1 - (top - 1 - p) = i + p by omega]
    refine e2.trans ((sumN_rev top fun b => (if b < w.length then f top * w.getD b 0 else 0) * r (i + top - 1 - b)).trans ?_)
    rw [sumN_cut ht fun b h1 h2 => by rw [if_neg (by omega), Int.zero_mul]]
    refine sumN_congr fun b hb => ?_
    rw [if_pos hb, Int.mul_assoc]
  have h3 : N ∣ f top * sumN w.length (fun b => w.getD b 0 * r (i + top - 1 - b)) - f top * r (i + top) := by
    rw [← Int.mul_sub]
    refine Int.dvd_mul_of_dvd_right ?_
    have := hr (i + top - w.length)
    rw [show i + top - w.length + w.length = i + top by omega] at this
    rw [← Int.neg_sub]
    exact Int.dvd_neg.mpr this
  rw [h2] at h1
  have h4 := Int.dvd_add h1 h3
  have e : ∀ a b c d : Int, (a - (b + c)) + (c - d) = a - (b + d) := fun a b c d => by omega
  rw [e] at h4
  exact h4
theorem led_sum (hN : 0 < N) {f r : Nat → Int} (hr : Fol N w r) {L : Nat} (i : Nat) : ∀ t, t + w.length ≤ L → N ∣ sumN (L - t) (fun p => ledN N w f L t p * r (i + p)) - sumN L fun p => f p * r (i + p)
  | 0, _ => by rw [Nat.sub_zero]; exact ⟨0, by rw [Int.mul_zero]; exact Int.sub_self _⟩
  | t + 1, h => by
    have ih := led_sum hN (f := f) hr (L := L) i t (by omega)
    have h1 := upd_same_sum hN (f := ledN N w f L t) hr (top := L - 1 - t) (by omega) i
    rw [show L - 1 - t + 1 = L - t by omega] at h1
    rw [show L - (t + 1) = L - 1 - t by omega]
    have := Int.dvd_add h1 ih
    rw [show ∀ a b c : Int, a - b + (b - c) = a - c from fun a b c => by omega] at this
    exact this
/-- led powers tell the same of all rows by the rule -/
theorem red_sum (hN : 0 < N) {r : Nat → Int} (hr : Fol N w r) (q : List Int) (i : Nat) : N ∣ sumN w.length (fun p => redP N w q p * r (i + p)) - sumN q.length fun p => q.getD p 0 * r (i + p) := by
  have h1 := led_sum hN (f := iniP N q) hr (L := lenP w q) i (lenP w q - w.length) (by unfold lenP; omega)
  rw [show lenP w q - (lenP w q - w.length) = w.length by unfold lenP; omega] at h1
  have h2 : N ∣ sumN (lenP w q) (fun p => iniP N q p * r (i + p)) - sumN q.length fun p => q.getD p 0 * r (i + p) := by
    rw [← sumN_cut (n := lenP w q) (k := q.length) (f := fun p => q.getD p 0 * r (i + p)) (by unfold lenP; omega) fun p h1 _ => by rw [List.getD_eq_getElem?_getD, List.getElem?_eq_none h1]; exact Int.zero_mul _]
    have e : sumN (lenP w q) (fun p => iniP N q p * r (i + p)) - sumN (lenP w q) (fun p => q.getD p 0 * r (i + p)) = sumN (lenP w q) fun p => (iniP N q p - q.getD p 0) * r (i + p) := by
      rw [Int.sub_eq_add_neg, ← Int.neg_one_mul, ← sumN_mul, ← sumN_add]
      refine sumN_congr fun p _ => ?_
      rw [Int.neg_one_mul, ← Int.sub_eq_add_neg, Int.sub_mul]
    rw [e]
    refine sumN_dvd fun p _ => Int.dvd_mul_of_dvd_left ?_
    unfold iniP
    have := Int.dvd_self_sub_emod (x := q.getD p 0) (m := N)
    rw [← Int.neg_sub]
    exact Int.dvd_neg.mpr this
  have := Int.dvd_add h1 h2
  rw [show ∀ a b c : Int, a - b + (b - c) = a - c from fun a b c => by omega] at this
  exact this
theorem led_range (hN : 0 < N) {f : Nat → Int} (hf : ∀ p, 0 ≤ f p ∧ f p < N) (L : Nat) : ∀ t p, 0 ≤ ledN N w f L t p ∧ ledN N w f L t p < N
  | 0, p => hf p
  | t + 1, p => by
    rw [ledN]
    unfold updW
    split
    · exact ⟨Int.emod_nonneg _ (by omega), Int.emod_lt_of_pos _ hN⟩
    · exact led_range hN hf L t p
theorem red_range (hN : 0 < N) (q : List Int) (p : Nat) : 0 ≤ redP N w q p ∧ redP N w q p < N := led_range hN (fun p => ⟨Int.emod_nonneg _ (by omega), Int.emod_lt_of_pos _ hN⟩) _ _ _
/-- where all is led to nought, all rows by the rule tell nought -/
theorem red_none (hN : 0 < N) {r : Nat → Int} (hr : Fol N w r) {q : List Int} (hz : ∀ p, p < w.length → redP N w q p = 0) (i : Nat) : N ∣ sumN q.length fun p => q.getD p 0 * r (i + p) := by
  have := red_sum hN hr q i
  rw [sumN_none fun p hp => by rw [hz p hp, Int.zero_mul], Int.zero_sub] at this
  exact Int.dvd_neg.mp this
/-- the last one alone -/
def Alo (m : Nat) (r : Nat → Int) : Prop := (∀ p, p + 1 < m → r p = 0) ∧ (0 < m → r (m - 1) = -1)
/-- otherwise the row from the last one alone tells where it first does not -/
theorem red_some (hN : 0 < N) {r : Nat → Int} (hr : Fol N w r) (ha : Alo w.length r) {q : List Int} {t : Nat} (ht : t < w.length) (hn : redP N w q t ≠ 0) (hz : ∀ p, t < p → p < w.length → redP N w q p = 0) :
    (∀ i, i < w.length - 1 - t → N ∣ sumN q.length fun p => q.getD p 0 * r (i + p)) ∧ ¬ N ∣ sumN q.length fun p => q.getD p 0 * r (w.length - 1 - t + p) := by
  constructor
  · intro i hi
    have := red_sum hN hr q i
    rw [sumN_none fun p hp => ?_, Int.zero_sub] at this
    · exact Int.dvd_neg.mp this
    · by_cases c : t < p
      · rw [hz p c hp, Int.zero_mul]
      · rw [ha.1 _ (by omega), Int.mul_zero]
  · intro hd
    have h1 := red_sum hN hr q (w.length - 1 - t)
    have h2 := Int.dvd_add h1 hd
    rw [show ∀ a b : Int, a - b + b = a from fun a b => by omega, sumN_only (k := t) ht fun p hp ne => ?_] at h2
    · rw [show w.length - 1 - t + t = w.length - 1 by omega, ha.2 (by omega), Int.mul_neg_one] at h2
      have h3 := Int.dvd_neg.mp h2
      obtain ⟨r1, r2⟩ := red_range (w := w) hN q t
      have := Int.le_of_dvd (by omega) h3
      omega
    · by_cases c : t < p
      · rw [hz p c hp, Int.zero_mul]
      · rw [ha.1 _ (by omega), Int.mul_zero]
end
/-- the rule as powers -/
def asP (u : List Int) : List Int := u.reverse.map (fun x => -x) ++ [1]
theorem asP_len (u : List Int) : (asP u).length = u.length + 1 := by unfold asP; rw [List.length_append, List.length_map, List.length_reverse]; rfl
/-- what the powers tell: the next one less the sum -/
theorem asP_sum (u : List Int) (r : Nat → Int) (i : Nat) : (sumN (asP u).length fun p => (asP u).getD p 0 * r (i + p)) = r (i + u.length) - sumN u.length fun b => u.getD b 0 * r (i + u.length - 1 - b) := by
  rw [asP_len, sumN]
  have e1 : (asP u).getD u.length 0 = 1 := by
    unfold asP
    rw [List.getD_eq_getElem?_getD, List.getElem?_append_right (by rw [List.length_map, List.length_reverse]; exact Nat.le_refl _), List.length_map, List.length_reverse, Nat.sub_self]
    rfl
  have e2 : (sumN u.length fun p => (asP u).getD p 0 * r (i + p)) = - sumN u.length fun b => u.getD b 0 * r (i + u.length - 1 - b) := by
    rw [← sumN_rev u.length fun b => u.getD b 0 * r (i + u.length - 1 - b), ← Int.neg_one_mul, ← sumN_mul]
    refine sumN_congr fun p hp => ?_
    have e3 : (asP u).getD p 0 = -(u.getD (u.length - 1 - p) 0) := by
      unfold asP
      rw [List.getD_eq_getElem?_getD, List.getElem?_append_left (by rw [List.length_map, List.length_reverse]; exact hp), List.getElem?_map, List.getElem?_reverse hp, List.getD_eq_getElem?_getD, List.getElem?_eq_getElem (by omega)]
      rfl
    rw [e3, show i + u.length - 1 - (u.length - 1 - p) = i + p by omega, Int.neg_mul, Int.neg_one_mul]
  rw [e1, e2, Int.one_mul]
  omega
theorem fol_asP {N : Int} {w : List Int} {r : Nat → Int} : Fol N w r ↔ ∀ i, N ∣ sumN (asP w).length fun p => (asP w).getD p 0 * r (i + p) := by
  unfold Fol
  constructor
  · intro h i; rw [asP_sum]; exact h i
  · intro h i; have := h i; rwa [asP_sum] at this
end My

namespace My
open PySem PySem.Spec PyProof.Rows L2
theorem nil_binds {K : PySem.W.Frag} {fd : FuncData} {ps : List Str} (h : ∃ ds, Vals [] ds ∧ Binds K fd ps ds) : Binds K fd ps [] := by
  obtain ⟨ds, v, b⟩ := h
  cases v
  exact b
def top (i : Nat) : Stmt := PySem.Challenge.pw_wholesound_k14_guessers_refused_and_what.main.body.getD i (.Pass ⟨0, 0, 0, 0⟩)
abbrev s_is_whole : Stmt := top 10
abbrev N_is_whole : List Str := ["value"]
theorem sc_is_whole : FnScope N_is_whole ["value"] (defScope s_is_whole) := ⟨rfl, rfl, rfl, by decide +kernel, rfl, by decide +kernel, by decide +kernel⟩
abbrev s_is_between : Stmt := top 11
abbrev N_is_between : List Str := ["value", "low", "high"]
theorem sc_is_between : FnScope N_is_between ["value", "low", "high"] (defScope s_is_between) := ⟨rfl, rfl, rfl, by decide +kernel, rfl, by decide +kernel, by decide +kernel⟩
abbrev s_are_wholes : Stmt := top 12
abbrev N_are_wholes : List Str := ["value", "item"]
theorem sc_are_wholes : FnScope N_are_wholes ["value"] (defScope s_are_wholes) := ⟨rfl, rfl, rfl, by decide +kernel, rfl, by decide +kernel, by decide +kernel⟩
abbrev s_common_divisor : Stmt := top 13
abbrev N_common_divisor : List Str := ["one", "other"]
theorem sc_common_divisor : FnScope N_common_divisor ["one", "other"] (defScope s_common_divisor) := ⟨rfl, rfl, rfl, by decide +kernel, rfl, by decide +kernel, by decide +kernel⟩
abbrev s_fraction : Stmt := top 14
abbrev N_fraction : List Str := ["top", "under", "common"]
theorem sc_fraction : FnScope N_fraction ["top", "under"] (defScope s_fraction) := ⟨rfl, rfl, rfl, by decide +kernel, rfl, by decide +kernel, by decide +kernel⟩
abbrev s_check_depth : Stmt := top 15
abbrev N_check_depth : List Str := ["depth", "most"]
theorem sc_check_depth : FnScope N_check_depth ["depth", "most"] (defScope s_check_depth) := ⟨rfl, rfl, rfl, by decide +kernel, rfl, by decide +kernel, by decide +kernel⟩
abbrev s_is_sample : Stmt := top 17
abbrev N_is_sample : List Str := ["value", "depth"]
theorem sc_is_sample : FnScope N_is_sample ["value", "depth"] (defScope s_is_sample) := ⟨rfl, rfl, rfl, by decide +kernel, rfl, by decide +kernel, by decide +kernel⟩
abbrev s_are_samples : Stmt := top 18
abbrev N_are_samples : List Str := ["value", "depth", "item"]
theorem sc_are_samples : FnScope N_are_samples ["value", "depth"] (defScope s_are_samples) := ⟨rfl, rfl, rfl, by decide +kernel, rfl, by decide +kernel, by decide +kernel⟩
abbrev s_wrapped : Stmt := top 19
abbrev N_wrapped : List Str := ["number", "depth", "half"]
theorem sc_wrapped : FnScope N_wrapped ["number", "depth"] (defScope s_wrapped) := ⟨rfl, rfl, rfl, by decide +kernel, rfl, by decide +kernel, by decide +kernel⟩
abbrev s_check_guesser : Stmt := top 26
abbrev N_check_guesser : List Str := ["value"]
theorem sc_check_guesser : FnScope N_check_guesser ["value"] (defScope s_check_guesser) := ⟨rfl, rfl, rfl, by decide +kernel, rfl, by decide +kernel, by decide +kernel⟩
abbrev s_check_row : Stmt := top 27
abbrev N_check_row : List Str := ["depth", "value"]
theorem sc_check_row : FnScope N_check_row ["depth", "value"] (defScope s_check_row) := ⟨rfl, rfl, rfl, by decide +kernel, rfl, by decide +kernel, by decide +kernel⟩
abbrev s_sum_before : Stmt := top 28
abbrev N_sum_before : List Str := ["guesser", "before", "found", "number", "weight"]
theorem sc_sum_before : FnScope N_sum_before ["guesser", "before"] (defScope s_sum_before) := ⟨rfl, rfl, rfl, by decide +kernel, rfl, by decide +kernel, by decide +kernel⟩
abbrev s_guess_behind : Stmt := top 29
abbrev N_guess_behind : List Str := ["guesser", "before"]
theorem sc_guess_behind : FnScope N_guess_behind ["guesser", "before"] (defScope s_guess_behind) := ⟨rfl, rfl, rfl, by decide +kernel, rfl, by decide +kernel, by decide +kernel⟩
abbrev s_guess : Stmt := top 30
abbrev N_guess : List Str := ["guesser", "before"]
theorem sc_guess : FnScope N_guess ["guesser", "before"] (defScope s_guess) := ⟨rfl, rfl, rfl, by decide +kernel, rfl, by decide +kernel, by decide +kernel⟩
abbrev s_steps : Stmt := top 31
abbrev N_steps : List Str := ["order", "product", "turn", "item"]
theorem sc_steps : FnScope N_steps ["order"] (defScope s_steps) := ⟨rfl, rfl, rfl, by decide +kernel, rfl, by decide +kernel, by decide +kernel⟩
abbrev s_told_rests : Stmt := top 32
abbrev N_told_rests : List Str := ["guesser", "row", "many", "found", "place"]
theorem sc_told_rests : FnScope N_told_rests ["guesser", "row"] (defScope s_told_rests) := ⟨rfl, rfl, rfl, by decide +kernel, rfl, by decide +kernel, by decide +kernel⟩
abbrev s_rests : Stmt := top 33
abbrev N_rests : List Str := ["guesser", "depth", "row", "item"]
theorem sc_rests : FnScope N_rests ["guesser", "depth", "row"] (defScope s_rests) := ⟨rfl, rfl, rfl, by decide +kernel, rfl, by decide +kernel, by decide +kernel⟩
abbrev s_row_of : Stmt := top 34
abbrev N_row_of : List Str := ["guesser", "depth", "rests", "many", "found", "rest"]
theorem sc_row_of : FnScope N_row_of ["guesser", "depth", "rests"] (defScope s_row_of) := ⟨rfl, rfl, rfl, by decide +kernel, rfl, by decide +kernel, by decide +kernel⟩
abbrev s_plain_rests : Stmt := top 35
abbrev N_plain_rests : List Str := ["guesser", "row"]
theorem sc_plain_rests : FnScope N_plain_rests ["guesser", "row"] (defScope s_plain_rests) := ⟨rfl, rfl, rfl, by decide +kernel, rfl, by decide +kernel, by decide +kernel⟩
abbrev s_quotient : Stmt := top 36
abbrev N_quotient : List Str := ["guesser", "number", "weight"]
theorem sc_quotient : FnScope N_quotient ["guesser", "number"] (defScope s_quotient) := ⟨rfl, rfl, rfl, by decide +kernel, rfl, by decide +kernel, by decide +kernel⟩
abbrev s_same_guess : Stmt := top 37
abbrev N_same_guess : List Str := ["one", "other", "many", "number"]
theorem sc_same_guess : FnScope N_same_guess ["one", "other"] (defScope s_same_guess) := ⟨rfl, rfl, rfl, by decide +kernel, rfl, by decide +kernel, by decide +kernel⟩
abbrev s_normal : Stmt := top 38
abbrev N_normal : List Str := ["guesser", "weights", "shift", "weight"]
theorem sc_normal : FnScope N_normal ["guesser"] (defScope s_normal) := ⟨rfl, rfl, rfl, by decide +kernel, rfl, by decide +kernel, by decide +kernel⟩
abbrev s_simplest : Stmt := top 39
abbrev N_simplest : List Str := ["low", "high", "whole", "down", "first", "last", "inner"]
theorem sc_simplest : FnScope N_simplest ["low", "high"] (defScope s_simplest) := ⟨rfl, rfl, rfl, by decide +kernel, rfl, by decide +kernel, by decide +kernel⟩
abbrev s_parting_sample : Stmt := top 40
abbrev N_parting_sample : List Str := ["one", "other", "many", "low", "high"]
theorem sc_parting_sample : FnScope N_parting_sample ["one", "other"] (defScope s_parting_sample) := ⟨rfl, rfl, rfl, by decide +kernel, rfl, by decide +kernel, by decide +kernel⟩
abbrev s_parting_row : Stmt := top 41
abbrev N_parting_row : List Str := ["one", "other", "number", "many", "found", "here", "there", "sample", "place"]
theorem sc_parting_row : FnScope N_parting_row ["one", "other"] (defScope s_parting_row) := ⟨rfl, rfl, rfl, by decide +kernel, rfl, by decide +kernel, by decide +kernel⟩
abbrev s_ends : Stmt := top 42
abbrev N_ends : List Str := ["guesser", "depth", "sign", "low", "high", "weight"]
theorem sc_ends : FnScope N_ends ["guesser", "depth", "sign"] (defScope s_ends) := ⟨rfl, rfl, rfl, by decide +kernel, rfl, by decide +kernel, by decide +kernel⟩
abbrev s_bound_rows : Stmt := top 43
abbrev N_bound_rows : List Str := ["guesser", "depth", "low", "high"]
theorem sc_bound_rows : FnScope N_bound_rows ["guesser", "depth"] (defScope s_bound_rows) := ⟨rfl, rfl, rfl, by decide +kernel, rfl, by decide +kernel, by decide +kernel⟩
abbrev s_bounds : Stmt := top 44
abbrev N_bounds : List Str := ["guesser", "depth", "least", "greatest"]
theorem sc_bounds : FnScope N_bounds ["guesser", "depth"] (defScope s_bounds) := ⟨rfl, rfl, rfl, by decide +kernel, rfl, by decide +kernel, by decide +kernel⟩
abbrev s_bits_enough : Stmt := top 45
abbrev N_bits_enough : List Str := ["guesser", "depth", "found", "least", "greatest"]
theorem sc_bits_enough : FnScope N_bits_enough ["guesser", "depth"] (defScope s_bits_enough) := ⟨rfl, rfl, rfl, by decide +kernel, rfl, by decide +kernel, by decide +kernel⟩
abbrev s_times_sum : Stmt := top 46
abbrev N_times_sum : List Str := ["one", "other", "found", "place", "item", "spot", "factor"]
theorem sc_times_sum : FnScope N_times_sum ["one", "other"] (defScope s_times_sum) := ⟨rfl, rfl, rfl, by decide +kernel, rfl, by decide +kernel, by decide +kernel⟩
abbrev s_tells : Stmt := top 47
abbrev N_tells : List Str := ["guesser", "row", "found", "rest"]
theorem sc_tells : FnScope N_tells ["guesser", "row"] (defScope s_tells) := ⟨rfl, rfl, rfl, by decide +kernel, rfl, by decide +kernel, by decide +kernel⟩
abbrev s_hangs : Stmt := top 48
abbrev N_hangs : List Str := ["guesser", "depth", "row", "place", "later", "many", "found", "told", "sample", "before"]
theorem sc_hangs : FnScope N_hangs ["guesser", "depth", "row", "place"] (defScope s_hangs) := ⟨rfl, rfl, rfl, by decide +kernel, rfl, by decide +kernel, by decide +kernel⟩
abbrev s_law_cell : Stmt := top 50
abbrev N_law_cell : List Str := ["_law_script", "_law_index"]
theorem sc_law_cell : FnScope N_law_cell ["_law_script", "_law_index"] (defScope s_law_cell) := ⟨rfl, rfl, rfl, by decide +kernel, rfl, by decide +kernel, by decide +kernel⟩
abbrev s_law_hash : Stmt := top 51
abbrev N_law_hash : List Str := ["_law_seed", "_law_index", "_law_mixed"]
theorem sc_law_hash : FnScope N_law_hash ["_law_seed", "_law_index"] (defScope s_law_hash) := ⟨rfl, rfl, rfl, by decide +kernel, rfl, by decide +kernel, by decide +kernel⟩
abbrev s_law_generator : Stmt := top 52
abbrev N_law_generator : List Str := ["_law_script", "_law_index", "_law_seed"]
theorem sc_law_generator : FnScope N_law_generator ["_law_script", "_law_index"] (defScope s_law_generator) := ⟨rfl, rfl, rfl, by decide +kernel, rfl, by decide +kernel, by decide +kernel⟩
abbrev s_law_random : Stmt := top 53
abbrev N_law_random : List Str := ["_law_generator_here", "_law_bound", "_law_drawn", "_law_turn"]
theorem sc_law_random : FnScope N_law_random ["_law_generator_here", "_law_bound"] (defScope s_law_random) := ⟨rfl, rfl, rfl, by decide +kernel, rfl, by decide +kernel, by decide +kernel⟩
abbrev s_law_sample : Stmt := top 54
abbrev N_law_sample : List Str := ["_law_generator_here", "_law_depth", "_law_low"]
theorem sc_law_sample : FnScope N_law_sample ["_law_generator_here", "_law_depth"] (defScope s_law_sample) := ⟨rfl, rfl, rfl, by decide +kernel, rfl, by decide +kernel, by decide +kernel⟩
abbrev s_law_row : Stmt := top 55
abbrev N_law_row : List Str := ["_law_generator_here", "_law_depth", "_law_many", "_law_place"]
theorem sc_law_row : FnScope N_law_row ["_law_generator_here", "_law_depth", "_law_many"] (defScope s_law_row) := ⟨rfl, rfl, rfl, by decide +kernel, rfl, by decide +kernel, by decide +kernel⟩
abbrev s_law_weights : Stmt := top 56
abbrev N_law_weights : List Str := ["_law_generator_here", "_law_many", "_law_found", "_law_number", "_law_great", "_law_kind"]
theorem sc_law_weights : FnScope N_law_weights ["_law_generator_here", "_law_many"] (defScope s_law_weights) := ⟨rfl, rfl, rfl, by decide +kernel, rfl, by decide +kernel, by decide +kernel⟩
abbrev s_law_guess : Stmt := top 57
abbrev N_law_guess : List Str := ["_law_weights_here", "_law_shift", "_law_before", "_law_total", "_law_number"]
theorem sc_law_guess : FnScope N_law_guess ["_law_weights_here", "_law_shift", "_law_before"] (defScope s_law_guess) := ⟨rfl, rfl, rfl, by decide +kernel, rfl, by decide +kernel, by decide +kernel⟩
abbrev s_law_plain : Stmt := top 58
abbrev N_law_plain : List Str := ["_law_weights_here", "_law_shift", "_law_row_here", "_law_found", "_law_place"]
theorem sc_law_plain : FnScope N_law_plain ["_law_weights_here", "_law_shift", "_law_row_here"] (defScope s_law_plain) := ⟨rfl, rfl, rfl, by decide +kernel, rfl, by decide +kernel, by decide +kernel⟩
abbrev s_law_hangs_right : Stmt := top 59
abbrev N_law_hangs_right : List Str := ["_law_generator_here", "_law_weights_here", "_law_shift", "_law_depth", "_law_row_here", "_law_sample_here", "_law_due", "_law_place", "_law_told", "_law_at", "_law_one"]
theorem sc_law_hangs_right : FnScope N_law_hangs_right ["_law_generator_here", "_law_weights_here", "_law_shift"] (defScope s_law_hangs_right) := ⟨rfl, rfl, rfl, by decide +kernel, rfl, by decide +kernel, by decide +kernel⟩
abbrev s_law_tells_right : Stmt := top 60
abbrev N_law_tells_right : List Str := ["_law_generator_here", "_law_weights_here", "_law_shift", "_law_turn", "_law_guesser", "_law_row_here", "_law_number"]
theorem sc_law_tells_right : FnScope N_law_tells_right ["_law_generator_here", "_law_weights_here", "_law_shift"] (defScope s_law_tells_right) := ⟨rfl, rfl, rfl, by decide +kernel, rfl, by decide +kernel, by decide +kernel⟩
abbrev s_law_caught : Stmt := top 61
abbrev N_law_caught : List Str := ["_law_door", "_law_one", "_law_two", "_law_three", "_law_four", "_law_caught_here", "error", "_law_kinds"]
theorem sc_law_caught : FnScope N_law_caught ["_law_door", "_law_one", "_law_two", "_law_three", "_law_four"] (defScope s_law_caught) := ⟨rfl, rfl, rfl, by decide +kernel, rfl, by decide +kernel, by decide +kernel⟩
abbrev s_law_made_right : Stmt := top 62
abbrev N_law_made_right : List Str := ["_law_bad"]
theorem sc_law_made_right : FnScope N_law_made_right [] (defScope s_law_made_right) := ⟨rfl, rfl, rfl, by decide +kernel, rfl, by decide +kernel, by decide +kernel⟩
abbrev s_law_doors_right : Stmt := top 63
abbrev N_law_doors_right : List Str := ["_law_guesser", "_law_bad", "_law_door"]
theorem sc_law_doors_right : FnScope N_law_doors_right ["_law_guesser"] (defScope s_law_doors_right) := ⟨rfl, rfl, rfl, by decide +kernel, rfl, by decide +kernel, by decide +kernel⟩
abbrev s_law : Stmt := top 64
abbrev N_law : List Str := ["_law_script", "_law_index", "_law_guesser", "_law_bad", "_law_generator_here", "_law_weights_here", "_law_shift", "_law_door"]
theorem sc_law : FnScope N_law ["_law_script"] (defScope s_law) := ⟨rfl, rfl, rfl, by decide +kernel, rfl, by decide +kernel, by decide +kernel⟩
abbrev s_Guesser___init__ : Stmt := inClass (top 25) 0
abbrev N_Guesser___init__ : List Str := ["self", "weights", "shift", "weight"]
theorem sc_Guesser___init__ : FnScope N_Guesser___init__ ["self", "weights", "shift"] (defScope s_Guesser___init__) := ⟨rfl, rfl, rfl, by decide +kernel, rfl, by decide +kernel, by decide +kernel⟩
abbrev s_InvalidNumber___init__ : Stmt := inClass (top 2) 0
theorem nsc_InvalidNumber : NdefX.NScope ["self", "value", "__class__"] ["self", "value"] ["__class__"] (defScope s_InvalidNumber___init__) := NdefX.nscope_by (by decide +kernel)
theorem sb_InvalidNumber : Sup.SupBody s_InvalidNumber___init__ := ⟨_, _, _, _, _, _, _, _, _, _, rfl, by decide +kernel, fun env => ⟨_, rfl⟩⟩
abbrev s_InvalidDepth___init__ : Stmt := inClass (top 3) 0
theorem nsc_InvalidDepth : NdefX.NScope ["self", "value", "__class__"] ["self", "value"] ["__class__"] (defScope s_InvalidDepth___init__) := NdefX.nscope_by (by decide +kernel)
theorem sb_InvalidDepth : Sup.SupBody s_InvalidDepth___init__ := ⟨_, _, _, _, _, _, _, _, _, _, rfl, by decide +kernel, fun env => ⟨_, rfl⟩⟩
abbrev s_InvalidRow___init__ : Stmt := inClass (top 6) 0
theorem nsc_InvalidRow : NdefX.NScope ["self", "value", "__class__"] ["self", "value"] ["__class__"] (defScope s_InvalidRow___init__) := NdefX.nscope_by (by decide +kernel)
theorem sb_InvalidRow : Sup.SupBody s_InvalidRow___init__ := ⟨_, _, _, _, _, _, _, _, _, _, rfl, by decide +kernel, fun env => ⟨_, rfl⟩⟩
abbrev s_InvalidGuesser___init__ : Stmt := inClass (top 7) 0
theorem nsc_InvalidGuesser : NdefX.NScope ["self", "value", "__class__"] ["self", "value"] ["__class__"] (defScope s_InvalidGuesser___init__) := NdefX.nscope_by (by decide +kernel)
theorem sb_InvalidGuesser : Sup.SupBody s_InvalidGuesser___init__ := ⟨_, _, _, _, _, _, _, _, _, _, rfl, by decide +kernel, fun env => ⟨_, rfl⟩⟩
abbrev s_InvalidList___init__ : Stmt := inClass (top 4) 0
theorem nsc_InvalidList : NdefX.NScope ["self", "value", "__class__"] ["self", "value"] ["__class__"] (defScope s_InvalidList___init__) := NdefX.nscope_by (by decide +kernel)
theorem sb_InvalidList : Sup.SupBody s_InvalidList___init__ := ⟨_, _, _, _, _, _, _, _, _, _, rfl, by decide +kernel, fun env => ⟨_, rfl⟩⟩
abbrev s_InvalidItem___init__ : Stmt := inClass (top 5) 0
theorem nsc_InvalidItem : NdefX.NScope ["self", "value", "__class__"] ["self", "value"] ["__class__"] (defScope s_InvalidItem___init__) := NdefX.nscope_by (by decide +kernel)
theorem sb_InvalidItem : Sup.SupBody s_InvalidItem___init__ := ⟨_, _, _, _, _, _, _, _, _, _, rfl, by decide +kernel, fun env => ⟨_, rfl⟩⟩
def fileS : Str := PySem.Challenge.pw_wholesound_k14_guessers_refused_and_what.main.file
def notTys : List String := ["NoneType", "bool", "int", "str", "list", "tuple", "dict"]
/-- what the top has left -/
structure Top (K : PySem.W.Frag) (mg : Str → Option Value) where
  C_Guesser : Addr
  gc_Guesser : mg "Guesser" = some (.ref C_Guesser)
  cl_Guesser : Cls K C_Guesser
  ic_Guesser : C8.InsC K C_Guesser
  kx_Guesser : ∀ T ∈ notTys, PySem.W.kitOne K (.type T) (.ref C_Guesser) = some false
  na_Guesser_parts : NoAttr K C_Guesser "parts"
  na_Guesser_down : NoAttr K C_Guesser "down"
  f_is_whole : Addr
  fd_is_whole : FuncData
  F_is_whole : FunD K "is_whole" "is_whole" (defArgs s_is_whole) (defBody s_is_whole) (defScope s_is_whole) [] [] f_is_whole fd_is_whole
  b_is_whole : Binds K fd_is_whole ["value"] []
  g_is_whole : mg "is_whole" = some (.ref f_is_whole)
  f_is_between : Addr
  fd_is_between : FuncData
  F_is_between : FunD K "is_between" "is_between" (defArgs s_is_between) (defBody s_is_between) (defScope s_is_between) [] [] f_is_between fd_is_between
  b_is_between : Binds K fd_is_between ["value", "low", "high"] []
  g_is_between : mg "is_between" = some (.ref f_is_between)
  f_are_wholes : Addr
  fd_are_wholes : FuncData
  F_are_wholes : FunD K "are_wholes" "are_wholes" (defArgs s_are_wholes) (defBody s_are_wholes) (defScope s_are_wholes) [] [] f_are_wholes fd_are_wholes
  b_are_wholes : Binds K fd_are_wholes ["value"] []
  g_are_wholes : mg "are_wholes" = some (.ref f_are_wholes)
  f_common_divisor : Addr
  fd_common_divisor : FuncData
  F_common_divisor : FunD K "common_divisor" "common_divisor" (defArgs s_common_divisor) (defBody s_common_divisor) (defScope s_common_divisor) [] [] f_common_divisor fd_common_divisor
  b_common_divisor : Binds K fd_common_divisor ["one", "other"] []
  g_common_divisor : mg "common_divisor" = some (.ref f_common_divisor)
  f_fraction : Addr
  fd_fraction : FuncData
  F_fraction : FunD K "fraction" "fraction" (defArgs s_fraction) (defBody s_fraction) (defScope s_fraction) [] [] f_fraction fd_fraction
  b_fraction : Binds K fd_fraction ["top", "under"] []
  g_fraction : mg "fraction" = some (.ref f_fraction)
  f_check_depth : Addr
  fd_check_depth : FuncData
  F_check_depth : FunD K "check_depth" "check_depth" (defArgs s_check_depth) (defBody s_check_depth) (defScope s_check_depth) [.int 24] [] f_check_depth fd_check_depth
  b_check_depth : Binds K fd_check_depth ["depth", "most"] []
  g_check_depth : mg "check_depth" = some (.ref f_check_depth)
  e0_check_depth : List Value
  v0_check_depth : Vals [.int 24] e0_check_depth
  b0_check_depth : Binds K fd_check_depth ["depth", "most"] e0_check_depth
  f_is_sample : Addr
  fd_is_sample : FuncData
  F_is_sample : FunD K "is_sample" "is_sample" (defArgs s_is_sample) (defBody s_is_sample) (defScope s_is_sample) [] [] f_is_sample fd_is_sample
  b_is_sample : Binds K fd_is_sample ["value", "depth"] []
  g_is_sample : mg "is_sample" = some (.ref f_is_sample)
  f_are_samples : Addr
  fd_are_samples : FuncData
  F_are_samples : FunD K "are_samples" "are_samples" (defArgs s_are_samples) (defBody s_are_samples) (defScope s_are_samples) [] [] f_are_samples fd_are_samples
  b_are_samples : Binds K fd_are_samples ["value", "depth"] []
  g_are_samples : mg "are_samples" = some (.ref f_are_samples)
  f_wrapped : Addr
  fd_wrapped : FuncData
  F_wrapped : FunD K "wrapped" "wrapped" (defArgs s_wrapped) (defBody s_wrapped) (defScope s_wrapped) [] [] f_wrapped fd_wrapped
  b_wrapped : Binds K fd_wrapped ["number", "depth"] []
  g_wrapped : mg "wrapped" = some (.ref f_wrapped)
  f_check_guesser : Addr
  fd_check_guesser : FuncData
  F_check_guesser : FunD K "check_guesser" "check_guesser" (defArgs s_check_guesser) (defBody s_check_guesser) (defScope s_check_guesser) [] [] f_check_guesser fd_check_guesser
  b_check_guesser : Binds K fd_check_guesser ["value"] []
  g_check_guesser : mg "check_guesser" = some (.ref f_check_guesser)
  f_check_row : Addr
  fd_check_row : FuncData
  F_check_row : FunD K "check_row" "check_row" (defArgs s_check_row) (defBody s_check_row) (defScope s_check_row) [] [] f_check_row fd_check_row
  b_check_row : Binds K fd_check_row ["depth", "value"] []
  g_check_row : mg "check_row" = some (.ref f_check_row)
  f_sum_before : Addr
  fd_sum_before : FuncData
  F_sum_before : FunD K "sum_before" "sum_before" (defArgs s_sum_before) (defBody s_sum_before) (defScope s_sum_before) [] [] f_sum_before fd_sum_before
  b_sum_before : Binds K fd_sum_before ["guesser", "before"] []
  g_sum_before : mg "sum_before" = some (.ref f_sum_before)
  f_guess_behind : Addr
  fd_guess_behind : FuncData
  F_guess_behind : FunD K "guess_behind" "guess_behind" (defArgs s_guess_behind) (defBody s_guess_behind) (defScope s_guess_behind) [] [] f_guess_behind fd_guess_behind
  b_guess_behind : Binds K fd_guess_behind ["guesser", "before"] []
  g_guess_behind : mg "guess_behind" = some (.ref f_guess_behind)
  f_guess : Addr
  fd_guess : FuncData
  F_guess : FunD K "guess" "guess" (defArgs s_guess) (defBody s_guess) (defScope s_guess) [] [] f_guess fd_guess
  b_guess : Binds K fd_guess ["guesser", "before"] []
  g_guess : mg "guess" = some (.ref f_guess)
  f_steps : Addr
  fd_steps : FuncData
  F_steps : FunD K "steps" "steps" (defArgs s_steps) (defBody s_steps) (defScope s_steps) [] [] f_steps fd_steps
  b_steps : Binds K fd_steps ["order"] []
  g_steps : mg "steps" = some (.ref f_steps)
  f_told_rests : Addr
  fd_told_rests : FuncData
  F_told_rests : FunD K "told_rests" "told_rests" (defArgs s_told_rests) (defBody s_told_rests) (defScope s_told_rests) [] [] f_told_rests fd_told_rests
  b_told_rests : Binds K fd_told_rests ["guesser", "row"] []
  g_told_rests : mg "told_rests" = some (.ref f_told_rests)
  f_rests : Addr
  fd_rests : FuncData
  F_rests : FunD K "rests" "rests" (defArgs s_rests) (defBody s_rests) (defScope s_rests) [] [] f_rests fd_rests
  b_rests : Binds K fd_rests ["guesser", "depth", "row"] []
  g_rests : mg "rests" = some (.ref f_rests)
  f_row_of : Addr
  fd_row_of : FuncData
  F_row_of : FunD K "row_of" "row_of" (defArgs s_row_of) (defBody s_row_of) (defScope s_row_of) [] [] f_row_of fd_row_of
  b_row_of : Binds K fd_row_of ["guesser", "depth", "rests"] []
  g_row_of : mg "row_of" = some (.ref f_row_of)
  f_plain_rests : Addr
  fd_plain_rests : FuncData
  F_plain_rests : FunD K "plain_rests" "plain_rests" (defArgs s_plain_rests) (defBody s_plain_rests) (defScope s_plain_rests) [] [] f_plain_rests fd_plain_rests
  b_plain_rests : Binds K fd_plain_rests ["guesser", "row"] []
  g_plain_rests : mg "plain_rests" = some (.ref f_plain_rests)
  f_quotient : Addr
  fd_quotient : FuncData
  F_quotient : FunD K "quotient" "quotient" (defArgs s_quotient) (defBody s_quotient) (defScope s_quotient) [] [] f_quotient fd_quotient
  b_quotient : Binds K fd_quotient ["guesser", "number"] []
  g_quotient : mg "quotient" = some (.ref f_quotient)
  f_same_guess : Addr
  fd_same_guess : FuncData
  F_same_guess : FunD K "same_guess" "same_guess" (defArgs s_same_guess) (defBody s_same_guess) (defScope s_same_guess) [] [] f_same_guess fd_same_guess
  b_same_guess : Binds K fd_same_guess ["one", "other"] []
  g_same_guess : mg "same_guess" = some (.ref f_same_guess)
  f_normal : Addr
  fd_normal : FuncData
  F_normal : FunD K "normal" "normal" (defArgs s_normal) (defBody s_normal) (defScope s_normal) [] [] f_normal fd_normal
  b_normal : Binds K fd_normal ["guesser"] []
  g_normal : mg "normal" = some (.ref f_normal)
  f_simplest : Addr
  fd_simplest : FuncData
  F_simplest : FunD K "simplest" "simplest" (defArgs s_simplest) (defBody s_simplest) (defScope s_simplest) [] [] f_simplest fd_simplest
  b_simplest : Binds K fd_simplest ["low", "high"] []
  g_simplest : mg "simplest" = some (.ref f_simplest)
  f_parting_sample : Addr
  fd_parting_sample : FuncData
  F_parting_sample : FunD K "parting_sample" "parting_sample" (defArgs s_parting_sample) (defBody s_parting_sample) (defScope s_parting_sample) [] [] f_parting_sample fd_parting_sample
  b_parting_sample : Binds K fd_parting_sample ["one", "other"] []
  g_parting_sample : mg "parting_sample" = some (.ref f_parting_sample)
  f_parting_row : Addr
  fd_parting_row : FuncData
  F_parting_row : FunD K "parting_row" "parting_row" (defArgs s_parting_row) (defBody s_parting_row) (defScope s_parting_row) [] [] f_parting_row fd_parting_row
  b_parting_row : Binds K fd_parting_row ["one", "other"] []
  g_parting_row : mg "parting_row" = some (.ref f_parting_row)
  f_ends : Addr
  fd_ends : FuncData
  F_ends : FunD K "ends" "ends" (defArgs s_ends) (defBody s_ends) (defScope s_ends) [] [] f_ends fd_ends
  b_ends : Binds K fd_ends ["guesser", "depth", "sign"] []
  g_ends : mg "ends" = some (.ref f_ends)
  f_bound_rows : Addr
  fd_bound_rows : FuncData
  F_bound_rows : FunD K "bound_rows" "bound_rows" (defArgs s_bound_rows) (defBody s_bound_rows) (defScope s_bound_rows) [] [] f_bound_rows fd_bound_rows
  b_bound_rows : Binds K fd_bound_rows ["guesser", "depth"] []
  g_bound_rows : mg "bound_rows" = some (.ref f_bound_rows)
  f_bounds : Addr
  fd_bounds : FuncData
  F_bounds : FunD K "bounds" "bounds" (defArgs s_bounds) (defBody s_bounds) (defScope s_bounds) [] [] f_bounds fd_bounds
  b_bounds : Binds K fd_bounds ["guesser", "depth"] []
  g_bounds : mg "bounds" = some (.ref f_bounds)
  f_bits_enough : Addr
  fd_bits_enough : FuncData
  F_bits_enough : FunD K "bits_enough" "bits_enough" (defArgs s_bits_enough) (defBody s_bits_enough) (defScope s_bits_enough) [] [] f_bits_enough fd_bits_enough
  b_bits_enough : Binds K fd_bits_enough ["guesser", "depth"] []
  g_bits_enough : mg "bits_enough" = some (.ref f_bits_enough)
  f_times_sum : Addr
  fd_times_sum : FuncData
  F_times_sum : FunD K "times_sum" "times_sum" (defArgs s_times_sum) (defBody s_times_sum) (defScope s_times_sum) [] [] f_times_sum fd_times_sum
  b_times_sum : Binds K fd_times_sum ["one", "other"] []
  g_times_sum : mg "times_sum" = some (.ref f_times_sum)
  f_tells : Addr
  fd_tells : FuncData
  F_tells : FunD K "tells" "tells" (defArgs s_tells) (defBody s_tells) (defScope s_tells) [] [] f_tells fd_tells
  b_tells : Binds K fd_tells ["guesser", "row"] []
  g_tells : mg "tells" = some (.ref f_tells)
  f_hangs : Addr
  fd_hangs : FuncData
  F_hangs : FunD K "hangs" "hangs" (defArgs s_hangs) (defBody s_hangs) (defScope s_hangs) [] [] f_hangs fd_hangs
  b_hangs : Binds K fd_hangs ["guesser", "depth", "row", "place"] []
  g_hangs : mg "hangs" = some (.ref f_hangs)
  f_law_cell : Addr
  fd_law_cell : FuncData
  F_law_cell : FunD K "_law_cell" "_law_cell" (defArgs s_law_cell) (defBody s_law_cell) (defScope s_law_cell) [] [] f_law_cell fd_law_cell
  b_law_cell : Binds K fd_law_cell ["_law_script", "_law_index"] []
  g_law_cell : mg "_law_cell" = some (.ref f_law_cell)
  f_law_hash : Addr
  fd_law_hash : FuncData
  F_law_hash : FunD K "_law_hash" "_law_hash" (defArgs s_law_hash) (defBody s_law_hash) (defScope s_law_hash) [] [] f_law_hash fd_law_hash
  b_law_hash : Binds K fd_law_hash ["_law_seed", "_law_index"] []
  g_law_hash : mg "_law_hash" = some (.ref f_law_hash)
  f_law_generator : Addr
  fd_law_generator : FuncData
  F_law_generator : FunD K "_law_generator" "_law_generator" (defArgs s_law_generator) (defBody s_law_generator) (defScope s_law_generator) [] [] f_law_generator fd_law_generator
  b_law_generator : Binds K fd_law_generator ["_law_script", "_law_index"] []
  g_law_generator : mg "_law_generator" = some (.ref f_law_generator)
  f_law_random : Addr
  fd_law_random : FuncData
  F_law_random : FunD K "_law_random" "_law_random" (defArgs s_law_random) (defBody s_law_random) (defScope s_law_random) [] [] f_law_random fd_law_random
  b_law_random : Binds K fd_law_random ["_law_generator_here", "_law_bound"] []
  g_law_random : mg "_law_random" = some (.ref f_law_random)
  f_law_sample : Addr
  fd_law_sample : FuncData
  F_law_sample : FunD K "_law_sample" "_law_sample" (defArgs s_law_sample) (defBody s_law_sample) (defScope s_law_sample) [] [] f_law_sample fd_law_sample
  b_law_sample : Binds K fd_law_sample ["_law_generator_here", "_law_depth"] []
  g_law_sample : mg "_law_sample" = some (.ref f_law_sample)
  f_law_row : Addr
  fd_law_row : FuncData
  F_law_row : FunD K "_law_row" "_law_row" (defArgs s_law_row) (defBody s_law_row) (defScope s_law_row) [] [] f_law_row fd_law_row
  b_law_row : Binds K fd_law_row ["_law_generator_here", "_law_depth", "_law_many"] []
  g_law_row : mg "_law_row" = some (.ref f_law_row)
  f_law_weights : Addr
  fd_law_weights : FuncData
  F_law_weights : FunD K "_law_weights" "_law_weights" (defArgs s_law_weights) (defBody s_law_weights) (defScope s_law_weights) [] [] f_law_weights fd_law_weights
  b_law_weights : Binds K fd_law_weights ["_law_generator_here", "_law_many"] []
  g_law_weights : mg "_law_weights" = some (.ref f_law_weights)
  f_law_guess : Addr
  fd_law_guess : FuncData
  F_law_guess : FunD K "_law_guess" "_law_guess" (defArgs s_law_guess) (defBody s_law_guess) (defScope s_law_guess) [] [] f_law_guess fd_law_guess
  b_law_guess : Binds K fd_law_guess ["_law_weights_here", "_law_shift", "_law_before"] []
  g_law_guess : mg "_law_guess" = some (.ref f_law_guess)
  f_law_plain : Addr
  fd_law_plain : FuncData
  F_law_plain : FunD K "_law_plain" "_law_plain" (defArgs s_law_plain) (defBody s_law_plain) (defScope s_law_plain) [] [] f_law_plain fd_law_plain
  b_law_plain : Binds K fd_law_plain ["_law_weights_here", "_law_shift", "_law_row_here"] []
  g_law_plain : mg "_law_plain" = some (.ref f_law_plain)
  f_law_hangs_right : Addr
  fd_law_hangs_right : FuncData
  F_law_hangs_right : FunD K "_law_hangs_right" "_law_hangs_right" (defArgs s_law_hangs_right) (defBody s_law_hangs_right) (defScope s_law_hangs_right) [] [] f_law_hangs_right fd_law_hangs_right
  b_law_hangs_right : Binds K fd_law_hangs_right ["_law_generator_here", "_law_weights_here", "_law_shift"] []
  g_law_hangs_right : mg "_law_hangs_right" = some (.ref f_law_hangs_right)
  f_law_tells_right : Addr
  fd_law_tells_right : FuncData
  F_law_tells_right : FunD K "_law_tells_right" "_law_tells_right" (defArgs s_law_tells_right) (defBody s_law_tells_right) (defScope s_law_tells_right) [] [] f_law_tells_right fd_law_tells_right
  b_law_tells_right : Binds K fd_law_tells_right ["_law_generator_here", "_law_weights_here", "_law_shift"] []
  g_law_tells_right : mg "_law_tells_right" = some (.ref f_law_tells_right)
  f_law_caught : Addr
  fd_law_caught : FuncData
  F_law_caught : FunD K "_law_caught" "_law_caught" (defArgs s_law_caught) (defBody s_law_caught) (defScope s_law_caught) [] [] f_law_caught fd_law_caught
  b_law_caught : Binds K fd_law_caught ["_law_door", "_law_one", "_law_two", "_law_three", "_law_four"] []
  g_law_caught : mg "_law_caught" = some (.ref f_law_caught)
  f_law_made_right : Addr
  fd_law_made_right : FuncData
  F_law_made_right : FunD K "_law_made_right" "_law_made_right" (defArgs s_law_made_right) (defBody s_law_made_right) (defScope s_law_made_right) [] [] f_law_made_right fd_law_made_right
  b_law_made_right : Binds K fd_law_made_right [] []
  g_law_made_right : mg "_law_made_right" = some (.ref f_law_made_right)
  f_law_doors_right : Addr
  fd_law_doors_right : FuncData
  F_law_doors_right : FunD K "_law_doors_right" "_law_doors_right" (defArgs s_law_doors_right) (defBody s_law_doors_right) (defScope s_law_doors_right) [] [] f_law_doors_right fd_law_doors_right
  b_law_doors_right : Binds K fd_law_doors_right ["_law_guesser"] []
  g_law_doors_right : mg "_law_doors_right" = some (.ref f_law_doors_right)
  f_law : Addr
  fd_law : FuncData
  F_law : FunD K "law" "law" (defArgs s_law) (defBody s_law) (defScope s_law) [] [] f_law fd_law
  b_law : Binds K fd_law ["_law_script"] []
  g_law : mg "law" = some (.ref f_law)
  f_Guesser___init__ : Addr
  fd_Guesser___init__ : FuncData
  F_Guesser___init__ : FunD K "__init__" "Guesser.__init__" (defArgs s_Guesser___init__) (defBody s_Guesser___init__) (defScope s_Guesser___init__) [] [] f_Guesser___init__ fd_Guesser___init__
  b_Guesser___init__ : Binds K fd_Guesser___init__ ["self", "weights", "shift"] []
  me_Guesser___init__ : Meth K C_Guesser "__init__" f_Guesser___init__
  mk_Guesser : Mk K C_Guesser f_Guesser___init__
  C_InvalidNumber : Addr
  gc_InvalidNumber : mg "InvalidNumber" = some (.ref C_InvalidNumber)
  fi_InvalidNumber : Addr
  fd_InvalidNumber : FuncData
  er_InvalidNumber : ErrC K fileS "InvalidNumber" s_InvalidNumber___init__ C_InvalidNumber fi_InvalidNumber fd_InvalidNumber
  C_InvalidDepth : Addr
  gc_InvalidDepth : mg "InvalidDepth" = some (.ref C_InvalidDepth)
  fi_InvalidDepth : Addr
  fd_InvalidDepth : FuncData
  er_InvalidDepth : ErrC K fileS "InvalidDepth" s_InvalidDepth___init__ C_InvalidDepth fi_InvalidDepth fd_InvalidDepth
  C_InvalidRow : Addr
  gc_InvalidRow : mg "InvalidRow" = some (.ref C_InvalidRow)
  fi_InvalidRow : Addr
  fd_InvalidRow : FuncData
  er_InvalidRow : ErrC K fileS "InvalidRow" s_InvalidRow___init__ C_InvalidRow fi_InvalidRow fd_InvalidRow
  C_InvalidGuesser : Addr
  gc_InvalidGuesser : mg "InvalidGuesser" = some (.ref C_InvalidGuesser)
  fi_InvalidGuesser : Addr
  fd_InvalidGuesser : FuncData
  er_InvalidGuesser : ErrC K fileS "InvalidGuesser" s_InvalidGuesser___init__ C_InvalidGuesser fi_InvalidGuesser fd_InvalidGuesser
  C_InvalidList : Addr
  gc_InvalidList : mg "InvalidList" = some (.ref C_InvalidList)
  fi_InvalidList : Addr
  fd_InvalidList : FuncData
  er_InvalidList : ErrC K fileS "InvalidList" s_InvalidList___init__ C_InvalidList fi_InvalidList fd_InvalidList
  C_InvalidItem : Addr
  gc_InvalidItem : mg "InvalidItem" = some (.ref C_InvalidItem)
  fi_InvalidItem : Addr
  fd_InvalidItem : FuncData
  er_InvalidItem : ErrC K fileS "InvalidItem" s_InvalidItem___init__ C_InvalidItem fi_InvalidItem fd_InvalidItem
  C_SoundError : Addr
  gc_SoundError : mg "SoundError" = some (.ref C_SoundError)
  em_InvalidNumber_SoundError : PySem.W.exmOne K (.ref C_InvalidNumber) (.ref C_SoundError) = some true
  em_InvalidNumber_InvalidList : PySem.W.exmOne K (.ref C_InvalidNumber) (.ref C_InvalidList) = some false
  em_InvalidNumber_InvalidItem : PySem.W.exmOne K (.ref C_InvalidNumber) (.ref C_InvalidItem) = some false
  em_InvalidNumber_InvalidNumber : PySem.W.exmOne K (.ref C_InvalidNumber) (.ref C_InvalidNumber) = some true
  em_InvalidNumber_InvalidGuesser : PySem.W.exmOne K (.ref C_InvalidNumber) (.ref C_InvalidGuesser) = some false
  em_InvalidNumber_InvalidDepth : PySem.W.exmOne K (.ref C_InvalidNumber) (.ref C_InvalidDepth) = some false
  em_InvalidNumber_InvalidRow : PySem.W.exmOne K (.ref C_InvalidNumber) (.ref C_InvalidRow) = some false
  em_InvalidDepth_SoundError : PySem.W.exmOne K (.ref C_InvalidDepth) (.ref C_SoundError) = some true
  em_InvalidDepth_InvalidList : PySem.W.exmOne K (.ref C_InvalidDepth) (.ref C_InvalidList) = some false
  em_InvalidDepth_InvalidItem : PySem.W.exmOne K (.ref C_InvalidDepth) (.ref C_InvalidItem) = some false
  em_InvalidDepth_InvalidNumber : PySem.W.exmOne K (.ref C_InvalidDepth) (.ref C_InvalidNumber) = some false
  em_InvalidDepth_InvalidGuesser : PySem.W.exmOne K (.ref C_InvalidDepth) (.ref C_InvalidGuesser) = some false
  em_InvalidDepth_InvalidDepth : PySem.W.exmOne K (.ref C_InvalidDepth) (.ref C_InvalidDepth) = some true
  em_InvalidDepth_InvalidRow : PySem.W.exmOne K (.ref C_InvalidDepth) (.ref C_InvalidRow) = some false
  em_InvalidRow_SoundError : PySem.W.exmOne K (.ref C_InvalidRow) (.ref C_SoundError) = some true
  em_InvalidRow_InvalidList : PySem.W.exmOne K (.ref C_InvalidRow) (.ref C_InvalidList) = some false
  em_InvalidRow_InvalidItem : PySem.W.exmOne K (.ref C_InvalidRow) (.ref C_InvalidItem) = some false
  em_InvalidRow_InvalidNumber : PySem.W.exmOne K (.ref C_InvalidRow) (.ref C_InvalidNumber) = some false
  em_InvalidRow_InvalidGuesser : PySem.W.exmOne K (.ref C_InvalidRow) (.ref C_InvalidGuesser) = some false
  em_InvalidRow_InvalidDepth : PySem.W.exmOne K (.ref C_InvalidRow) (.ref C_InvalidDepth) = some false
  em_InvalidRow_InvalidRow : PySem.W.exmOne K (.ref C_InvalidRow) (.ref C_InvalidRow) = some true
  em_InvalidGuesser_SoundError : PySem.W.exmOne K (.ref C_InvalidGuesser) (.ref C_SoundError) = some true
  em_InvalidGuesser_InvalidList : PySem.W.exmOne K (.ref C_InvalidGuesser) (.ref C_InvalidList) = some false
  em_InvalidGuesser_InvalidItem : PySem.W.exmOne K (.ref C_InvalidGuesser) (.ref C_InvalidItem) = some false
  em_InvalidGuesser_InvalidNumber : PySem.W.exmOne K (.ref C_InvalidGuesser) (.ref C_InvalidNumber) = some false
  em_InvalidGuesser_InvalidGuesser : PySem.W.exmOne K (.ref C_InvalidGuesser) (.ref C_InvalidGuesser) = some true
  em_InvalidGuesser_InvalidDepth : PySem.W.exmOne K (.ref C_InvalidGuesser) (.ref C_InvalidDepth) = some false
  em_InvalidGuesser_InvalidRow : PySem.W.exmOne K (.ref C_InvalidGuesser) (.ref C_InvalidRow) = some false
  em_InvalidList_SoundError : PySem.W.exmOne K (.ref C_InvalidList) (.ref C_SoundError) = some true
  em_InvalidList_InvalidList : PySem.W.exmOne K (.ref C_InvalidList) (.ref C_InvalidList) = some true
  em_InvalidList_InvalidItem : PySem.W.exmOne K (.ref C_InvalidList) (.ref C_InvalidItem) = some false
  em_InvalidList_InvalidNumber : PySem.W.exmOne K (.ref C_InvalidList) (.ref C_InvalidNumber) = some false
  em_InvalidList_InvalidGuesser : PySem.W.exmOne K (.ref C_InvalidList) (.ref C_InvalidGuesser) = some false
  em_InvalidList_InvalidDepth : PySem.W.exmOne K (.ref C_InvalidList) (.ref C_InvalidDepth) = some false
  em_InvalidList_InvalidRow : PySem.W.exmOne K (.ref C_InvalidList) (.ref C_InvalidRow) = some false
  em_InvalidItem_SoundError : PySem.W.exmOne K (.ref C_InvalidItem) (.ref C_SoundError) = some true
  em_InvalidItem_InvalidList : PySem.W.exmOne K (.ref C_InvalidItem) (.ref C_InvalidList) = some false
  em_InvalidItem_InvalidItem : PySem.W.exmOne K (.ref C_InvalidItem) (.ref C_InvalidItem) = some true
  em_InvalidItem_InvalidNumber : PySem.W.exmOne K (.ref C_InvalidItem) (.ref C_InvalidNumber) = some false
  em_InvalidItem_InvalidGuesser : PySem.W.exmOne K (.ref C_InvalidItem) (.ref C_InvalidGuesser) = some false
  em_InvalidItem_InvalidDepth : PySem.W.exmOne K (.ref C_InvalidItem) (.ref C_InvalidDepth) = some false
  em_InvalidItem_InvalidRow : PySem.W.exmOne K (.ref C_InvalidItem) (.ref C_InvalidRow) = some false
  ki_InvalidNumber_SoundError : PySem.W.kitOne K (.ref C_InvalidNumber) (.ref C_SoundError) = some true
  ki_InvalidNumber_InvalidList : PySem.W.kitOne K (.ref C_InvalidNumber) (.ref C_InvalidList) = some false
  ki_InvalidNumber_InvalidItem : PySem.W.kitOne K (.ref C_InvalidNumber) (.ref C_InvalidItem) = some false
  ki_InvalidNumber_InvalidNumber : PySem.W.kitOne K (.ref C_InvalidNumber) (.ref C_InvalidNumber) = some true
  ki_InvalidNumber_InvalidGuesser : PySem.W.kitOne K (.ref C_InvalidNumber) (.ref C_InvalidGuesser) = some false
  ki_InvalidNumber_InvalidDepth : PySem.W.kitOne K (.ref C_InvalidNumber) (.ref C_InvalidDepth) = some false
  ki_InvalidNumber_InvalidRow : PySem.W.kitOne K (.ref C_InvalidNumber) (.ref C_InvalidRow) = some false
  ki_InvalidDepth_SoundError : PySem.W.kitOne K (.ref C_InvalidDepth) (.ref C_SoundError) = some true
  ki_InvalidDepth_InvalidList : PySem.W.kitOne K (.ref C_InvalidDepth) (.ref C_InvalidList) = some false
  ki_InvalidDepth_InvalidItem : PySem.W.kitOne K (.ref C_InvalidDepth) (.ref C_InvalidItem) = some false
  ki_InvalidDepth_InvalidNumber : PySem.W.kitOne K (.ref C_InvalidDepth) (.ref C_InvalidNumber) = some false
  ki_InvalidDepth_InvalidGuesser : PySem.W.kitOne K (.ref C_InvalidDepth) (.ref C_InvalidGuesser) = some false
  ki_InvalidDepth_InvalidDepth : PySem.W.kitOne K (.ref C_InvalidDepth) (.ref C_InvalidDepth) = some true
  ki_InvalidDepth_InvalidRow : PySem.W.kitOne K (.ref C_InvalidDepth) (.ref C_InvalidRow) = some false
  ki_InvalidRow_SoundError : PySem.W.kitOne K (.ref C_InvalidRow) (.ref C_SoundError) = some true
  ki_InvalidRow_InvalidList : PySem.W.kitOne K (.ref C_InvalidRow) (.ref C_InvalidList) = some false
  ki_InvalidRow_InvalidItem : PySem.W.kitOne K (.ref C_InvalidRow) (.ref C_InvalidItem) = some false
  ki_InvalidRow_InvalidNumber : PySem.W.kitOne K (.ref C_InvalidRow) (.ref C_InvalidNumber) = some false
  ki_InvalidRow_InvalidGuesser : PySem.W.kitOne K (.ref C_InvalidRow) (.ref C_InvalidGuesser) = some false
  ki_InvalidRow_InvalidDepth : PySem.W.kitOne K (.ref C_InvalidRow) (.ref C_InvalidDepth) = some false
  ki_InvalidRow_InvalidRow : PySem.W.kitOne K (.ref C_InvalidRow) (.ref C_InvalidRow) = some true
  ki_InvalidGuesser_SoundError : PySem.W.kitOne K (.ref C_InvalidGuesser) (.ref C_SoundError) = some true
  ki_InvalidGuesser_InvalidList : PySem.W.kitOne K (.ref C_InvalidGuesser) (.ref C_InvalidList) = some false
  ki_InvalidGuesser_InvalidItem : PySem.W.kitOne K (.ref C_InvalidGuesser) (.ref C_InvalidItem) = some false
  ki_InvalidGuesser_InvalidNumber : PySem.W.kitOne K (.ref C_InvalidGuesser) (.ref C_InvalidNumber) = some false
  ki_InvalidGuesser_InvalidGuesser : PySem.W.kitOne K (.ref C_InvalidGuesser) (.ref C_InvalidGuesser) = some true
  ki_InvalidGuesser_InvalidDepth : PySem.W.kitOne K (.ref C_InvalidGuesser) (.ref C_InvalidDepth) = some false
  ki_InvalidGuesser_InvalidRow : PySem.W.kitOne K (.ref C_InvalidGuesser) (.ref C_InvalidRow) = some false
  ki_InvalidList_SoundError : PySem.W.kitOne K (.ref C_InvalidList) (.ref C_SoundError) = some true
  ki_InvalidList_InvalidList : PySem.W.kitOne K (.ref C_InvalidList) (.ref C_InvalidList) = some true
  ki_InvalidList_InvalidItem : PySem.W.kitOne K (.ref C_InvalidList) (.ref C_InvalidItem) = some false
  ki_InvalidList_InvalidNumber : PySem.W.kitOne K (.ref C_InvalidList) (.ref C_InvalidNumber) = some false
  ki_InvalidList_InvalidGuesser : PySem.W.kitOne K (.ref C_InvalidList) (.ref C_InvalidGuesser) = some false
  ki_InvalidList_InvalidDepth : PySem.W.kitOne K (.ref C_InvalidList) (.ref C_InvalidDepth) = some false
  ki_InvalidList_InvalidRow : PySem.W.kitOne K (.ref C_InvalidList) (.ref C_InvalidRow) = some false
  ki_InvalidItem_SoundError : PySem.W.kitOne K (.ref C_InvalidItem) (.ref C_SoundError) = some true
  ki_InvalidItem_InvalidList : PySem.W.kitOne K (.ref C_InvalidItem) (.ref C_InvalidList) = some false
  ki_InvalidItem_InvalidItem : PySem.W.kitOne K (.ref C_InvalidItem) (.ref C_InvalidItem) = some true
  ki_InvalidItem_InvalidNumber : PySem.W.kitOne K (.ref C_InvalidItem) (.ref C_InvalidNumber) = some false
  ki_InvalidItem_InvalidGuesser : PySem.W.kitOne K (.ref C_InvalidItem) (.ref C_InvalidGuesser) = some false
  ki_InvalidItem_InvalidDepth : PySem.W.kitOne K (.ref C_InvalidItem) (.ref C_InvalidDepth) = some false
  ki_InvalidItem_InvalidRow : PySem.W.kitOne K (.ref C_InvalidItem) (.ref C_InvalidRow) = some false
  kn_InvalidList : PySem.W.kitOne K (.type "NoneType") (.ref C_InvalidList) = some false
  kn_InvalidItem : PySem.W.kitOne K (.type "NoneType") (.ref C_InvalidItem) = some false
  kn_InvalidNumber : PySem.W.kitOne K (.type "NoneType") (.ref C_InvalidNumber) = some false
  kn_InvalidGuesser : PySem.W.kitOne K (.type "NoneType") (.ref C_InvalidGuesser) = some false
  kn_InvalidDepth : PySem.W.kitOne K (.type "NoneType") (.ref C_InvalidDepth) = some false
  kn_InvalidRow : PySem.W.kitOne K (.type "NoneType") (.ref C_InvalidRow) = some false
  ei_InvalidNumber : ExcI K C_InvalidNumber
  ei_InvalidDepth : ExcI K C_InvalidDepth
  ei_InvalidRow : ExcI K C_InvalidRow
  ei_InvalidGuesser : ExcI K C_InvalidGuesser
  ei_InvalidList : ExcI K C_InvalidList
  ei_InvalidItem : ExcI K C_InvalidItem
  n_len : mg "len" = none
  n_sum : mg "sum" = none
  n_max : mg "max" = none
  n_min : mg "min" = none
  n_int : mg "int" = none
  n_bool : mg "bool" = none
  n_list : mg "list" = none
  n_range : mg "range" = none
  n_isinstance : mg "isinstance" = none
  n_abs : mg "abs" = none
  n_enumerate : mg "enumerate" = none
  n_repr : mg "repr" = none
  n_super : mg "super" = none
  t_MOST_DEPTH_kinds : Tok
  m_MOST_DEPTH_kinds : mg "MOST_DEPTH_kinds" = some (.int 24 t_MOST_DEPTH_kinds)
  t_MOST_ORDER : Tok
  m_MOST_ORDER : mg "MOST_ORDER" = some (.int 8 t_MOST_ORDER)
  t_MOST_WEIGHT : Tok
  m_MOST_WEIGHT : mg "MOST_WEIGHT" = some (.int 32768 t_MOST_WEIGHT)
  t_MOST_SHIFT : Tok
  m_MOST_SHIFT : mg "MOST_SHIFT" = some (.int 15 t_MOST_SHIFT)
  t_MOST_DEPTH_guessers : Tok
  m_MOST_DEPTH_guessers : mg "MOST_DEPTH_guessers" = some (.int 32 t_MOST_DEPTH_guessers)
def d_is_whole : He.DefD := ⟨("is_whole", none), "is_whole", "is_whole", defArgs s_is_whole, defBody s_is_whole, defScope s_is_whole, [], []⟩
def d_is_between : He.DefD := ⟨("is_between", none), "is_between", "is_between", defArgs s_is_between, defBody s_is_between, defScope s_is_between, [], []⟩
def d_are_wholes : He.DefD := ⟨("are_wholes", none), "are_wholes", "are_wholes", defArgs s_are_wholes, defBody s_are_wholes, defScope s_are_wholes, [], []⟩
def d_common_divisor : He.DefD := ⟨("common_divisor", none), "common_divisor", "common_divisor", defArgs s_common_divisor, defBody s_common_divisor, defScope s_common_divisor, [], []⟩
def d_fraction : He.DefD := ⟨("fraction", none), "fraction", "fraction", defArgs s_fraction, defBody s_fraction, defScope s_fraction, [], []⟩
def d_check_depth : He.DefD := ⟨("check_depth", none), "check_depth", "check_depth", defArgs s_check_depth, defBody s_check_depth, defScope s_check_depth, [.int 24], []⟩
def d_is_sample : He.DefD := ⟨("is_sample", none), "is_sample", "is_sample", defArgs s_is_sample, defBody s_is_sample, defScope s_is_sample, [], []⟩
def d_are_samples : He.DefD := ⟨("are_samples", none), "are_samples", "are_samples", defArgs s_are_samples, defBody s_are_samples, defScope s_are_samples, [], []⟩
def d_wrapped : He.DefD := ⟨("wrapped", none), "wrapped", "wrapped", defArgs s_wrapped, defBody s_wrapped, defScope s_wrapped, [], []⟩
def d_check_guesser : He.DefD := ⟨("check_guesser", none), "check_guesser", "check_guesser", defArgs s_check_guesser, defBody s_check_guesser, defScope s_check_guesser, [], []⟩
def d_check_row : He.DefD := ⟨("check_row", none), "check_row", "check_row", defArgs s_check_row, defBody s_check_row, defScope s_check_row, [], []⟩
def d_sum_before : He.DefD := ⟨("sum_before", none), "sum_before", "sum_before", defArgs s_sum_before, defBody s_sum_before, defScope s_sum_before, [], []⟩
def d_guess_behind : He.DefD := ⟨("guess_behind", none), "guess_behind", "guess_behind", defArgs s_guess_behind, defBody s_guess_behind, defScope s_guess_behind, [], []⟩
def d_guess : He.DefD := ⟨("guess", none), "guess", "guess", defArgs s_guess, defBody s_guess, defScope s_guess, [], []⟩
def d_steps : He.DefD := ⟨("steps", none), "steps", "steps", defArgs s_steps, defBody s_steps, defScope s_steps, [], []⟩
def d_told_rests : He.DefD := ⟨("told_rests", none), "told_rests", "told_rests", defArgs s_told_rests, defBody s_told_rests, defScope s_told_rests, [], []⟩
def d_rests : He.DefD := ⟨("rests", none), "rests", "rests", defArgs s_rests, defBody s_rests, defScope s_rests, [], []⟩
def d_row_of : He.DefD := ⟨("row_of", none), "row_of", "row_of", defArgs s_row_of, defBody s_row_of, defScope s_row_of, [], []⟩
def d_plain_rests : He.DefD := ⟨("plain_rests", none), "plain_rests", "plain_rests", defArgs s_plain_rests, defBody s_plain_rests, defScope s_plain_rests, [], []⟩
def d_quotient : He.DefD := ⟨("quotient", none), "quotient", "quotient", defArgs s_quotient, defBody s_quotient, defScope s_quotient, [], []⟩
def d_same_guess : He.DefD := ⟨("same_guess", none), "same_guess", "same_guess", defArgs s_same_guess, defBody s_same_guess, defScope s_same_guess, [], []⟩
def d_normal : He.DefD := ⟨("normal", none), "normal", "normal", defArgs s_normal, defBody s_normal, defScope s_normal, [], []⟩
def d_simplest : He.DefD := ⟨("simplest", none), "simplest", "simplest", defArgs s_simplest, defBody s_simplest, defScope s_simplest, [], []⟩
def d_parting_sample : He.DefD := ⟨("parting_sample", none), "parting_sample", "parting_sample", defArgs s_parting_sample, defBody s_parting_sample, defScope s_parting_sample, [], []⟩
def d_parting_row : He.DefD := ⟨("parting_row", none), "parting_row", "parting_row", defArgs s_parting_row, defBody s_parting_row, defScope s_parting_row, [], []⟩
def d_ends : He.DefD := ⟨("ends", none), "ends", "ends", defArgs s_ends, defBody s_ends, defScope s_ends, [], []⟩
def d_bound_rows : He.DefD := ⟨("bound_rows", none), "bound_rows", "bound_rows", defArgs s_bound_rows, defBody s_bound_rows, defScope s_bound_rows, [], []⟩
def d_bounds : He.DefD := ⟨("bounds", none), "bounds", "bounds", defArgs s_bounds, defBody s_bounds, defScope s_bounds, [], []⟩
def d_bits_enough : He.DefD := ⟨("bits_enough", none), "bits_enough", "bits_enough", defArgs s_bits_enough, defBody s_bits_enough, defScope s_bits_enough, [], []⟩
def d_times_sum : He.DefD := ⟨("times_sum", none), "times_sum", "times_sum", defArgs s_times_sum, defBody s_times_sum, defScope s_times_sum, [], []⟩
def d_tells : He.DefD := ⟨("tells", none), "tells", "tells", defArgs s_tells, defBody s_tells, defScope s_tells, [], []⟩
def d_hangs : He.DefD := ⟨("hangs", none), "hangs", "hangs", defArgs s_hangs, defBody s_hangs, defScope s_hangs, [], []⟩
def d_law_cell : He.DefD := ⟨("_law_cell", none), "_law_cell", "_law_cell", defArgs s_law_cell, defBody s_law_cell, defScope s_law_cell, [], []⟩
def d_law_hash : He.DefD := ⟨("_law_hash", none), "_law_hash", "_law_hash", defArgs s_law_hash, defBody s_law_hash, defScope s_law_hash, [], []⟩
def d_law_generator : He.DefD := ⟨("_law_generator", none), "_law_generator", "_law_generator", defArgs s_law_generator, defBody s_law_generator, defScope s_law_generator, [], []⟩
def d_law_random : He.DefD := ⟨("_law_random", none), "_law_random", "_law_random", defArgs s_law_random, defBody s_law_random, defScope s_law_random, [], []⟩
def d_law_sample : He.DefD := ⟨("_law_sample", none), "_law_sample", "_law_sample", defArgs s_law_sample, defBody s_law_sample, defScope s_law_sample, [], []⟩
def d_law_row : He.DefD := ⟨("_law_row", none), "_law_row", "_law_row", defArgs s_law_row, defBody s_law_row, defScope s_law_row, [], []⟩
def d_law_weights : He.DefD := ⟨("_law_weights", none), "_law_weights", "_law_weights", defArgs s_law_weights, defBody s_law_weights, defScope s_law_weights, [], []⟩
def d_law_guess : He.DefD := ⟨("_law_guess", none), "_law_guess", "_law_guess", defArgs s_law_guess, defBody s_law_guess, defScope s_law_guess, [], []⟩
def d_law_plain : He.DefD := ⟨("_law_plain", none), "_law_plain", "_law_plain", defArgs s_law_plain, defBody s_law_plain, defScope s_law_plain, [], []⟩
def d_law_hangs_right : He.DefD := ⟨("_law_hangs_right", none), "_law_hangs_right", "_law_hangs_right", defArgs s_law_hangs_right, defBody s_law_hangs_right, defScope s_law_hangs_right, [], []⟩
def d_law_tells_right : He.DefD := ⟨("_law_tells_right", none), "_law_tells_right", "_law_tells_right", defArgs s_law_tells_right, defBody s_law_tells_right, defScope s_law_tells_right, [], []⟩
def d_law_caught : He.DefD := ⟨("_law_caught", none), "_law_caught", "_law_caught", defArgs s_law_caught, defBody s_law_caught, defScope s_law_caught, [], []⟩
def d_law_made_right : He.DefD := ⟨("_law_made_right", none), "_law_made_right", "_law_made_right", defArgs s_law_made_right, defBody s_law_made_right, defScope s_law_made_right, [], []⟩
def d_law_doors_right : He.DefD := ⟨("_law_doors_right", none), "_law_doors_right", "_law_doors_right", defArgs s_law_doors_right, defBody s_law_doors_right, defScope s_law_doors_right, [], []⟩
def d_law : He.DefD := ⟨("law", none), "law", "law", defArgs s_law, defBody s_law, defScope s_law, [], []⟩
def d_Guesser___init__ : He.DefD := ⟨("Guesser", some "__init__"), "__init__", "Guesser.__init__", defArgs s_Guesser___init__, defBody s_Guesser___init__, defScope s_Guesser___init__, [], []⟩
def fn : List He.DefD := [d_is_whole, d_is_between, d_are_wholes, d_common_divisor, d_fraction, d_check_depth, d_is_sample, d_are_samples, d_wrapped, d_check_guesser, d_check_row, d_sum_before, d_guess_behind, d_guess, d_steps, d_told_rests, d_rests, d_row_of, d_plain_rests, d_quotient, d_same_guess, d_normal, d_simplest, d_parting_sample, d_parting_row, d_ends, d_bound_rows, d_bounds, d_bits_enough, d_times_sum, d_tells, d_hangs, d_law_cell, d_law_hash, d_law_generator, d_law_random, d_law_sample, d_law_row, d_law_weights, d_law_guess, d_law_plain, d_law_hangs_right, d_law_tells_right, d_law_caught, d_law_made_right, d_law_doors_right, d_law, d_Guesser___init__]
def fa0 : List He.Fa := [.glo "is_whole", .glo "is_between", .glo "are_wholes", .glo "common_divisor", .glo "fraction", .glo "check_depth", .glo "is_sample", .glo "are_samples", .glo "wrapped", .glo "check_guesser", .glo "check_row", .glo "sum_before", .glo "guess_behind", .glo "guess", .glo "steps", .glo "told_rests", .glo "rests", .glo "row_of", .glo "plain_rests", .glo "quotient", .glo "same_guess", .glo "normal", .glo "simplest", .glo "parting_sample", .glo "parting_row", .glo "ends", .glo "bound_rows", .glo "bounds", .glo "bits_enough", .glo "times_sum"]
def fa1 : List He.Fa := [.glo "tells", .glo "hangs", .glo "_law_cell", .glo "_law_hash", .glo "_law_generator", .glo "_law_random", .glo "_law_sample", .glo "_law_row", .glo "_law_weights", .glo "_law_guess", .glo "_law_plain", .glo "_law_hangs_right", .glo "_law_tells_right", .glo "_law_caught", .glo "_law_made_right", .glo "_law_doors_right", .glo "law", .free "len", .free "sum", .free "max", .free "min", .free "int", .free "bool", .free "list", .free "range", .free "isinstance", .free "abs", .free "enumerate", .free "repr", .free "super"]
def fa2 : List He.Fa := [.int "MOST_DEPTH_kinds" 24, .int "MOST_ORDER" 8, .int "MOST_WEIGHT" 32768, .int "MOST_SHIFT" 15, .int "MOST_DEPTH_guessers" 32, .glo "Guesser", .cls "Guesser", .noat "Guesser" "parts", .noat "Guesser" "down", .mkr "Guesser", .meth "Guesser" "__init__", .glo "InvalidNumber", .glo "InvalidDepth", .glo "InvalidRow", .glo "InvalidGuesser", .glo "InvalidList", .glo "InvalidItem", .glo "SoundError"]
def fa : List He.Fa := fa0 ++ fa1 ++ fa2
/-- isinstance of an own class -/
def insB (K : PySem.W.Frag) (x : Str) : Bool := decide (PySem.W.findIn K (.ref (He.ga K x)) "__class__" = some (some (.builtin "object.__class__"))) && (decide (PySem.W.specialIn K (.builtin "object.__class__") "__get__" = some (some (.builtin "getset_descriptor.__get__"))) && (decide (PySem.W.takesIn K (.builtin "object.__class__") = some true) && (decide (PySem.W.mroIn K (He.ga K x) (.type "object") = some true) && (decide (PySem.W.kitOne K (.ref (He.ga K x)) (.ref (He.ga K x)) = some true) && notTys.all fun T => decide (PySem.W.kitOne K (.type T) (.ref (He.ga K x)) = some false)))))
theorem insB_ok {K : PySem.W.Frag} {x : Str} (cl : Cls K (He.ga K x)) (h : insB K x = true) : C8.InsC K (He.ga K x) := by
  unfold insB at h
  simp only [Bool.and_eq_true, decide_eq_true_eq] at h
  exact ⟨cl, h.1, h.2.1, h.2.2.1, h.2.2.2.1, h.2.2.2.2.1⟩
theorem insN_ok {K : PySem.W.Frag} {x : Str} (h : insB K x = true) : ∀ T ∈ notTys, PySem.W.kitOne K (.type T) (.ref (He.ga K x)) = some false := by
  intro T hT
  unfold insB at h
  simp only [Bool.and_eq_true] at h
  exact of_decide_eq_true (List.all_eq_true.mp h.2.2.2.2.2 T hT)
def eqB (K : PySem.W.Frag) (x : Str) : Bool := decide (PySem.W.findIn K (.ref (He.ga K x)) "__ne__" = some (some (.builtin "object.__ne__"))) && (decide (PySem.W.subIn K (.ref (He.ga K x)) (.type "object") = some true) && (decide (PySem.W.subIn K (.type "list") (.ref (He.ga K x)) = some false) && (decide (PySem.W.kitOne K (.type "list") (.ref (He.ga K x)) = some false) && (decide (PySem.W.subIn K (.type "tuple") (.ref (He.ga K x)) = some false) && decide (PySem.W.kitOne K (.type "tuple") (.ref (He.ga K x)) = some false)))))
def eqs : List Str := []
def own : List Str := ["Guesser"]
def ex (K : PySem.W.Frag) : Bool := (own.all fun x => insB K x) && eqs.all fun x => eqB K x
abbrev R : PySem.W.OpenRow := PySem.W.OpenLaw.row PySem.Challenge.rw_wholesound_k14_guessers_refused_and_what
def errs : List Str := ["InvalidNumber", "InvalidDepth", "InvalidRow", "InvalidGuesser", "InvalidList", "InvalidItem"]
def ems : List (Str × Str × Bool) := [(("InvalidNumber" : Str), ("SoundError" : Str), true), (("InvalidNumber" : Str), ("InvalidList" : Str), false), (("InvalidNumber" : Str), ("InvalidItem" : Str), false), (("InvalidNumber" : Str), ("InvalidNumber" : Str), true), (("InvalidNumber" : Str), ("InvalidGuesser" : Str), false), (("InvalidNumber" : Str), ("InvalidDepth" : Str), false), (("InvalidNumber" : Str), ("InvalidRow" : Str), false), (("InvalidDepth" : Str), ("SoundError" : Str), true), (("InvalidDepth" : Str), ("InvalidList" : Str), false), (("InvalidDepth" : Str), ("InvalidItem" : Str), false), (("InvalidDepth" : Str), ("InvalidNumber" : Str), false), (("InvalidDepth" : Str), ("InvalidGuesser" : Str), false), (("InvalidDepth" : Str), ("InvalidDepth" : Str), true), (("InvalidDepth" : Str), ("InvalidRow" : Str), false), (("InvalidRow" : Str), ("SoundError" : Str), true), (("InvalidRow" : Str), ("InvalidList" : Str), false), (("InvalidRow" : Str), ("InvalidItem" : Str), false), (("InvalidRow" : Str), ("InvalidNumber" : Str), false), (("InvalidRow" : Str), ("InvalidGuesser" : Str), false), (("InvalidRow" : Str), ("InvalidDepth" : Str), false), (("InvalidRow" : Str), ("InvalidRow" : Str), true), (("InvalidGuesser" : Str), ("SoundError" : Str), true), (("InvalidGuesser" : Str), ("InvalidList" : Str), false), (("InvalidGuesser" : Str), ("InvalidItem" : Str), false), (("InvalidGuesser" : Str), ("InvalidNumber" : Str), false), (("InvalidGuesser" : Str), ("InvalidGuesser" : Str), true), (("InvalidGuesser" : Str), ("InvalidDepth" : Str), false), (("InvalidGuesser" : Str), ("InvalidRow" : Str), false), (("InvalidList" : Str), ("SoundError" : Str), true), (("InvalidList" : Str), ("InvalidList" : Str), true), (("InvalidList" : Str), ("InvalidItem" : Str), false), (("InvalidList" : Str), ("InvalidNumber" : Str), false), (("InvalidList" : Str), ("InvalidGuesser" : Str), false), (("InvalidList" : Str), ("InvalidDepth" : Str), false), (("InvalidList" : Str), ("InvalidRow" : Str), false), (("InvalidItem" : Str), ("SoundError" : Str), true), (("InvalidItem" : Str), ("InvalidList" : Str), false), (("InvalidItem" : Str), ("InvalidItem" : Str), true), (("InvalidItem" : Str), ("InvalidNumber" : Str), false), (("InvalidItem" : Str), ("InvalidGuesser" : Str), false), (("InvalidItem" : Str), ("InvalidDepth" : Str), false), (("InvalidItem" : Str), ("InvalidRow" : Str), false)]
def emB (K : PySem.W.Frag) (z : Str × Str × Bool) : Bool := decide (PySem.W.exmOne K (.ref (He.ga K z.1)) (.ref (He.ga K z.2.1)) = some z.2.2) && (decide (PySem.W.kitOne K (.ref (He.ga K z.1)) (.ref (He.ga K z.2.1)) = some z.2.2) && (decide (PySem.W.kitOne K (.type "NoneType") (.ref (He.ga K z.2.1)) = some false) && (decide (PySem.W.findIn K (.ref (He.ga K z.1)) "__class__" = some (some (.builtin "object.__class__"))) && (decide (PySem.W.specialIn K (.builtin "object.__class__") "__get__" = some (some (.builtin "getset_descriptor.__get__"))) && (decide (PySem.W.takesIn K (.builtin "object.__class__") = some true) && (decide (PySem.W.mroIn K (He.ga K z.1) (.type "object") = some true)))))))
theorem emB_ok {K : PySem.W.Frag} {z : Str × Str × Bool} (h : emB K z = true) : PySem.W.exmOne K (.ref (He.ga K z.1)) (.ref (He.ga K z.2.1)) = some z.2.2 ∧ PySem.W.kitOne K (.ref (He.ga K z.1)) (.ref (He.ga K z.2.1)) = some z.2.2 ∧ PySem.W.kitOne K (.type "NoneType") (.ref (He.ga K z.2.1)) = some false ∧ PySem.W.findIn K (.ref (He.ga K z.1)) "__class__" = some (some (.builtin "object.__class__")) ∧ PySem.W.specialIn K (.builtin "object.__class__") "__get__" = some (some (.builtin "getset_descriptor.__get__")) ∧ PySem.W.takesIn K (.builtin "object.__class__") = some true ∧ PySem.W.mroIn K (He.ga K z.1) (.type "object") = some true := by
  unfold emB at h
  simp only [Bool.and_eq_true, decide_eq_true_eq] at h
  exact h
def erV : List ErW := [some (("__init__" : Str), ("InvalidNumber" : Str) ++ (".__init__" : Str), defArgs s_InvalidNumber___init__, FuncBody.stmts (defBody s_InvalidNumber___init__), defScope s_InvalidNumber___init__, mainGlobals, builtinsNs), some (("__init__" : Str), ("InvalidDepth" : Str) ++ (".__init__" : Str), defArgs s_InvalidDepth___init__, FuncBody.stmts (defBody s_InvalidDepth___init__), defScope s_InvalidDepth___init__, mainGlobals, builtinsNs), some (("__init__" : Str), ("InvalidRow" : Str) ++ (".__init__" : Str), defArgs s_InvalidRow___init__, FuncBody.stmts (defBody s_InvalidRow___init__), defScope s_InvalidRow___init__, mainGlobals, builtinsNs), some (("__init__" : Str), ("InvalidGuesser" : Str) ++ (".__init__" : Str), defArgs s_InvalidGuesser___init__, FuncBody.stmts (defBody s_InvalidGuesser___init__), defScope s_InvalidGuesser___init__, mainGlobals, builtinsNs), some (("__init__" : Str), ("InvalidList" : Str) ++ (".__init__" : Str), defArgs s_InvalidList___init__, FuncBody.stmts (defBody s_InvalidList___init__), defScope s_InvalidList___init__, mainGlobals, builtinsNs), some (("__init__" : Str), ("InvalidItem" : Str) ++ (".__init__" : Str), defArgs s_InvalidItem___init__, FuncBody.stmts (defBody s_InvalidItem___init__), defScope s_InvalidItem___init__, mainGlobals, builtinsNs)]
def exP (K : PySem.W.Frag) : Bool := ex K && ((errs.all fun z => errB K fileS z) && ems.all fun z => emB K z)
def exW (K : PySem.W.Frag) : List ErW := errs.map fun z => erW K z
abbrev Al : Type := He.AlD × Bool × List ErW
def frK (g : Addr → Option Obj) : PySem.W.Frag := He.frG g (cStatics :: He.asD g 5)
def obsG (g : Addr → Option Obj) : Al := (He.obsD fa fn (frK g), exP (frK g), exW (frK g))
def Says (K : PySem.W.Frag) : Prop := He.SaysD fa fn K ∧ ex K = true ∧ (∀ z ∈ errs, errB K fileS z = true) ∧ (∀ z ∈ ems, emB K z = true) ∧ exW K = erV
theorem says_of {K : PySem.W.Frag} (e : (He.obsD fa fn K, exP K, exW K) = ((He.valD fn, true, erV) : Al)) : Says K := by
  have e1 := congrArg Prod.fst e
  have e2 := congrArg (fun z : Al => z.2.1) e
  have e3 := congrArg (fun z : Al => z.2.2) e
  have e4 : ex K = true ∧ ((errs.all fun z => errB K fileS z) && ems.all fun z => emB K z) = true := Bool.and_eq_true_iff.mp (show (ex K && ((errs.all fun z => errB K fileS z) && ems.all fun z => emB K z)) = true from e2)
  have e5 : (errs.all fun z => errB K fileS z) = true ∧ (ems.all fun z => emB K z) = true := Bool.and_eq_true_iff.mp e4.2
  exact ⟨e1, e4.1, List.all_eq_true.mp e5.1, List.all_eq_true.mp e5.2, e3⟩
theorem erV_at {K : PySem.W.Frag} {ps : List Str} {vs : List ErW} (e : (ps.map fun z => erW K z) = vs) (i : Nat) {z : Str} {v : ErW} (hz : ps[i]? = some z) (hv : vs[i]? = some v) : erW K z = v := by
  rw [← e, List.getElem?_map, hz] at hv
  exact Option.some.inj hv
def hk : PySem.W.Hook where
  α := Al
  obs := fun s => obsG s.heap.get?
  val := fun _ => (He.valD fn, true, erV)
  says := fun _ h => ∃ K : PySem.W.Frag, K.In h ∧ Says K
  of := fun _ _ e => ⟨_, He.frG_in, says_of e⟩
  keeps := fun _ _ _ ⟨K, hK, c⟩ k => ⟨K, PySem.W.Frag.In.keeps hK k, c⟩
def ob (s : PySem.W.SharedT) : Al := obsG (HandSHeadRun.getT s)
theorem ob_eq (s : PySem.W.SharedT) : ob s = hk.obs s.abs := by
  have e : HandSHeadRun.getT s = s.abs.heap.get? := funext (HandSHeadRun.getT_eq s)
  show obsG (HandSHeadRun.getT s) = obsG s.abs.heap.get?
  rw [e]
def loose0 : List PySem.Str := ["SoundError", "InvalidNumber", "InvalidDepth", "InvalidList", "InvalidItem", "InvalidRow", "InvalidGuesser", "MOST_DEPTH_kinds", "is_whole", "is_between", "are_wholes", "common_divisor", "fraction", "check_depth", "is_sample", "are_samples", "wrapped", "MOST_ORDER", "MOST_WEIGHT", "MOST_SHIFT", "MOST_DEPTH_guessers", "Guesser", "check_guesser", "check_row", "sum_before", "guess_behind", "guess", "steps", "told_rests", "rests"]
def loose1 : List PySem.Str := ["row_of", "plain_rests", "quotient", "same_guess", "normal", "simplest", "parting_sample", "parting_row", "ends", "bound_rows", "bounds", "bits_enough", "times_sum", "tells", "hangs", "_law_cell", "_law_hash", "_law_generator", "_law_random", "_law_sample", "_law_row", "_law_weights", "_law_guess", "_law_plain", "_law_hangs_right", "_law_tells_right", "_law_caught", "_law_made_right", "_law_doors_right"]
abbrev loose : List PySem.Str := loose0 ++ loose1
theorem run (w : World) : HandSHeadRun.RunEq R (PySem.W.view R.prog [64]) hk ob 8000 loose w := by
  intro os
  kernel_rfl
noncomputable def top_mk {K : PySem.W.Frag} {h : Heap} {mg : Str → Option Value} (X : K.In h) (G : h.Ns mainGlobals mg) (c : Says K) : Top K mg :=
  let p0 := c.1.def_ 0 (d := d_is_whole) rfl
  let p1 := c.1.def_ 1 (d := d_is_between) rfl
  let p2 := c.1.def_ 2 (d := d_are_wholes) rfl
  let p3 := c.1.def_ 3 (d := d_common_divisor) rfl
  let p4 := c.1.def_ 4 (d := d_fraction) rfl
  let p5 := c.1.def_ 5 (d := d_check_depth) rfl
  let p6 := c.1.def_ 6 (d := d_is_sample) rfl
  let p7 := c.1.def_ 7 (d := d_are_samples) rfl
  let p8 := c.1.def_ 8 (d := d_wrapped) rfl
  let p9 := c.1.def_ 9 (d := d_check_guesser) rfl
  let p10 := c.1.def_ 10 (d := d_check_row) rfl
  let p11 := c.1.def_ 11 (d := d_sum_before) rfl
  let p12 := c.1.def_ 12 (d := d_guess_behind) rfl
  let p13 := c.1.def_ 13 (d := d_guess) rfl
  let p14 := c.1.def_ 14 (d := d_steps) rfl
  let p15 := c.1.def_ 15 (d := d_told_rests) rfl
  let p16 := c.1.def_ 16 (d := d_rests) rfl
  let p17 := c.1.def_ 17 (d := d_row_of) rfl
  let p18 := c.1.def_ 18 (d := d_plain_rests) rfl
  let p19 := c.1.def_ 19 (d := d_quotient) rfl
  let p20 := c.1.def_ 20 (d := d_same_guess) rfl
  let p21 := c.1.def_ 21 (d := d_normal) rfl
  let p22 := c.1.def_ 22 (d := d_simplest) rfl
  let p23 := c.1.def_ 23 (d := d_parting_sample) rfl
  let p24 := c.1.def_ 24 (d := d_parting_row) rfl
  let p25 := c.1.def_ 25 (d := d_ends) rfl
  let p26 := c.1.def_ 26 (d := d_bound_rows) rfl
  let p27 := c.1.def_ 27 (d := d_bounds) rfl
  let p28 := c.1.def_ 28 (d := d_bits_enough) rfl
  let p29 := c.1.def_ 29 (d := d_times_sum) rfl
  let p30 := c.1.def_ 30 (d := d_tells) rfl
  let p31 := c.1.def_ 31 (d := d_hangs) rfl
  let p32 := c.1.def_ 32 (d := d_law_cell) rfl
  let p33 := c.1.def_ 33 (d := d_law_hash) rfl
  let p34 := c.1.def_ 34 (d := d_law_generator) rfl
  let p35 := c.1.def_ 35 (d := d_law_random) rfl
  let p36 := c.1.def_ 36 (d := d_law_sample) rfl
  let p37 := c.1.def_ 37 (d := d_law_row) rfl
  let p38 := c.1.def_ 38 (d := d_law_weights) rfl
  let p39 := c.1.def_ 39 (d := d_law_guess) rfl
  let p40 := c.1.def_ 40 (d := d_law_plain) rfl
  let p41 := c.1.def_ 41 (d := d_law_hangs_right) rfl
  let p42 := c.1.def_ 42 (d := d_law_tells_right) rfl
  let p43 := c.1.def_ 43 (d := d_law_caught) rfl
  let p44 := c.1.def_ 44 (d := d_law_made_right) rfl
  let p45 := c.1.def_ 45 (d := d_law_doors_right) rfl
  let p46 := c.1.def_ 46 (d := d_law) rfl
  let p47 := c.1.def_ 47 (d := d_Guesser___init__) rfl
  let q0 := He.int_ok X G (c.1.fact 60 (f := .int "MOST_DEPTH_kinds" 24) rfl)
  let q1 := He.int_ok X G (c.1.fact 61 (f := .int "MOST_ORDER" 8) rfl)
  let q2 := He.int_ok X G (c.1.fact 62 (f := .int "MOST_WEIGHT" 32768) rfl)
  let q3 := He.int_ok X G (c.1.fact 63 (f := .int "MOST_SHIFT" 15) rfl)
  let q4 := He.int_ok X G (c.1.fact 64 (f := .int "MOST_DEPTH_guessers" 32) rfl)
  let er0 := err_ok (K := K) (file := fileS) (x := "InvalidNumber") (st := s_InvalidNumber___init__) (c.2.2.1 "InvalidNumber" (by decide +kernel)) (erV_at c.2.2.2.2 0 (z := "InvalidNumber") rfl rfl) (fun _ _ _ _ _ _ _ _ us its h1 h2 => match us, its, h1, h2 with | [_, _], [_], _, _ => ⟨_, rfl, rfl⟩)
  let er1 := err_ok (K := K) (file := fileS) (x := "InvalidDepth") (st := s_InvalidDepth___init__) (c.2.2.1 "InvalidDepth" (by decide +kernel)) (erV_at c.2.2.2.2 1 (z := "InvalidDepth") rfl rfl) (fun _ _ _ _ _ _ _ _ us its h1 h2 => match us, its, h1, h2 with | [_, _], [_], _, _ => ⟨_, rfl, rfl⟩)
  let er2 := err_ok (K := K) (file := fileS) (x := "InvalidRow") (st := s_InvalidRow___init__) (c.2.2.1 "InvalidRow" (by decide +kernel)) (erV_at c.2.2.2.2 2 (z := "InvalidRow") rfl rfl) (fun _ _ _ _ _ _ _ _ us its h1 h2 => match us, its, h1, h2 with | [_, _], [_], _, _ => ⟨_, rfl, rfl⟩)
  let er3 := err_ok (K := K) (file := fileS) (x := "InvalidGuesser") (st := s_InvalidGuesser___init__) (c.2.2.1 "InvalidGuesser" (by decide +kernel)) (erV_at c.2.2.2.2 3 (z := "InvalidGuesser") rfl rfl) (fun _ _ _ _ _ _ _ _ us its h1 h2 => match us, its, h1, h2 with | [_, _], [_], _, _ => ⟨_, rfl, rfl⟩)
  let er4 := err_ok (K := K) (file := fileS) (x := "InvalidList") (st := s_InvalidList___init__) (c.2.2.1 "InvalidList" (by decide +kernel)) (erV_at c.2.2.2.2 4 (z := "InvalidList") rfl rfl) (fun _ _ _ _ _ _ _ _ us its h1 h2 => match us, its, h1, h2 with | [_, _], [_], _, _ => ⟨_, rfl, rfl⟩)
  let er5 := err_ok (K := K) (file := fileS) (x := "InvalidItem") (st := s_InvalidItem___init__) (c.2.2.1 "InvalidItem" (by decide +kernel)) (erV_at c.2.2.2.2 5 (z := "InvalidItem") rfl rfl) (fun _ _ _ _ _ _ _ _ us its h1 h2 => match us, its, h1, h2 with | [_, _], [_], _, _ => ⟨_, rfl, rfl⟩)
  { C_InvalidNumber := _, gc_InvalidNumber := He.glo_ok X G (c.1.fact 71 (f := .glo "InvalidNumber") rfl), fi_InvalidNumber := _, fd_InvalidNumber := er0.choose, er_InvalidNumber := er0.choose_spec,
    C_InvalidDepth := _, gc_InvalidDepth := He.glo_ok X G (c.1.fact 72 (f := .glo "InvalidDepth") rfl), fi_InvalidDepth := _, fd_InvalidDepth := er1.choose, er_InvalidDepth := er1.choose_spec,
    C_InvalidRow := _, gc_InvalidRow := He.glo_ok X G (c.1.fact 73 (f := .glo "InvalidRow") rfl), fi_InvalidRow := _, fd_InvalidRow := er2.choose, er_InvalidRow := er2.choose_spec,
    C_InvalidGuesser := _, gc_InvalidGuesser := He.glo_ok X G (c.1.fact 74 (f := .glo "InvalidGuesser") rfl), fi_InvalidGuesser := _, fd_InvalidGuesser := er3.choose, er_InvalidGuesser := er3.choose_spec,
    C_InvalidList := _, gc_InvalidList := He.glo_ok X G (c.1.fact 75 (f := .glo "InvalidList") rfl), fi_InvalidList := _, fd_InvalidList := er4.choose, er_InvalidList := er4.choose_spec,
    C_InvalidItem := _, gc_InvalidItem := He.glo_ok X G (c.1.fact 76 (f := .glo "InvalidItem") rfl), fi_InvalidItem := _, fd_InvalidItem := er5.choose, er_InvalidItem := er5.choose_spec,
    C_SoundError := _, gc_SoundError := He.glo_ok X G (c.1.fact 77 (f := .glo "SoundError") rfl),
    em_InvalidNumber_SoundError := (emB_ok (c.2.2.2.1 ("InvalidNumber", "SoundError", true) (by decide +kernel))).1, ki_InvalidNumber_SoundError := (emB_ok (c.2.2.2.1 ("InvalidNumber", "SoundError", true) (by decide +kernel))).2.1,
    em_InvalidNumber_InvalidList := (emB_ok (c.2.2.2.1 ("InvalidNumber", "InvalidList", false) (by decide +kernel))).1, ki_InvalidNumber_InvalidList := (emB_ok (c.2.2.2.1 ("InvalidNumber", "InvalidList", false) (by decide +kernel))).2.1,
    em_InvalidNumber_InvalidItem := (emB_ok (c.2.2.2.1 ("InvalidNumber", "InvalidItem", false) (by decide +kernel))).1, ki_InvalidNumber_InvalidItem := (emB_ok (c.2.2.2.1 ("InvalidNumber", "InvalidItem", false) (by decide +kernel))).2.1,
    em_InvalidNumber_InvalidNumber := (emB_ok (c.2.2.2.1 ("InvalidNumber", "InvalidNumber", true) (by decide +kernel))).1, ki_InvalidNumber_InvalidNumber := (emB_ok (c.2.2.2.1 ("InvalidNumber", "InvalidNumber", true) (by decide +kernel))).2.1,
    em_InvalidNumber_InvalidGuesser := (emB_ok (c.2.2.2.1 ("InvalidNumber", "InvalidGuesser", false) (by decide +kernel))).1, ki_InvalidNumber_InvalidGuesser := (emB_ok (c.2.2.2.1 ("InvalidNumber", "InvalidGuesser", false) (by decide +kernel))).2.1,
    em_InvalidNumber_InvalidDepth := (emB_ok (c.2.2.2.1 ("InvalidNumber", "InvalidDepth", false) (by decide +kernel))).1, ki_InvalidNumber_InvalidDepth := (emB_ok (c.2.2.2.1 ("InvalidNumber", "InvalidDepth", false) (by decide +kernel))).2.1,
    em_InvalidNumber_InvalidRow := (emB_ok (c.2.2.2.1 ("InvalidNumber", "InvalidRow", false) (by decide +kernel))).1, ki_InvalidNumber_InvalidRow := (emB_ok (c.2.2.2.1 ("InvalidNumber", "InvalidRow", false) (by decide +kernel))).2.1,
    em_InvalidDepth_SoundError := (emB_ok (c.2.2.2.1 ("InvalidDepth", "SoundError", true) (by decide +kernel))).1, ki_InvalidDepth_SoundError := (emB_ok (c.2.2.2.1 ("InvalidDepth", "SoundError", true) (by decide +kernel))).2.1,
    em_InvalidDepth_InvalidList := (emB_ok (c.2.2.2.1 ("InvalidDepth", "InvalidList", false) (by decide +kernel))).1, ki_InvalidDepth_InvalidList := (emB_ok (c.2.2.2.1 ("InvalidDepth", "InvalidList", false) (by decide +kernel))).2.1,
    em_InvalidDepth_InvalidItem := (emB_ok (c.2.2.2.1 ("InvalidDepth", "InvalidItem", false) (by decide +kernel))).1, ki_InvalidDepth_InvalidItem := (emB_ok (c.2.2.2.1 ("InvalidDepth", "InvalidItem", false) (by decide +kernel))).2.1,
    em_InvalidDepth_InvalidNumber := (emB_ok (c.2.2.2.1 ("InvalidDepth", "InvalidNumber", false) (by decide +kernel))).1, ki_InvalidDepth_InvalidNumber := (emB_ok (c.2.2.2.1 ("InvalidDepth", "InvalidNumber", false) (by decide +kernel))).2.1,
    em_InvalidDepth_InvalidGuesser := (emB_ok (c.2.2.2.1 ("InvalidDepth", "InvalidGuesser", false) (by decide +kernel))).1, ki_InvalidDepth_InvalidGuesser := (emB_ok (c.2.2.2.1 ("InvalidDepth", "InvalidGuesser", false) (by decide +kernel))).2.1,
    em_InvalidDepth_InvalidDepth := (emB_ok (c.2.2.2.1 ("InvalidDepth", "InvalidDepth", true) (by decide +kernel))).1, ki_InvalidDepth_InvalidDepth := (emB_ok (c.2.2.2.1 ("InvalidDepth", "InvalidDepth", true) (by decide +kernel))).2.1,
    em_InvalidDepth_InvalidRow := (emB_ok (c.2.2.2.1 ("InvalidDepth", "InvalidRow", false) (by decide +kernel))).1, ki_InvalidDepth_InvalidRow := (emB_ok (c.2.2.2.1 ("InvalidDepth", "InvalidRow", false) (by decide +kernel))).2.1,
    em_InvalidRow_SoundError := (emB_ok (c.2.2.2.1 ("InvalidRow", "SoundError", true) (by decide +kernel))).1, ki_InvalidRow_SoundError := (emB_ok (c.2.2.2.1 ("InvalidRow", "SoundError", true) (by decide +kernel))).2.1,
    em_InvalidRow_InvalidList := (emB_ok (c.2.2.2.1 ("InvalidRow", "InvalidList", false) (by decide +kernel))).1, ki_InvalidRow_InvalidList := (emB_ok (c.2.2.2.1 ("InvalidRow", "InvalidList", false) (by decide +kernel))).2.1,
    em_InvalidRow_InvalidItem := (emB_ok (c.2.2.2.1 ("InvalidRow", "InvalidItem", false) (by decide +kernel))).1, ki_InvalidRow_InvalidItem := (emB_ok (c.2.2.2.1 ("InvalidRow", "InvalidItem", false) (by decide +kernel))).2.1,
    em_InvalidRow_InvalidNumber := (emB_ok (c.2.2.2.1 ("InvalidRow", "InvalidNumber", false) (by decide +kernel))).1, ki_InvalidRow_InvalidNumber := (emB_ok (c.2.2.2.1 ("InvalidRow", "InvalidNumber", false) (by decide +kernel))).2.1,
    em_InvalidRow_InvalidGuesser := (emB_ok (c.2.2.2.1 ("InvalidRow", "InvalidGuesser", false) (by decide +kernel))).1, ki_InvalidRow_InvalidGuesser := (emB_ok (c.2.2.2.1 ("InvalidRow", "InvalidGuesser", false) (by decide +kernel))).2.1,
    em_InvalidRow_InvalidDepth := (emB_ok (c.2.2.2.1 ("InvalidRow", "InvalidDepth", false) (by decide +kernel))).1, ki_InvalidRow_InvalidDepth := (emB_ok (c.2.2.2.1 ("InvalidRow", "InvalidDepth", false) (by decide +kernel))).2.1,
    em_InvalidRow_InvalidRow := (emB_ok (c.2.2.2.1 ("InvalidRow", "InvalidRow", true) (by decide +kernel))).1, ki_InvalidRow_InvalidRow := (emB_ok (c.2.2.2.1 ("InvalidRow", "InvalidRow", true) (by decide +kernel))).2.1,
    em_InvalidGuesser_SoundError := (emB_ok (c.2.2.2.1 ("InvalidGuesser", "SoundError", true) (by decide +kernel))).1, ki_InvalidGuesser_SoundError := (emB_ok (c.2.2.2.1 ("InvalidGuesser", "SoundError", true) (by decide +kernel))).2.1,
    em_InvalidGuesser_InvalidList := (emB_ok (c.2.2.2.1 ("InvalidGuesser", "InvalidList", false) (by decide +kernel))).1, ki_InvalidGuesser_InvalidList := (emB_ok (c.2.2.2.1 ("InvalidGuesser", "InvalidList", false) (by decide +kernel))).2.1,
    em_InvalidGuesser_InvalidItem := (emB_ok (c.2.2.2.1 ("InvalidGuesser", "InvalidItem", false) (by decide +kernel))).1, ki_InvalidGuesser_InvalidItem := (emB_ok (c.2.2.2.1 ("InvalidGuesser", "InvalidItem", false) (by decide +kernel))).2.1,
    em_InvalidGuesser_InvalidNumber := (emB_ok (c.2.2.2.1 ("InvalidGuesser", "InvalidNumber", false) (by decide +kernel))).1, ki_InvalidGuesser_InvalidNumber := (emB_ok (c.2.2.2.1 ("InvalidGuesser", "InvalidNumber", false) (by decide +kernel))).2.1,
    em_InvalidGuesser_InvalidGuesser := (emB_ok (c.2.2.2.1 ("InvalidGuesser", "InvalidGuesser", true) (by decide +kernel))).1, ki_InvalidGuesser_InvalidGuesser := (emB_ok (c.2.2.2.1 ("InvalidGuesser", "InvalidGuesser", true) (by decide +kernel))).2.1,
    em_InvalidGuesser_InvalidDepth := (emB_ok (c.2.2.2.1 ("InvalidGuesser", "InvalidDepth", false) (by decide +kernel))).1, ki_InvalidGuesser_InvalidDepth := (emB_ok (c.2.2.2.1 ("InvalidGuesser", "InvalidDepth", false) (by decide +kernel))).2.1,
    em_InvalidGuesser_InvalidRow := (emB_ok (c.2.2.2.1 ("InvalidGuesser", "InvalidRow", false) (by decide +kernel))).1, ki_InvalidGuesser_InvalidRow := (emB_ok (c.2.2.2.1 ("InvalidGuesser", "InvalidRow", false) (by decide +kernel))).2.1,
    em_InvalidList_SoundError := (emB_ok (c.2.2.2.1 ("InvalidList", "SoundError", true) (by decide +kernel))).1, ki_InvalidList_SoundError := (emB_ok (c.2.2.2.1 ("InvalidList", "SoundError", true) (by decide +kernel))).2.1,
    em_InvalidList_InvalidList := (emB_ok (c.2.2.2.1 ("InvalidList", "InvalidList", true) (by decide +kernel))).1, ki_InvalidList_InvalidList := (emB_ok (c.2.2.2.1 ("InvalidList", "InvalidList", true) (by decide +kernel))).2.1,
    em_InvalidList_InvalidItem := (emB_ok (c.2.2.2.1 ("InvalidList", "InvalidItem", false) (by decide +kernel))).1, ki_InvalidList_InvalidItem := (emB_ok (c.2.2.2.1 ("InvalidList", "InvalidItem", false) (by decide +kernel))).2.1,
    em_InvalidList_InvalidNumber := (emB_ok (c.2.2.2.1 ("InvalidList", "InvalidNumber", false) (by decide +kernel))).1, ki_InvalidList_InvalidNumber := (emB_ok (c.2.2.2.1 ("InvalidList", "InvalidNumber", false) (by decide +kernel))).2.1,
    em_InvalidList_InvalidGuesser := (emB_ok (c.2.2.2.1 ("InvalidList", "InvalidGuesser", false) (by decide +kernel))).1, ki_InvalidList_InvalidGuesser := (emB_ok (c.2.2.2.1 ("InvalidList", "InvalidGuesser", false) (by decide +kernel))).2.1,
    em_InvalidList_InvalidDepth := (emB_ok (c.2.2.2.1 ("InvalidList", "InvalidDepth", false) (by decide +kernel))).1, ki_InvalidList_InvalidDepth := (emB_ok (c.2.2.2.1 ("InvalidList", "InvalidDepth", false) (by decide +kernel))).2.1,
    em_InvalidList_InvalidRow := (emB_ok (c.2.2.2.1 ("InvalidList", "InvalidRow", false) (by decide +kernel))).1, ki_InvalidList_InvalidRow := (emB_ok (c.2.2.2.1 ("InvalidList", "InvalidRow", false) (by decide +kernel))).2.1,
    em_InvalidItem_SoundError := (emB_ok (c.2.2.2.1 ("InvalidItem", "SoundError", true) (by decide +kernel))).1, ki_InvalidItem_SoundError := (emB_ok (c.2.2.2.1 ("InvalidItem", "SoundError", true) (by decide +kernel))).2.1,
    em_InvalidItem_InvalidList := (emB_ok (c.2.2.2.1 ("InvalidItem", "InvalidList", false) (by decide +kernel))).1, ki_InvalidItem_InvalidList := (emB_ok (c.2.2.2.1 ("InvalidItem", "InvalidList", false) (by decide +kernel))).2.1,
    em_InvalidItem_InvalidItem := (emB_ok (c.2.2.2.1 ("InvalidItem", "InvalidItem", true) (by decide +kernel))).1, ki_InvalidItem_InvalidItem := (emB_ok (c.2.2.2.1 ("InvalidItem", "InvalidItem", true) (by decide +kernel))).2.1,
    em_InvalidItem_InvalidNumber := (emB_ok (c.2.2.2.1 ("InvalidItem", "InvalidNumber", false) (by decide +kernel))).1, ki_InvalidItem_InvalidNumber := (emB_ok (c.2.2.2.1 ("InvalidItem", "InvalidNumber", false) (by decide +kernel))).2.1,
    em_InvalidItem_InvalidGuesser := (emB_ok (c.2.2.2.1 ("InvalidItem", "InvalidGuesser", false) (by decide +kernel))).1, ki_InvalidItem_InvalidGuesser := (emB_ok (c.2.2.2.1 ("InvalidItem", "InvalidGuesser", false) (by decide +kernel))).2.1,
    em_InvalidItem_InvalidDepth := (emB_ok (c.2.2.2.1 ("InvalidItem", "InvalidDepth", false) (by decide +kernel))).1, ki_InvalidItem_InvalidDepth := (emB_ok (c.2.2.2.1 ("InvalidItem", "InvalidDepth", false) (by decide +kernel))).2.1,
    em_InvalidItem_InvalidRow := (emB_ok (c.2.2.2.1 ("InvalidItem", "InvalidRow", false) (by decide +kernel))).1, ki_InvalidItem_InvalidRow := (emB_ok (c.2.2.2.1 ("InvalidItem", "InvalidRow", false) (by decide +kernel))).2.1,
    kn_InvalidList := (emB_ok (c.2.2.2.1 ("InvalidNumber", "InvalidList", false) (by decide +kernel))).2.2.1,
    kn_InvalidItem := (emB_ok (c.2.2.2.1 ("InvalidNumber", "InvalidItem", false) (by decide +kernel))).2.2.1,
    kn_InvalidNumber := (emB_ok (c.2.2.2.1 ("InvalidNumber", "InvalidNumber", true) (by decide +kernel))).2.2.1,
    kn_InvalidGuesser := (emB_ok (c.2.2.2.1 ("InvalidNumber", "InvalidGuesser", false) (by decide +kernel))).2.2.1,
    kn_InvalidDepth := (emB_ok (c.2.2.2.1 ("InvalidNumber", "InvalidDepth", false) (by decide +kernel))).2.2.1,
    kn_InvalidRow := (emB_ok (c.2.2.2.1 ("InvalidNumber", "InvalidRow", false) (by decide +kernel))).2.2.1,
    ei_InvalidNumber := ⟨(er0.choose_spec).xf, (emB_ok (c.2.2.2.1 ("InvalidNumber", "SoundError", true) (by decide +kernel))).2.2.2.1, (emB_ok (c.2.2.2.1 ("InvalidNumber", "SoundError", true) (by decide +kernel))).2.2.2.2.1, (emB_ok (c.2.2.2.1 ("InvalidNumber", "SoundError", true) (by decide +kernel))).2.2.2.2.2.1, (emB_ok (c.2.2.2.1 ("InvalidNumber", "SoundError", true) (by decide +kernel))).2.2.2.2.2.2⟩,
    ei_InvalidDepth := ⟨(er1.choose_spec).xf, (emB_ok (c.2.2.2.1 ("InvalidDepth", "SoundError", true) (by decide +kernel))).2.2.2.1, (emB_ok (c.2.2.2.1 ("InvalidDepth", "SoundError", true) (by decide +kernel))).2.2.2.2.1, (emB_ok (c.2.2.2.1 ("InvalidDepth", "SoundError", true) (by decide +kernel))).2.2.2.2.2.1, (emB_ok (c.2.2.2.1 ("InvalidDepth", "SoundError", true) (by decide +kernel))).2.2.2.2.2.2⟩,
    ei_InvalidRow := ⟨(er2.choose_spec).xf, (emB_ok (c.2.2.2.1 ("InvalidRow", "SoundError", true) (by decide +kernel))).2.2.2.1, (emB_ok (c.2.2.2.1 ("InvalidRow", "SoundError", true) (by decide +kernel))).2.2.2.2.1, (emB_ok (c.2.2.2.1 ("InvalidRow", "SoundError", true) (by decide +kernel))).2.2.2.2.2.1, (emB_ok (c.2.2.2.1 ("InvalidRow", "SoundError", true) (by decide +kernel))).2.2.2.2.2.2⟩,
    ei_InvalidGuesser := ⟨(er3.choose_spec).xf, (emB_ok (c.2.2.2.1 ("InvalidGuesser", "SoundError", true) (by decide +kernel))).2.2.2.1, (emB_ok (c.2.2.2.1 ("InvalidGuesser", "SoundError", true) (by decide +kernel))).2.2.2.2.1, (emB_ok (c.2.2.2.1 ("InvalidGuesser", "SoundError", true) (by decide +kernel))).2.2.2.2.2.1, (emB_ok (c.2.2.2.1 ("InvalidGuesser", "SoundError", true) (by decide +kernel))).2.2.2.2.2.2⟩,
    ei_InvalidList := ⟨(er4.choose_spec).xf, (emB_ok (c.2.2.2.1 ("InvalidList", "SoundError", true) (by decide +kernel))).2.2.2.1, (emB_ok (c.2.2.2.1 ("InvalidList", "SoundError", true) (by decide +kernel))).2.2.2.2.1, (emB_ok (c.2.2.2.1 ("InvalidList", "SoundError", true) (by decide +kernel))).2.2.2.2.2.1, (emB_ok (c.2.2.2.1 ("InvalidList", "SoundError", true) (by decide +kernel))).2.2.2.2.2.2⟩,
    ei_InvalidItem := ⟨(er5.choose_spec).xf, (emB_ok (c.2.2.2.1 ("InvalidItem", "SoundError", true) (by decide +kernel))).2.2.2.1, (emB_ok (c.2.2.2.1 ("InvalidItem", "SoundError", true) (by decide +kernel))).2.2.2.2.1, (emB_ok (c.2.2.2.1 ("InvalidItem", "SoundError", true) (by decide +kernel))).2.2.2.2.2.1, (emB_ok (c.2.2.2.1 ("InvalidItem", "SoundError", true) (by decide +kernel))).2.2.2.2.2.2⟩,
    C_Guesser := _, gc_Guesser := He.glo_ok X G (c.1.fact 65 (f := .glo "Guesser") rfl), cl_Guesser := He.cls_ok (c.1.fact 66 (f := .cls "Guesser") rfl), ic_Guesser := insB_ok (x := "Guesser") (He.cls_ok (c.1.fact 66 (f := .cls "Guesser") rfl)) (List.all_eq_true.mp (Bool.and_eq_true_iff.mp c.2.1).1 "Guesser" (by decide +kernel)),
    kx_Guesser := insN_ok (x := "Guesser") (List.all_eq_true.mp (Bool.and_eq_true_iff.mp c.2.1).1 "Guesser" (by decide +kernel)),
    na_Guesser_parts := He.noat_ok (c.1.fact 67 (f := .noat "Guesser" "parts") rfl),
    na_Guesser_down := He.noat_ok (c.1.fact 68 (f := .noat "Guesser" "down") rfl),
    f_is_whole := _, fd_is_whole := p0.choose, F_is_whole := p0.choose_spec, b_is_whole := p0.choose_spec.bindsN fun _ _ _ _ _ _ us hl => match us, hl with | [_], _ => rfl, g_is_whole := He.glo_ok X G (c.1.fact 0 (f := .glo "is_whole") rfl),
    f_is_between := _, fd_is_between := p1.choose, F_is_between := p1.choose_spec, b_is_between := p1.choose_spec.bindsN fun _ _ _ _ _ _ us hl => match us, hl with | [_, _, _], _ => rfl, g_is_between := He.glo_ok X G (c.1.fact 1 (f := .glo "is_between") rfl),
    f_are_wholes := _, fd_are_wholes := p2.choose, F_are_wholes := p2.choose_spec, b_are_wholes := p2.choose_spec.bindsN fun _ _ _ _ _ _ us hl => match us, hl with | [_], _ => rfl, g_are_wholes := He.glo_ok X G (c.1.fact 2 (f := .glo "are_wholes") rfl),
    f_common_divisor := _, fd_common_divisor := p3.choose, F_common_divisor := p3.choose_spec, b_common_divisor := p3.choose_spec.bindsN fun _ _ _ _ _ _ us hl => match us, hl with | [_, _], _ => rfl, g_common_divisor := He.glo_ok X G (c.1.fact 3 (f := .glo "common_divisor") rfl),
    f_fraction := _, fd_fraction := p4.choose, F_fraction := p4.choose_spec, b_fraction := p4.choose_spec.bindsN fun _ _ _ _ _ _ us hl => match us, hl with | [_, _], _ => rfl, g_fraction := He.glo_ok X G (c.1.fact 4 (f := .glo "fraction") rfl),
    f_check_depth := _, fd_check_depth := p5.choose, F_check_depth := p5.choose_spec, b_check_depth := nil_binds (p5.choose_spec.binds1 (ps := ["depth", "most"]) 2 1 (by simp [He.DefD.dvs, d_check_depth]) rfl fun _ _ _ _ _ _ _ us its h1 h2 => match us, its, h1, h2 with | [_, _], [_], _, _ => ⟨_, rfl, rfl⟩), e0_check_depth := (p5.choose_spec.binds1 (ps := ["depth", "most"]) 1 0 (by simp [He.DefD.dvs, d_check_depth]) rfl fun _ _ _ _ _ _ _ us its h1 h2 => match us, its, h1, h2 with | [_], [_], _, _ => ⟨_, rfl, rfl⟩).choose, v0_check_depth := (p5.choose_spec.binds1 (ps := ["depth", "most"]) 1 0 (by simp [He.DefD.dvs, d_check_depth]) rfl fun _ _ _ _ _ _ _ us its h1 h2 => match us, its, h1, h2 with | [_], [_], _, _ => ⟨_, rfl, rfl⟩).choose_spec.1, b0_check_depth := (p5.choose_spec.binds1 (ps := ["depth", "most"]) 1 0 (by simp [He.DefD.dvs, d_check_depth]) rfl fun _ _ _ _ _ _ _ us its h1 h2 => match us, its, h1, h2 with | [_], [_], _, _ => ⟨_, rfl, rfl⟩).choose_spec.2, g_check_depth := He.glo_ok X G (c.1.fact 5 (f := .glo "check_depth") rfl),
    f_is_sample := _, fd_is_sample := p6.choose, F_is_sample := p6.choose_spec, b_is_sample := p6.choose_spec.bindsN fun _ _ _ _ _ _ us hl => match us, hl with | [_, _], _ => rfl, g_is_sample := He.glo_ok X G (c.1.fact 6 (f := .glo "is_sample") rfl),
    f_are_samples := _, fd_are_samples := p7.choose, F_are_samples := p7.choose_spec, b_are_samples := p7.choose_spec.bindsN fun _ _ _ _ _ _ us hl => match us, hl with | [_, _], _ => rfl, g_are_samples := He.glo_ok X G (c.1.fact 7 (f := .glo "are_samples") rfl),
    f_wrapped := _, fd_wrapped := p8.choose, F_wrapped := p8.choose_spec, b_wrapped := p8.choose_spec.bindsN fun _ _ _ _ _ _ us hl => match us, hl with | [_, _], _ => rfl, g_wrapped := He.glo_ok X G (c.1.fact 8 (f := .glo "wrapped") rfl),
    f_check_guesser := _, fd_check_guesser := p9.choose, F_check_guesser := p9.choose_spec, b_check_guesser := p9.choose_spec.bindsN fun _ _ _ _ _ _ us hl => match us, hl with | [_], _ => rfl, g_check_guesser := He.glo_ok X G (c.1.fact 9 (f := .glo "check_guesser") rfl),
    f_check_row := _, fd_check_row := p10.choose, F_check_row := p10.choose_spec, b_check_row := p10.choose_spec.bindsN fun _ _ _ _ _ _ us hl => match us, hl with | [_, _], _ => rfl, g_check_row := He.glo_ok X G (c.1.fact 10 (f := .glo "check_row") rfl),
    f_sum_before := _, fd_sum_before := p11.choose, F_sum_before := p11.choose_spec, b_sum_before := p11.choose_spec.bindsN fun _ _ _ _ _ _ us hl => match us, hl with | [_, _], _ => rfl, g_sum_before := He.glo_ok X G (c.1.fact 11 (f := .glo "sum_before") rfl),
    f_guess_behind := _, fd_guess_behind := p12.choose, F_guess_behind := p12.choose_spec, b_guess_behind := p12.choose_spec.bindsN fun _ _ _ _ _ _ us hl => match us, hl with | [_, _], _ => rfl, g_guess_behind := He.glo_ok X G (c.1.fact 12 (f := .glo "guess_behind") rfl),
    f_guess := _, fd_guess := p13.choose, F_guess := p13.choose_spec, b_guess := p13.choose_spec.bindsN fun _ _ _ _ _ _ us hl => match us, hl with | [_, _], _ => rfl, g_guess := He.glo_ok X G (c.1.fact 13 (f := .glo "guess") rfl),
    f_steps := _, fd_steps := p14.choose, F_steps := p14.choose_spec, b_steps := p14.choose_spec.bindsN fun _ _ _ _ _ _ us hl => match us, hl with | [_], _ => rfl, g_steps := He.glo_ok X G (c.1.fact 14 (f := .glo "steps") rfl),
    f_told_rests := _, fd_told_rests := p15.choose, F_told_rests := p15.choose_spec, b_told_rests := p15.choose_spec.bindsN fun _ _ _ _ _ _ us hl => match us, hl with | [_, _], _ => rfl, g_told_rests := He.glo_ok X G (c.1.fact 15 (f := .glo "told_rests") rfl),
    f_rests := _, fd_rests := p16.choose, F_rests := p16.choose_spec, b_rests := p16.choose_spec.bindsN fun _ _ _ _ _ _ us hl => match us, hl with | [_, _, _], _ => rfl, g_rests := He.glo_ok X G (c.1.fact 16 (f := .glo "rests") rfl),
    f_row_of := _, fd_row_of := p17.choose, F_row_of := p17.choose_spec, b_row_of := p17.choose_spec.bindsN fun _ _ _ _ _ _ us hl => match us, hl with | [_, _, _], _ => rfl, g_row_of := He.glo_ok X G (c.1.fact 17 (f := .glo "row_of") rfl),
    f_plain_rests := _, fd_plain_rests := p18.choose, F_plain_rests := p18.choose_spec, b_plain_rests := p18.choose_spec.bindsN fun _ _ _ _ _ _ us hl => match us, hl with | [_, _], _ => rfl, g_plain_rests := He.glo_ok X G (c.1.fact 18 (f := .glo "plain_rests") rfl),
    f_quotient := _, fd_quotient := p19.choose, F_quotient := p19.choose_spec, b_quotient := p19.choose_spec.bindsN fun _ _ _ _ _ _ us hl => match us, hl with | [_, _], _ => rfl, g_quotient := He.glo_ok X G (c.1.fact 19 (f := .glo "quotient") rfl),
    f_same_guess := _, fd_same_guess := p20.choose, F_same_guess := p20.choose_spec, b_same_guess := p20.choose_spec.bindsN fun _ _ _ _ _ _ us hl => match us, hl with | [_, _], _ => rfl, g_same_guess := He.glo_ok X G (c.1.fact 20 (f := .glo "same_guess") rfl),
    f_normal := _, fd_normal := p21.choose, F_normal := p21.choose_spec, b_normal := p21.choose_spec.bindsN fun _ _ _ _ _ _ us hl => match us, hl with | [_], _ => rfl, g_normal := He.glo_ok X G (c.1.fact 21 (f := .glo "normal") rfl),
    f_simplest := _, fd_simplest := p22.choose, F_simplest := p22.choose_spec, b_simplest := p22.choose_spec.bindsN fun _ _ _ _ _ _ us hl => match us, hl with | [_, _], _ => rfl, g_simplest := He.glo_ok X G (c.1.fact 22 (f := .glo "simplest") rfl),
    f_parting_sample := _, fd_parting_sample := p23.choose, F_parting_sample := p23.choose_spec, b_parting_sample := p23.choose_spec.bindsN fun _ _ _ _ _ _ us hl => match us, hl with | [_, _], _ => rfl, g_parting_sample := He.glo_ok X G (c.1.fact 23 (f := .glo "parting_sample") rfl),
    f_parting_row := _, fd_parting_row := p24.choose, F_parting_row := p24.choose_spec, b_parting_row := p24.choose_spec.bindsN fun _ _ _ _ _ _ us hl => match us, hl with | [_, _], _ => rfl, g_parting_row := He.glo_ok X G (c.1.fact 24 (f := .glo "parting_row") rfl),
    f_ends := _, fd_ends := p25.choose, F_ends := p25.choose_spec, b_ends := p25.choose_spec.bindsN fun _ _ _ _ _ _ us hl => match us, hl with | [_, _, _], _ => rfl, g_ends := He.glo_ok X G (c.1.fact 25 (f := .glo "ends") rfl),
    f_bound_rows := _, fd_bound_rows := p26.choose, F_bound_rows := p26.choose_spec, b_bound_rows := p26.choose_spec.bindsN fun _ _ _ _ _ _ us hl => match us, hl with | [_, _], _ => rfl, g_bound_rows := He.glo_ok X G (c.1.fact 26 (f := .glo "bound_rows") rfl),
    f_bounds := _, fd_bounds := p27.choose, F_bounds := p27.choose_spec, b_bounds := p27.choose_spec.bindsN fun _ _ _ _ _ _ us hl => match us, hl with | [_, _], _ => rfl, g_bounds := He.glo_ok X G (c.1.fact 27 (f := .glo "bounds") rfl),
    f_bits_enough := _, fd_bits_enough := p28.choose, F_bits_enough := p28.choose_spec, b_bits_enough := p28.choose_spec.bindsN fun _ _ _ _ _ _ us hl => match us, hl with | [_, _], _ => rfl, g_bits_enough := He.glo_ok X G (c.1.fact 28 (f := .glo "bits_enough") rfl),
    f_times_sum := _, fd_times_sum := p29.choose, F_times_sum := p29.choose_spec, b_times_sum := p29.choose_spec.bindsN fun _ _ _ _ _ _ us hl => match us, hl with | [_, _], _ => rfl, g_times_sum := He.glo_ok X G (c.1.fact 29 (f := .glo "times_sum") rfl),
    f_tells := _, fd_tells := p30.choose, F_tells := p30.choose_spec, b_tells := p30.choose_spec.bindsN fun _ _ _ _ _ _ us hl => match us, hl with | [_, _], _ => rfl, g_tells := He.glo_ok X G (c.1.fact 30 (f := .glo "tells") rfl),
    f_hangs := _, fd_hangs := p31.choose, F_hangs := p31.choose_spec, b_hangs := p31.choose_spec.bindsN fun _ _ _ _ _ _ us hl => match us, hl with | [_, _, _, _], _ => rfl, g_hangs := He.glo_ok X G (c.1.fact 31 (f := .glo "hangs") rfl),
    f_law_cell := _, fd_law_cell := p32.choose, F_law_cell := p32.choose_spec, b_law_cell := p32.choose_spec.bindsN fun _ _ _ _ _ _ us hl => match us, hl with | [_, _], _ => rfl, g_law_cell := He.glo_ok X G (c.1.fact 32 (f := .glo "_law_cell") rfl),
    f_law_hash := _, fd_law_hash := p33.choose, F_law_hash := p33.choose_spec, b_law_hash := p33.choose_spec.bindsN fun _ _ _ _ _ _ us hl => match us, hl with | [_, _], _ => rfl, g_law_hash := He.glo_ok X G (c.1.fact 33 (f := .glo "_law_hash") rfl),
    f_law_generator := _, fd_law_generator := p34.choose, F_law_generator := p34.choose_spec, b_law_generator := p34.choose_spec.bindsN fun _ _ _ _ _ _ us hl => match us, hl with | [_, _], _ => rfl, g_law_generator := He.glo_ok X G (c.1.fact 34 (f := .glo "_law_generator") rfl),
    f_law_random := _, fd_law_random := p35.choose, F_law_random := p35.choose_spec, b_law_random := p35.choose_spec.bindsN fun _ _ _ _ _ _ us hl => match us, hl with | [_, _], _ => rfl, g_law_random := He.glo_ok X G (c.1.fact 35 (f := .glo "_law_random") rfl),
    f_law_sample := _, fd_law_sample := p36.choose, F_law_sample := p36.choose_spec, b_law_sample := p36.choose_spec.bindsN fun _ _ _ _ _ _ us hl => match us, hl with | [_, _], _ => rfl, g_law_sample := He.glo_ok X G (c.1.fact 36 (f := .glo "_law_sample") rfl),
    f_law_row := _, fd_law_row := p37.choose, F_law_row := p37.choose_spec, b_law_row := p37.choose_spec.bindsN fun _ _ _ _ _ _ us hl => match us, hl with | [_, _, _], _ => rfl, g_law_row := He.glo_ok X G (c.1.fact 37 (f := .glo "_law_row") rfl),
    f_law_weights := _, fd_law_weights := p38.choose, F_law_weights := p38.choose_spec, b_law_weights := p38.choose_spec.bindsN fun _ _ _ _ _ _ us hl => match us, hl with | [_, _], _ => rfl, g_law_weights := He.glo_ok X G (c.1.fact 38 (f := .glo "_law_weights") rfl),
    f_law_guess := _, fd_law_guess := p39.choose, F_law_guess := p39.choose_spec, b_law_guess := p39.choose_spec.bindsN fun _ _ _ _ _ _ us hl => match us, hl with | [_, _, _], _ => rfl, g_law_guess := He.glo_ok X G (c.1.fact 39 (f := .glo "_law_guess") rfl),
    f_law_plain := _, fd_law_plain := p40.choose, F_law_plain := p40.choose_spec, b_law_plain := p40.choose_spec.bindsN fun _ _ _ _ _ _ us hl => match us, hl with | [_, _, _], _ => rfl, g_law_plain := He.glo_ok X G (c.1.fact 40 (f := .glo "_law_plain") rfl),
    f_law_hangs_right := _, fd_law_hangs_right := p41.choose, F_law_hangs_right := p41.choose_spec, b_law_hangs_right := p41.choose_spec.bindsN fun _ _ _ _ _ _ us hl => match us, hl with | [_, _, _], _ => rfl, g_law_hangs_right := He.glo_ok X G (c.1.fact 41 (f := .glo "_law_hangs_right") rfl),
    f_law_tells_right := _, fd_law_tells_right := p42.choose, F_law_tells_right := p42.choose_spec, b_law_tells_right := p42.choose_spec.bindsN fun _ _ _ _ _ _ us hl => match us, hl with | [_, _, _], _ => rfl, g_law_tells_right := He.glo_ok X G (c.1.fact 42 (f := .glo "_law_tells_right") rfl),
    f_law_caught := _, fd_law_caught := p43.choose, F_law_caught := p43.choose_spec, b_law_caught := p43.choose_spec.bindsN fun _ _ _ _ _ _ us hl => match us, hl with | [_, _, _, _, _], _ => rfl, g_law_caught := He.glo_ok X G (c.1.fact 43 (f := .glo "_law_caught") rfl),
    f_law_made_right := _, fd_law_made_right := p44.choose, F_law_made_right := p44.choose_spec, b_law_made_right := p44.choose_spec.bindsN fun _ _ _ _ _ _ us hl => match us, hl with | [], _ => rfl, g_law_made_right := He.glo_ok X G (c.1.fact 44 (f := .glo "_law_made_right") rfl),
    f_law_doors_right := _, fd_law_doors_right := p45.choose, F_law_doors_right := p45.choose_spec, b_law_doors_right := p45.choose_spec.bindsN fun _ _ _ _ _ _ us hl => match us, hl with | [_], _ => rfl, g_law_doors_right := He.glo_ok X G (c.1.fact 45 (f := .glo "_law_doors_right") rfl),
    f_law := _, fd_law := p46.choose, F_law := p46.choose_spec, b_law := p46.choose_spec.bindsN fun _ _ _ _ _ _ us hl => match us, hl with | [_], _ => rfl, g_law := He.glo_ok X G (c.1.fact 46 (f := .glo "law") rfl),
    f_Guesser___init__ := _, fd_Guesser___init__ := p47.choose, F_Guesser___init__ := p47.choose_spec, b_Guesser___init__ := p47.choose_spec.bindsN fun _ _ _ _ _ _ us hl => match us, hl with | [_, _, _], _ => rfl, me_Guesser___init__ := He.meth_ok (c.1.fact 70 (f := .meth "Guesser" "__init__") rfl), mk_Guesser := He.mkr_ok (c.1.fact 69 (f := .mkr "Guesser") rfl),
    n_len := He.free_ok X G (c.1.fact 47 (f := .free "len") rfl),
    n_sum := He.free_ok X G (c.1.fact 48 (f := .free "sum") rfl),
    n_max := He.free_ok X G (c.1.fact 49 (f := .free "max") rfl),
    n_min := He.free_ok X G (c.1.fact 50 (f := .free "min") rfl),
    n_int := He.free_ok X G (c.1.fact 51 (f := .free "int") rfl),
    n_bool := He.free_ok X G (c.1.fact 52 (f := .free "bool") rfl),
    n_list := He.free_ok X G (c.1.fact 53 (f := .free "list") rfl),
    n_range := He.free_ok X G (c.1.fact 54 (f := .free "range") rfl),
    n_isinstance := He.free_ok X G (c.1.fact 55 (f := .free "isinstance") rfl),
    n_abs := He.free_ok X G (c.1.fact 56 (f := .free "abs") rfl),
    n_enumerate := He.free_ok X G (c.1.fact 57 (f := .free "enumerate") rfl),
    n_repr := He.free_ok X G (c.1.fact 58 (f := .free "repr") rfl),
    n_super := He.free_ok X G (c.1.fact 59 (f := .free "super") rfl),
    t_MOST_DEPTH_kinds := q0.choose, m_MOST_DEPTH_kinds := q0.choose_spec,
    t_MOST_ORDER := q1.choose, m_MOST_ORDER := q1.choose_spec,
    t_MOST_WEIGHT := q2.choose, m_MOST_WEIGHT := q2.choose_spec,
    t_MOST_SHIFT := q3.choose, m_MOST_SHIFT := q3.choose_spec,
    t_MOST_DEPTH_guessers := q4.choose, m_MOST_DEPTH_guessers := q4.choose_spec }
theorem G_InvalidNumber___init__ {P : Program} {w : World} {K : PySem.W.Frag} {mg : Str → Option Value} {base : Heap} {CX : CXT} [Sup.PF P fileS] (T : Top K mg) : FnOk P w K mg base CX 1 T.fi_InvalidNumber T.fd_InvalidNumber ["self", "value"] (Sup.sp_exc_init T.C_InvalidNumber) := Sup.fn_sup nsc_InvalidNumber (by decide +kernel) sb_InvalidNumber T.er_InvalidNumber.sup T.n_super
theorem G_InvalidDepth___init__ {P : Program} {w : World} {K : PySem.W.Frag} {mg : Str → Option Value} {base : Heap} {CX : CXT} [Sup.PF P fileS] (T : Top K mg) : FnOk P w K mg base CX 1 T.fi_InvalidDepth T.fd_InvalidDepth ["self", "value"] (Sup.sp_exc_init T.C_InvalidDepth) := Sup.fn_sup nsc_InvalidDepth (by decide +kernel) sb_InvalidDepth T.er_InvalidDepth.sup T.n_super
theorem G_InvalidRow___init__ {P : Program} {w : World} {K : PySem.W.Frag} {mg : Str → Option Value} {base : Heap} {CX : CXT} [Sup.PF P fileS] (T : Top K mg) : FnOk P w K mg base CX 1 T.fi_InvalidRow T.fd_InvalidRow ["self", "value"] (Sup.sp_exc_init T.C_InvalidRow) := Sup.fn_sup nsc_InvalidRow (by decide +kernel) sb_InvalidRow T.er_InvalidRow.sup T.n_super
theorem G_InvalidGuesser___init__ {P : Program} {w : World} {K : PySem.W.Frag} {mg : Str → Option Value} {base : Heap} {CX : CXT} [Sup.PF P fileS] (T : Top K mg) : FnOk P w K mg base CX 1 T.fi_InvalidGuesser T.fd_InvalidGuesser ["self", "value"] (Sup.sp_exc_init T.C_InvalidGuesser) := Sup.fn_sup nsc_InvalidGuesser (by decide +kernel) sb_InvalidGuesser T.er_InvalidGuesser.sup T.n_super
theorem G_InvalidList___init__ {P : Program} {w : World} {K : PySem.W.Frag} {mg : Str → Option Value} {base : Heap} {CX : CXT} [Sup.PF P fileS] (T : Top K mg) : FnOk P w K mg base CX 1 T.fi_InvalidList T.fd_InvalidList ["self", "value"] (Sup.sp_exc_init T.C_InvalidList) := Sup.fn_sup nsc_InvalidList (by decide +kernel) sb_InvalidList T.er_InvalidList.sup T.n_super
theorem G_InvalidItem___init__ {P : Program} {w : World} {K : PySem.W.Frag} {mg : Str → Option Value} {base : Heap} {CX : CXT} [Sup.PF P fileS] (T : Top K mg) : FnOk P w K mg base CX 1 T.fi_InvalidItem T.fd_InvalidItem ["self", "value"] (Sup.sp_exc_init T.C_InvalidItem) := Sup.fn_sup nsc_InvalidItem (by decide +kernel) sb_InvalidItem T.er_InvalidItem.sup T.n_super
end My

set_option exponentiation.threshold 100000
namespace My
open PySem PySem.Spec PyProof.Rows L2 Pre
section
variable {P : Program} {w : World} {K : PySem.W.Frag} {mg : Str → Option Value} {base : Heap}
/-! ### the law's draws -/
/-- a generator: its count is at most n -/
def GenAt (H : Hp) (g : Addr) (n : Nat) : Prop := ∃ x y z : Int, H g = some (.lst [.int x, .int y, .int z]) ∧ 0 ≤ z ∧ z ≤ (n : Int)
/-- all but one thing stand as they stood -/
def But (g : Addr) (H H' : Hp) : Prop := ∀ b o, b ≠ g → H b = some o → H' b = some o
theorem But.refl {g : Addr} {H : Hp} : But g H H := fun _ _ _ h => h
theorem But.trans {g : Addr} {H H1 H2 : Hp} (a : But g H H1) (b : But g H1 H2) : But g H H2 := fun c o n h => b c o n (a c o n h)
theorem But.same {g : Addr} {H H1 H2 : Hp} (a : But g H H1) (b : Same H1 H2) : But g H H2 := fun c o n h => b c o (a c o n h)
theorem But.of {g : Addr} {H H1 : Hp} (b : Same H H1) : But g H H1 := fun c o _ h => b c o h
theorem But.upd {g : Addr} {H H1 : Hp} {o : HO} (a : But g H H1) : But g H (upd H1 g o) := fun c u n h => by
  rw [upd_ne n]
  exact a c u n h
theorem But.free {g : Addr} {H H1 : Hp} (a : But g H H1) {p : Addr} (n : p ≠ g) (h : H1 p = none) : H p = none := by
  cases e : H p with
  | none => rfl
  | some o => rw [a p o n e] at h; cases h
/-- what is changed was not there at first -/
theorem But.fresh {g : Addr} {H H1 H2 : Hp} (s : Same H H1) (n : H g = none) (b : But g H1 H2) : Same H H2 := fun c o h => b c o (ne_of_none h n) (s c o h)
theorem GenAt.mono {H : Hp} {g : Addr} {n m : Nat} (h : GenAt H g n) (l : n ≤ m) : GenAt H g m := by
  obtain ⟨x, y, z, a, b, c⟩ := h
  exact ⟨x, y, z, a, b, by omega⟩
theorem GenAt.same {H H' : Hp} {g : Addr} {n : Nat} (h : GenAt H g n) (s : Same H H') : GenAt H' g n := by
  obtain ⟨x, y, z, a, b⟩ := h
  exact ⟨x, y, z, s _ _ a, b⟩
theorem GenAt.ne {H : Hp} {g : Addr} {n : Nat} {p : Addr} (h : GenAt H g n) (np : H p = none) : p ≠ g := by
  obtain ⟨x, y, z, a, _⟩ := h
  exact (ne_of_none a np).symm
theorem small_2900 {b : Int} (h : b ≤ 2 ^ 60) : b < 2 ^ 2900 := by omega
theorem pow_pos' (w : Nat) : (0 : Int) < 2 ^ w := Int.pow_pos (by decide)
theorem pow2_le {k m : Nat} (h : k ≤ m) : (2 : Int) ^ k ≤ 2 ^ m := by
  have e := Nat.pow_le_pow_right (show 0 < 2 by decide) h
  have e2 : ((2 ^ k : Nat) : Int) ≤ ((2 ^ m : Nat) : Int) := Int.ofNat_le.mpr e
  rw [Int.natCast_pow, Int.natCast_pow] at e2
  exact e2
def sp_law_cell (K : PySem.W.Frag) : Sp := fun vs H Q _ => ∃ (a : Addr) (ns : List Int) (i : Nat), vs = [.ref a, .int i] ∧ SqL K H a (ns.map V.int) ∧ ∀ (n : Int) H', Same H H' → Q (.int n) H'
theorem G_law_cell (T : Top K mg) : FnOk P w K mg base CX0 1 T.f_law_cell T.fd_law_cell ["_law_script", "_law_index"] (sp_law_cell K) := by
  refine T.F_law_cell.ok sc_law_cell (fun vs H Q E h => by obtain ⟨a, ns, i, rfl, _⟩ := h; rfl) (fun cdv A outer s H vs Q E hr h => ?_)
  obtain ⟨a, ns, i, rfl, hS, q⟩ := h
  refine ⟨_, PSs.nox (pss_cons (ps_if (pt_cmpR op_lt (pv 1) (pe_callB (k_len K rfl) (by rfl) T.n_len (by decide +kernel) (pa_cons (pv 0) pa_nil)) (nomark _))
    (pss_one (ps_ret (pe_ix (k_ixL K rfl) (pv 0) (pv 1) (fun _ _ => rfl))))
    pss_nil)
  (pss_one (ps_ret (pe_op op_mod (pe_callB (k_sum K rfl rfl) (by rfl) T.n_sum (by decide +kernel) (pa_cons (pe_slice (k_slL K rfl) (pv 0) po_none (po_some pe_int)) pa_nil)) pe_int)))), ?_⟩
  refine ⟨_, rfl, _, rfl, a, _, rfl, .inl hS, _, _, rfl, rfl, _, rfl, ite2 (fun e => ?_) (fun e => ?_)⟩
  · have e1 : (i : Int) < (((ns.map V.int).length : Nat) : Int) := of_decide_eq_true e
    rw [List.length_map] at e1
    have hi : i < ns.length := by omega
    refine ⟨_, rfl, _, rfl, a, _, _, .int ns[i], rfl, rfl, hS, atI_nat (by rw [List.getElem?_map, List.getElem?_eq_getElem hi]; rfl), ?_⟩
    exact q _ _ (Same.refl _)
  · refine ⟨_, rfl, _, rfl, a, _, rfl, hS, fun p np => ?_⟩
    have ec : ∃ ms : List Int, cutV (ns.map V.int) none (some 1) = ms.map V.int := by
      unfold cutV
      exact ⟨(ns.drop (HT.sIx (ns.map V.int).length 0 none)).take (HT.sIx (ns.map V.int).length (ns.map V.int).length (some 1) - HT.sIx (ns.map V.int).length 0 none), by rw [List.map_take, List.map_drop]⟩
    obtain ⟨ms, em⟩ := ec
    refine ⟨p, ms, rfl, .inl (.inl (by rw [upd_same, em])), _, _, rfl, rfl, (by show (0 : Int) < 1000003; decide), ?_⟩
    exact q _ _ (same_upd np)
theorem cmul_mod (x m j : Int) (h0 : 0 < m) (h1 : m ≤ 2 ^ 60) : CMul (x % m) j := by
  have a := Int.emod_nonneg x (show m ≠ 0 by omega)
  have b := Int.emod_lt_of_pos x h0
  exact .inl ⟨by omega, by omega⟩
def sp_law_hash : Sp := fun vs H Q _ => ∃ i j : Int, vs = [.int i, .int j] ∧ 0 ≤ j ∧ j < 2 ^ 60 ∧ ∀ n : Int, Q (.int n) H
theorem G_law_hash (T : Top K mg) : FnOk P w K mg base CX0 1 T.f_law_hash T.fd_law_hash ["_law_seed", "_law_index"] sp_law_hash := by
  refine T.F_law_hash.ok sc_law_hash (fun vs H Q E h => by obtain ⟨i, j, rfl, _⟩ := h; rfl) (fun cdv A outer s H vs Q E hr h => ?_)
  obtain ⟨i, j, rfl, h0, h1, q⟩ := h
  refine ⟨_, PSs.nox (pss_cons (ps_set (i := 2) sc_law_hash.nd rfl (by first | exact Or.inl rfl | exact Or.inr rfl) (pe_op op_mod (pe_callTy call_int1 (by rfl) T.n_int (by decide +kernel) (pa_cons (pe_op op_add (pe_op op_add (pe_op op_add (pe_op op_mul (pv 0) pe_int) (pe_op op_mul (pe_op op_mul pe_int (pv 1)) (pv 1))) (pv 1)) pe_int) pa_nil)) pe_int))
  (pss_cons (ps_set (i := 2) sc_law_hash.nd rfl (by first | exact Or.inl rfl | exact Or.inr rfl) (pe_op op_mod (pe_callTy call_int1 (by rfl) T.n_int (by decide +kernel) (pa_cons (pe_op op_add (pe_op op_mul (pv 2) (pv 2)) pe_int) pa_nil)) pe_int))
  (pss_one (ps_ret (pe_op op_mod (pe_callTy call_int1 (by rfl) T.n_int (by decide +kernel) (pa_cons (pe_op op_mul (pv 2) pe_int) pa_nil)) pe_int))))), ?_⟩
  refine ⟨_, rfl, _, _, rfl, rfl, .inr ⟨by decide, by decide⟩, _, rfl, _, _, rfl, rfl, .inl ⟨by decide, by decide⟩, _, rfl, _, _, rfl, rfl, .inr ⟨by omega, by omega⟩, _, _, rfl, rfl, _, rfl, _, _, rfl, rfl, _, _, rfl, rfl,
    .inl ⟨_, rfl, _, _, rfl, rfl, (by show (0 : Int) < _; decide), ?_⟩⟩
  refine ⟨_, rfl, _, rfl, _, _, rfl, rfl, cmul_mod _ _ _ (by decide) (by decide), _, _, rfl, rfl, .inl ⟨_, rfl, _, _, rfl, rfl, (by show (0 : Int) < _; decide), ?_⟩⟩
  refine ⟨_, rfl, _, _, rfl, rfl, .inr ⟨by decide, by decide⟩, .inl ⟨_, rfl, _, _, rfl, rfl, (by show (0 : Int) < _; decide), ?_⟩⟩
  exact q _

def sp_law_generator (K : PySem.W.Frag) : Sp := fun vs H Q _ => ∃ (a : Addr) (ns : List Int) (i : Nat), vs = [.ref a, .int i] ∧ SqL K H a (ns.map V.int) ∧ ∀ H' g, Same H H' → H g = none → GenAt H' g (1000 * i) → Q (.ref g) H'
theorem G_law_generator (T : Top K mg) : FnOk P w K mg base CX0 2 T.f_law_generator T.fd_law_generator ["_law_script", "_law_index"] (sp_law_generator K) := by
  refine T.F_law_generator.ok sc_law_generator (fun vs H Q E h => by obtain ⟨a, ns, i, rfl, _⟩ := h; rfl) (fun cdv A outer s H vs Q E hr h => ?_)
  obtain ⟨a, ns, i, rfl, hS, q⟩ := h
  refine ⟨_, PSs.nox (pss_cons (ps_set (i := 2) sc_law_generator.nd rfl (by first | exact Or.inl rfl | exact Or.inr rfl) (pe_call (G_law_cell (P := P) T) (hr.mono (by decide)) (by rfl) T.g_law_cell T.F_law_cell.kp T.b_law_cell .nil pass0 (pa_cons (pv 0) (pa_cons (pv 1) pa_nil))))
  (pss_one (ps_ret (pe_lst (pa_cons (pe_op op_mod (pe_callTy call_int1 (by rfl) T.n_int (by decide +kernel) (pa_cons (pe_callB (call_max2 rfl) (by rfl) T.n_max (by decide +kernel) (pa_cons (pe_op op_sub (pv 2) (pe_op op_powW pe_int pe_int)) (pa_cons pe_int pa_nil))) pa_nil)) (pe_op op_powW (pe_op op_powW pe_int pe_int) pe_int)) (pa_cons (pe_op op_mod (pe_callTy call_int1 (by rfl) T.n_int (by decide +kernel) (pa_cons (pv 2) pa_nil)) pe_int) (pa_cons (pe_op op_mul pe_int (pv 1)) pa_nil))))))), ?_⟩
  refine ⟨_, rfl, _, rfl, a, ns, i, rfl, hS, fun n H1 s1 => ?_⟩
  refine ⟨_, rfl, _, _, rfl, rfl, ⟨by decide, by decide +kernel⟩, _, _, rfl, rfl, _, _, rfl, .inl ⟨_, rfl, _, _, rfl, rfl, ⟨by decide, by decide +kernel⟩, _, _, rfl, rfl, ⟨by decide, by decide +kernel⟩, _, _, rfl, rfl, (by show (0 : Int) < _; decide +kernel), ?_⟩⟩
  refine ⟨_, rfl, .inl ⟨_, rfl, _, _, rfl, rfl, (by show (0 : Int) < _; decide), ?_⟩⟩
  refine ⟨_, rfl, _, _, rfl, rfl, .inl ⟨by decide, by decide⟩, (show 3 ≤ sizeLine by decide), fun g ng => ?_⟩
  exact q _ g (s1.trans (same_upd ng)) (s1.free ng) ⟨_, _, _, upd_same, by omega, by omega⟩
def sp_law_random : Sp := fun vs H Q _ => ∃ (g : Addr) (b : Int) (n : Nat), vs = [.ref g, .int b] ∧ GenAt H g n ∧ n ≤ 10 ^ 12 ∧ 0 < b ∧ b < 2 ^ 2900 ∧ ∀ (d : Int) H', 0 ≤ d → d < b → GenAt H' g (n + 100) → But g H H' → Q (.int d) H'
theorem G_law_random (T : Top K mg) : FnOk P w K mg base CX0 2 T.f_law_random T.fd_law_random ["_law_generator_here", "_law_bound"] sp_law_random := by
  refine T.F_law_random.ok sc_law_random (fun vs H Q E h => by obtain ⟨g, b, n, rfl, _⟩ := h; rfl) (fun cdv A outer s H vs Q E hr h => ?_)
  obtain ⟨g, b, n, rfl, ⟨x, y, z, hg, z0, z1⟩, hn, b0, b1, q⟩ := h
  refine ⟨_, PSs.nox (pss_cons (ps_if (pt_cmpR op_gt (pe_ix (k_ixL K rfl) (pv 0) pe_int (fun _ _ => rfl)) pe_int (nomark _))
    (pss_cons (ps_set (i := 2) sc_law_random.nd rfl (by first | exact Or.inl rfl | exact Or.inr rfl) (pe_op op_mod (pe_callTy call_int1 (by rfl) T.n_int (by decide +kernel) (pa_cons (pe_ix (k_ixL K rfl) (pv 0) pe_int (fun _ _ => rfl)) pa_nil)) (pv 1)))
  (pss_cons (ps_asg (pe_op op_fdivW (pe_ix (k_ixL K rfl) (pv 0) pe_int (fun _ _ => rfl)) (pv 1)) (pg_sub (pv 0) pe_int set_list))
  (pss_one (ps_ret (pv 2)))))
    pss_nil)
  (pss_cons (ps_set (i := 2) sc_law_random.nd rfl (by first | exact Or.inl rfl | exact Or.inr rfl) pe_int)
  (pss_cons (ps_for PassesOwn.never rfl (pi_range1 (by rfl) T.n_range (pa_cons (pe_op op_add pe_int (pe_op op_fdivW (pe_bits (pv 1)) pe_int)) pa_nil)) (pg_name (i := 3) sc_law_random.nd rfl (by first | exact Or.inl rfl | exact Or.inr rfl))
    (pss_cons (ps_asg (pe_op op_add (pe_ix (k_ixL K rfl) (pv 0) pe_int (fun _ _ => rfl)) pe_int) (pg_sub (pv 0) pe_int set_list))
  (pss_one (ps_set (i := 2) sc_law_random.nd rfl (by first | exact Or.inl rfl | exact Or.inr rfl) (pe_op op_add (pe_op op_mul (pv 2) pe_int) (pe_call (G_law_hash (P := P) T) (hr.mono (by decide)) (by rfl) T.g_law_hash T.F_law_hash.kp T.b_law_hash .nil pass0 (pa_cons (pe_ix (k_ixL K rfl) (pv 0) pe_int (fun _ _ => rfl)) (pa_cons (pe_ix (k_ixL K rfl) (pv 0) pe_int (fun _ _ => rfl)) pa_nil))))))))
  (pss_one (ps_ret (pe_op op_mod (pe_callTy call_int1 (by rfl) T.n_int (by decide +kernel) (pa_cons (pv 2) pa_nil)) (pv 1))))))), ?_⟩
  have a0 : ∀ x y z : Int, atI [V.int x, .int y, .int z] 0 = some (.int x) := fun _ _ _ => rfl
  have a1 : ∀ x y z : Int, atI [V.int x, .int y, .int z] 1 = some (.int y) := fun _ _ _ => rfl
  have a2 : ∀ x y z : Int, atI [V.int x, .int y, .int z] 2 = some (.int z) := fun _ _ _ => rfl
  have hS : SqL K H g [.int x, .int y, .int z] := .inl (.inl hg)
  have nb : b.natAbs < 2 ^ 2900 := by
    have e : ((b.natAbs : Nat) : Int) < ((2 ^ 2900 : Nat) : Int) := by
      rw [Int.natCast_pow]
      omega
    exact Int.ofNat_lt.mp e
  refine ⟨_, rfl, g, _, 0, _, rfl, rfl, hS, a0 x y z, _, _, rfl, rfl, _, rfl, ite2 (fun e => ?_) (fun e => ?_)⟩
  · refine ⟨_, rfl, g, _, 0, _, rfl, rfl, hS, a0 x y z, .inl ⟨_, rfl, _, rfl, _, _, rfl, rfl, b0, ?_⟩⟩
    refine ⟨_, rfl, g, _, 0, _, rfl, rfl, hS, a0 x y z, _, rfl, _, _, rfl, rfl, wide_div b0 nb (by decide) (by decide), _, rfl, g, _, 0, 0, rfl, rfl, hg, rfl, _, rfl, ?_⟩
    exact q _ _ (Int.emod_nonneg _ (by omega)) (Int.emod_lt_of_pos _ b0) ⟨_, _, _, upd_same, z0, by omega⟩ (But.upd But.refl)
  · have hb : Builtin.Int.intBits b ≤ 2900 := PyProof.Rows.intBits_le nb
    have hq0 : (0 : Int) ≤ ((Builtin.Int.intBits b : Nat) : Int) / 30 := Int.ediv_nonneg (Int.natCast_nonneg _) (by decide)
    have hq1 : ((Builtin.Int.intBits b : Nat) : Int) / 30 ≤ 97 := by omega
    refine ⟨_, rfl, _, rfl, _, _, rfl, rfl, ⟨by decide, by decide +kernel⟩, _, _, rfl, rfl, _, rfl, by omega, by omega, ?_⟩
    refine for_range (lo := 0) (n := (1 + ((Builtin.Int.intBits b : Nat) : Int) / 30).toNat) (fun i σ H1 => ∃ (d z' : Int) (v : Option V), σ = [some (.ref g), some (.int b), some (.int d), v] ∧ H1 g = some (.lst [.int x, .int y, .int z']) ∧ 0 ≤ z' ∧ z' ≤ (n : Int) + (i : Int) ∧ But g H H1)
      ⟨0, z, none, rfl, hg, z0, by omega, But.refl⟩ ?_ ?_
    · rintro i σ H1 hi ⟨d, z', v, rfl, hg1, y0, y1, b1⟩
      have hS1 : SqL K H1 g [.int x, .int y, .int z'] := .inl (.inl hg1)
      refine ⟨_, rfl, g, _, 2, _, rfl, rfl, hS1, a2 x y z', _, _, rfl, rfl, _, rfl, g, _, 2, 2, rfl, rfl, hg1, rfl, ?_⟩
      have hS2 : SqL K (upd H1 g (.lst [.int x, .int y, .int (z' + 1)])) g [.int x, .int y, .int (z' + 1)] := .inl (.inl upd_same)
      refine ⟨_, rfl, _, _, rfl, rfl, .inr ⟨by decide, by decide⟩, _, rfl, g, _, 1, _, rfl, rfl, hS2, a1 _ _ _, _, rfl, g, _, 2, _, rfl, rfl, hS2, a2 _ _ _, _, _, rfl, by omega, by omega, fun r => ?_⟩
      exact ⟨_, _, rfl, rfl, _, z' + 1, _, rfl, upd_same, by omega, by omega, But.upd b1⟩
    · rintro σ H1 ⟨d, z', v, rfl, hg1, y0, y1, b1⟩
      refine ⟨_, rfl, .inl ⟨_, rfl, _, rfl, _, _, rfl, rfl, b0, ?_⟩⟩
      exact q _ _ (Int.emod_nonneg _ (by omega)) (Int.emod_lt_of_pos _ b0) ⟨_, _, _, hg1, y0, by omega⟩ b1
/-- a comprehension over a range that draws whole numbers -/
theorem lc_drawR {lo : Int} {n : Nat} {j : Nat} {te : TE} {vs : List Nat} {σ : L2.St} {H1 : Hp} {D : Addr} {Qd : Hp → Prop} (g : Addr) (m step : Nat) (P : Int → Prop) (nD : H1 D = none) (hG : GenAt H1 g m) (hz : n < sizeLine)
    (hw : ∀ x, wipe ((wipe σ vs).set j (some x)) vs = wipe σ vs)
    (hs : ∀ (i : Nat) (H' : Hp), i < n → But g H1 H' → GenAt H' g (m + step * i) → ∀ Qt : V → Hp → Prop, (∀ (y : Int) H'', P y → But g H' H'' → GenAt H'' g (m + step * (i + 1)) → Qt (.int y) H'') → te ((wipe σ vs).set j (some (.int (lo + (i : Int))))) H' Qt)
    (hd : ∀ H' (ys : List Int), But g H1 H' → GenAt H' g (m + step * n) → H' D = some (.lst (ys.map V.int)) → ys.length = n → (∀ y ∈ ys, P y) → Qd H') :
    ∃ W : Nat → Nat → Hp → Prop, (∃ m, W 0 m (upd H1 D (.lst []))) ∧ ∀ i m H, W i m H →
      ((Itr lo n).stop i H ∧ Qd H) ∨ ((Itr lo n).go i H ∧ ∃ Nx : Hp → Prop, (∀ H', Nx H' → ∃ m', m' < m ∧ W (i + 1) m' H') ∧ ∀ x H', (Itr lo n).yld i H x H' → gName j x (wipe σ vs) H' fun σ2 H2 => wipe σ2 vs = wipe σ vs ∧ tYes σ2 H2 fun b H3 =>
        if b = true then te σ2 H3 fun y H4 => ∃ acc, H4 D = some (.lst acc) ∧ acc.length < sizeLine ∧ Nx (upd H4 D (.lst (acc ++ [y]))) else Nx H3) := by
  have nDg : D ≠ g := hG.ne nD
  refine lc_range (lo := lo) (n := n) (fun i H => ∃ ys : List Int, But g H1 H ∧ GenAt H g (m + step * i) ∧ H D = some (.lst (ys.map V.int)) ∧ ys.length = i ∧ ∀ y ∈ ys, P y)
    ⟨[], But.of (same_upd nD), hG.same (same_upd nD), upd_same, rfl, (fun _ h => nomatch h)⟩ ?_ ?_
  · rintro i H hi ⟨ys, b, hg, hD, hl, hP⟩
    refine ⟨hw _, ?_⟩
    unfold tYes
    dsimp only
    rw [if_pos (show true = true from rfl)]
    refine hs i H hi b hg _ fun y H2 py b2 hg2 => ?_
    refine ⟨_, b2 _ _ nDg hD, by rw [List.length_map]; omega, ys ++ [y], ?_, ?_, ?_, ?_, ?_⟩
    · intro c o nc hc
      rw [upd_ne (ne_of_none hc nD)]
      exact b2 _ _ nc (b _ _ nc hc)
    · obtain ⟨x1, x2, x3, e1, e2⟩ := hg2
      exact ⟨x1, x2, x3, by rw [upd_ne nDg.symm]; exact e1, e2⟩
    · rw [upd_same, List.map_append]
      rfl
    · rw [List.length_append, hl]
      rfl
    · intro z hz
      rcases List.mem_append.mp hz with hz | hz
      · exact hP z hz
      · rw [List.mem_singleton.mp hz]
        exact py
  · rintro H ⟨ys, b, hg, hD, hl, hP⟩
    exact hd H ys b hg hD hl hP
end
end My

namespace My
open PySem PySem.Spec PyProof.Rows L2 Pre
/-- a comprehension over a list of whole numbers that draws whole numbers -/
theorem lc_drawL {K : PySem.W.Frag} {a : Addr} {xs : List Int} {j : Nat} {te : TE} {vs : List Nat} {σ : L2.St} {H1 : Hp} {D : Addr} {Qd : Hp → Prop} (g : Addr) (m step : Nat) (P : Int → Prop) (nD : H1 D = none) (hG : GenAt H1 g m) (hA : H1 a = some (.lst (xs.map V.int))) (ag : a ≠ g) (hz : xs.length < sizeLine)
    (hw : ∀ x, wipe ((wipe σ vs).set j (some x)) vs = wipe σ vs)
    (hs : ∀ (i : Nat) (x : Int) (H' : Hp), xs[i]? = some x → But g H1 H' → GenAt H' g (m + step * i) → ∀ Qt : V → Hp → Prop, (∀ (y : Int) H'', P y → But g H' H'' → GenAt H'' g (m + step * (i + 1)) → Qt (.int y) H'') → te ((wipe σ vs).set j (some (.int x))) H' Qt)
    (hd : ∀ H' (ys : List Int), But g H1 H' → GenAt H' g (m + step * xs.length) → H' D = some (.lst (ys.map V.int)) → ys.length = xs.length → (∀ y ∈ ys, P y) → Qd H') :
    ∃ W : Nat → Nat → Hp → Prop, (∃ m, W 0 m (upd H1 D (.lst []))) ∧ ∀ i m H, W i m H →
      ((Itl K a).stop i H ∧ Qd H) ∨ ((Itl K a).go i H ∧ ∃ Nx : Hp → Prop, (∀ H', Nx H' → ∃ m', m' < m ∧ W (i + 1) m' H') ∧ ∀ x H', (Itl K a).yld i H x H' → gName j x (wipe σ vs) H' fun σ2 H2 => wipe σ2 vs = wipe σ vs ∧ tYes σ2 H2 fun b H3 =>
        if b = true then te σ2 H3 fun y H4 => ∃ acc, H4 D = some (.lst acc) ∧ acc.length < sizeLine ∧ Nx (upd H4 D (.lst (acc ++ [y]))) else Nx H3) := by
  have nDg : D ≠ g := hG.ne nD
  have aD : a ≠ D := ne_of_none hA nD
  refine lc_list (K := K) (a := a) (xs := xs.map V.int) (fun i H => ∃ ys : List Int, But g H1 H ∧ GenAt H g (m + step * i) ∧ H D = some (.lst (ys.map V.int)) ∧ ys.length = i ∧ ∀ y ∈ ys, P y)
    ⟨[], But.of (same_upd nD), hG.same (same_upd nD), upd_same, rfl, (fun _ h => nomatch h)⟩ (fun i H _ ⟨_, b, _⟩ => .inl (.inl (b _ _ ag hA))) ?_ ?_
  · rintro i v H hi ⟨ys, b, hg, hD, hl, hP⟩
    obtain ⟨x, hx, rfl⟩ := int_at hi
    have hil := (List.getElem?_eq_some_iff.mp hx).1
    refine ⟨hw _, ?_⟩
    unfold tYes
    dsimp only
    rw [if_pos (show true = true from rfl)]
    refine hs i x H hx b hg _ fun y H2 py b2 hg2 => ?_
    refine ⟨_, b2 _ _ nDg hD, by rw [List.length_map]; omega, ys ++ [y], ?_, ?_, ?_, ?_, ?_⟩
    · intro c o nc hc
      rw [upd_ne (ne_of_none hc nD)]
      exact b2 _ _ nc (b _ _ nc hc)
    · obtain ⟨x1, x2, x3, e1, e2⟩ := hg2
      exact ⟨x1, x2, x3, by rw [upd_ne nDg.symm]; exact e1, e2⟩
    · rw [upd_same, List.map_append]
      rfl
    · rw [List.length_append, hl]
      rfl
    · intro z hz
      rcases List.mem_append.mp hz with hz | hz
      · exact hP z hz
      · rw [List.mem_singleton.mp hz]
        exact py
  · rintro H ⟨ys, b, hg, hD, hl, hP⟩
    rw [List.length_map] at hg hl
    exact hd H ys b hg hD hl hP
end My

namespace My
open PySem PySem.Spec PyProof.Rows L2 Pre
/-- a comprehension over a list that makes new things: R tells what is known of the i-th -/
theorem lc_relL {K : PySem.W.Frag} {a : Addr} {xs : List V} {j : Nat} {te : TE} {vs : List Nat} {σ : L2.St} {H1 : Hp} {D : Addr} {Qd : Hp → Prop} (R : Nat → V → Hp → Prop) (nD : H1 D = none) (hS : SqL K H1 a xs) (hz : xs.length < sizeLine)
    (mono : ∀ (i : Nat) (y : V) (H H' : Hp), Pre.Off D H H' → R i y H → R i y H') (hw : ∀ x, wipe ((wipe σ vs).set j (some x)) vs = wipe σ vs)
    (hs : ∀ (i : Nat) (x : V) (H' : Hp) (zs : List V), xs[i]? = some x → Same H1 H' → H' D = some (.lst zs) → ∀ Qt : V → Hp → Prop, (∀ y H'', Same H' H'' → R i y H'' → Qt y H'') → te ((wipe σ vs).set j (some x)) H' Qt)
    (hd : ∀ H' ys, Same H1 H' → H' D = some (.lst ys) → ys.length = xs.length → (∀ (i : Nat) (y : V), ys[i]? = some y → R i y H') → Qd H') :
    ∃ W : Nat → Nat → Hp → Prop, (∃ m, W 0 m (upd H1 D (.lst []))) ∧ ∀ i m H, W i m H →
      ((Itl K a).stop i H ∧ Qd H) ∨ ((Itl K a).go i H ∧ ∃ Nx : Hp → Prop, (∀ H', Nx H' → ∃ m', m' < m ∧ W (i + 1) m' H') ∧ ∀ x H', (Itl K a).yld i H x H' → gName j x (wipe σ vs) H' fun σ2 H2 => wipe σ2 vs = wipe σ vs ∧ tYes σ2 H2 fun b H3 =>
        if b = true then te σ2 H3 fun y H4 => ∃ acc, H4 D = some (.lst acc) ∧ acc.length < sizeLine ∧ Nx (upd H4 D (.lst (acc ++ [y]))) else Nx H3) := by
  refine lc_list (K := K) (a := a) (xs := xs) (RelPv R H1 D) ⟨[], same_upd nD, upd_same, rfl, fun k y h => by simp at h⟩ (fun i H _ ⟨_, s, _⟩ => s.seq hS) ?_ ?_
  · rintro i x H hx ⟨ys, s, hD, hl, hR⟩
    have hi : i < xs.length := (List.getElem?_eq_some_iff.mp hx).1
    refine ⟨hw _, ?_⟩
    unfold tYes
    dsimp only
    rw [if_pos (show true = true from rfl)]
    refine hs i x H ys hx s hD _ fun y H4 s4 r4 => ?_
    refine ⟨ys, s4 _ _ hD, by omega, ys ++ [y], same_over nD (s.trans s4), upd_same, by rw [List.length_append, hl]; rfl, fun k z hz => ?_⟩
    have off : Pre.Off D H4 (upd H4 D (.lst (ys ++ [y]))) := fun b o nb h => by rw [upd_ne nb]; exact h
    by_cases hk : k < ys.length
    · rw [List.getElem?_append_left hk] at hz
      exact mono k z H _ (fun b o nb h => off b o nb (s4 b o h)) (hR k z hz)
    · rw [List.getElem?_append_right (by omega)] at hz
      have hk2 : k - ys.length = 0 := by
        have h2 := (List.getElem?_eq_some_iff.mp hz).1
        rw [List.length_singleton] at h2
        omega
      rw [hk2] at hz
      cases hz
      have ek : k = i := by omega
      rw [ek]
      exact mono i y H4 _ off r4
  · rintro H ⟨ys, s, hD, hl, hR⟩
    exact hd H ys s hD hl hR
/-- a list of lists of whole numbers -/
def RowsIn (H : Hp) (p : Addr) (rows : List (List Int)) : Prop := ∃ as : List Addr, H p = some (.lst (as.map V.ref)) ∧ as.length = rows.length ∧ ∀ (i : Nat) (a : Addr) (r : List Int), as[i]? = some a → rows[i]? = some r → H a = some (.lst (r.map V.int))
theorem RowsIn.same {H H' : Hp} {p : Addr} {rows : List (List Int)} (h : RowsIn H p rows) (s : Same H H') : RowsIn H' p rows := by
  obtain ⟨as, h1, h2, h3⟩ := h
  exact ⟨as, s _ _ h1, h2, fun i a r ha hr => s _ _ (h3 i a r ha hr)⟩
section
variable {X : Cx}
theorem huD {k : Nat} {A : Around} (r : Room k A) : A.units + 65 < cLine := by have := r.un; omega
theorem k_inD (K : PySem.W.Frag) (h : X.K = K) (hu : X.A.units + 65 < cLine) : OpR X (compareOp .In) (rInD K) := by subst h; exact op_inD hu
theorem k_notInD (K : PySem.W.Frag) (h : X.K = K) (hu : X.A.units + 65 < cLine) : OpR X (compareOp .NotIn) (rNotInD K) := by subst h; exact op_notInD hu
theorem k_indexD (K : PySem.W.Frag) (h : X.K = K) (hu : X.A.units + 65 < cLine) : MtR X "list.index" (rIndexD K) := by subst h; exact mt_indexD hu
end
/-- rows as data -/
def rowD (r : List Int) : PyData := .list (r.map PyData.int)
theorem rows_dp {K : PySem.W.Frag} {H : Hp} : ∀ {as : List Addr} {rows : List (List Int)}, as.length = rows.length → (∀ (i : Nat) (a : Addr) (r : List Int), as[i]? = some a → rows[i]? = some r → H a = some (.lst (r.map V.int))) → DpAll K H (as.map V.ref) (rows.map rowD)
  | [], [], _, _ => .nil
  | [], _ :: _, h, _ => by simp at h
  | _ :: _, [], h, _ => by simp at h
  | a :: as, r :: rows, h, k => .cons (.lst (.inl (.inl (k 0 a r rfl rfl))) (Pre.dp_ints r)) (rows_dp (by simpa using h) fun i t q ht hq => k (i + 1) t q (by simpa using ht) (by simpa using hq))
theorem rowD_eqv (r q : List Int) : PyData.eqv (rowD r) (rowD q) = decide (r = q) := by
  unfold rowD
  rw [PyData.eqv, eqv_ints]
theorem rows_shaped (rows : List (List Int)) : SeqAt.shaped (.list (rows.map rowD)) = true := by
  have h1 : ∀ l : List (List Int), PyData.canLayAll0 (l.map rowD) = true := fun l => by
    induction l with
    | nil => rfl
    | cons r l ih =>
      show (PyData.canLay0 (rowD r) && PyData.canLayAll0 (l.map rowD)) = true
      rw [ih]
      unfold rowD
      rw [PyData.canLay0, lay_ints]
      rfl
  have h2 : ∀ l : List (List Int), PyData.depthAll (l.map rowD) ≤ 1 := fun l => by
    induction l with
    | nil => simp [PyData.depthAll]
    | cons r l ih =>
      show PyData.depthAll (rowD r :: l.map rowD) ≤ 1
      rw [PyData.depthAll]
      unfold rowD at *
      rw [PyData.depth, depth_ints]
      omega
  show (PyData.canLay0 (.list (rows.map rowD)) && decide (PyData.depth (.list (rows.map rowD)) ≤ 64)) = true
  rw [Bool.and_eq_true]
  have := h2 rows
  exact ⟨by rw [PyData.canLay0]; exact h1 rows, decide_eq_true (by rw [PyData.depth]; omega)⟩
end My

namespace My
open PySem PySem.Spec PyProof.Rows L2 Pre
/-! ### min and max of a list of pairs of whole numbers -/
def pairD (p : Int × Int) : PyData := .tuple [.int p.1, .int p.2]
def ltP2 (p q : Int × Int) : Prop := p.1 < q.1 ∨ (p.1 = q.1 ∧ p.2 < q.2)
instance (p q : Int × Int) : Decidable (ltP2 p q) := by unfold ltP2; infer_instance
theorem pair_lt (p q : Int × Int) : PySem.W.dataLt (pairD p) (pairD q) = decide (ltP2 p q) := PySem.W.dataLt_ii p.1 p.2 q.1 q.2
theorem ltP2_trans {p q r : Int × Int} (h : ¬ ltP2 q p) (k : ¬ ltP2 r q) : ¬ ltP2 r p := by
  unfold ltP2 at *
  omega
def minP (p : Int × Int) (ps : List (Int × Int)) : Int × Int := ps.foldl (fun a y => if ltP2 y a then y else a) p
def maxP (p : Int × Int) (ps : List (Int × Int)) : Int × Int := ps.foldl (fun a y => if ltP2 a y then y else a) p
theorem minP_data : ∀ (ps : List (Int × Int)) (p : Int × Int), PySem.W.minD (pairD p) (ps.map pairD) = pairD (minP p ps)
  | [], _ => rfl
  | q :: ps, p => by
    show PySem.W.minD (if PySem.W.dataLt (pairD q) (pairD p) = true then pairD q else pairD p) (ps.map pairD) = pairD (minP (if ltP2 q p then q else p) ps)
    rw [pair_lt]
    by_cases h : ltP2 q p
    · rw [decide_eq_true h, if_pos rfl, if_pos h, minP_data ps q]
    · rw [decide_eq_false h, if_neg (by decide), if_neg h, minP_data ps p]
theorem maxP_data : ∀ (ps : List (Int × Int)) (p : Int × Int), PySem.W.maxD (pairD p) (ps.map pairD) = pairD (maxP p ps)
  | [], _ => rfl
  | q :: ps, p => by
    show PySem.W.maxD (if PySem.W.dataLt (pairD p) (pairD q) = true then pairD q else pairD p) (ps.map pairD) = pairD (maxP (if ltP2 p q then q else p) ps)
    rw [pair_lt]
    by_cases h : ltP2 p q
    · rw [decide_eq_true h, if_pos rfl, if_pos h, maxP_data ps q]
    · rw [decide_eq_false h, if_neg (by decide), if_neg h, maxP_data ps p]
theorem minP_spec : ∀ (ps : List (Int × Int)) (p : Int × Int), minP p ps ∈ p :: ps ∧ ∀ q ∈ p :: ps, ¬ ltP2 q (minP p ps)
  | [], p => ⟨List.mem_cons_self, fun q hq => by
      rw [List.mem_singleton.mp hq]
      show ¬ ltP2 p p
      unfold ltP2
      omega⟩
  | r :: ps, p => by
    show minP (if ltP2 r p then r else p) ps ∈ _ ∧ ∀ q ∈ p :: r :: ps, ¬ ltP2 q (minP (if ltP2 r p then r else p) ps)
    by_cases h : ltP2 r p
    · rw [if_pos h]
      obtain ⟨h1, h2⟩ := minP_spec ps r
      refine ⟨List.mem_cons_of_mem _ h1, fun q hq => ?_⟩
      rcases List.mem_cons.mp hq with rfl | hq
      · have := h2 r List.mem_cons_self
        exact fun z => this (by unfold ltP2 at *; omega)
      · exact h2 q hq
    · rw [if_neg h]
      obtain ⟨h1, h2⟩ := minP_spec ps p
      refine ⟨?_, fun q hq => ?_⟩
      · rcases List.mem_cons.mp h1 with e | e
        · rw [e]; exact List.mem_cons_self
        · exact List.mem_cons_of_mem _ (List.mem_cons_of_mem _ e)
      · rcases List.mem_cons.mp hq with rfl | hq
        · exact h2 q List.mem_cons_self
        · rcases List.mem_cons.mp hq with rfl | hq
          · have := h2 p List.mem_cons_self
            exact fun z => this (by unfold ltP2 at *; omega)
          · exact h2 q (List.mem_cons_of_mem _ hq)
theorem maxP_spec : ∀ (ps : List (Int × Int)) (p : Int × Int), maxP p ps ∈ p :: ps ∧ ∀ q ∈ p :: ps, ¬ ltP2 (maxP p ps) q
  | [], p => ⟨List.mem_cons_self, fun q hq => by
      rw [List.mem_singleton.mp hq]
      show ¬ ltP2 p p
      unfold ltP2
      omega⟩
  | r :: ps, p => by
    show maxP (if ltP2 p r then r else p) ps ∈ _ ∧ ∀ q ∈ p :: r :: ps, ¬ ltP2 (maxP (if ltP2 p r then r else p) ps) q
    by_cases h : ltP2 p r
    · rw [if_pos h]
      obtain ⟨h1, h2⟩ := maxP_spec ps r
      refine ⟨List.mem_cons_of_mem _ h1, fun q hq => ?_⟩
      rcases List.mem_cons.mp hq with rfl | hq
      · have := h2 r List.mem_cons_self
        exact fun z => this (by unfold ltP2 at *; omega)
      · exact h2 q hq
    · rw [if_neg h]
      obtain ⟨h1, h2⟩ := maxP_spec ps p
      refine ⟨?_, fun q hq => ?_⟩
      · rcases List.mem_cons.mp h1 with e | e
        · rw [e]; exact List.mem_cons_self
        · exact List.mem_cons_of_mem _ (List.mem_cons_of_mem _ e)
      · rcases List.mem_cons.mp hq with rfl | hq
        · exact h2 q List.mem_cons_self
        · rcases List.mem_cons.mp hq with rfl | hq
          · have := h2 p List.mem_cons_self
            exact fun z => this (by unfold ltP2 at *; omega)
          · exact h2 q (List.mem_cons_of_mem _ hq)
theorem pairs_alike (ps : List (Int × Int)) : PySem.W.AlikeAll (ps.map pairD) := by
  refine ⟨fun x hx y hy => ?_, fun x hx => ?_⟩
  · obtain ⟨p, _, rfl⟩ := List.mem_map.mp hx
    obtain ⟨q, _, rfl⟩ := List.mem_map.mp hy
    rfl
  · obtain ⟨p, _, rfl⟩ := List.mem_map.mp hx
    exact fun z => nomatch z
theorem pairs_lay : ∀ ps : List (Int × Int), PyData.canLayAll0 (ps.map pairD) = true
  | [] => rfl
  | p :: ps => by simp [PyData.canLayAll0, PyData.canLay0, pairD, pairs_lay ps]
theorem pairs_depth : ∀ ps : List (Int × Int), PyData.depthAll (ps.map pairD) ≤ 2
  | [] => by simp [PyData.depthAll]
  | p :: ps => by
    have := pairs_depth ps
    simp only [List.map_cons, PyData.depthAll, pairD, PyData.depth]
    omega
/-- a list of pairs, at a -/
def PairsAt (K : PySem.W.Frag) (H : Hp) (a : Addr) (ps : List (Int × Int)) : Prop := ∃ as : List Addr, SqL K H a (as.map V.ref) ∧ as.length = ps.length ∧ ∀ (i : Nat) (t : Addr) (p : Int × Int), as[i]? = some t → ps[i]? = some p → SqT K H t [.int p.1, .int p.2]
theorem pairs_dp {K : PySem.W.Frag} {H : Hp} : ∀ {as : List Addr} {ps : List (Int × Int)}, as.length = ps.length → (∀ (i : Nat) (t : Addr) (p : Int × Int), as[i]? = some t → ps[i]? = some p → SqT K H t [.int p.1, .int p.2]) → DpAll K H (as.map V.ref) (ps.map pairD)
  | [], [], _, _ => .nil
  | [], _ :: _, h, _ => by simp at h
  | _ :: _, [], h, _ => by simp at h
  | a :: as, p :: ps, h, k => .cons (.tup (k 0 a p rfl rfl) (.cons (.int _) (.cons (.int _) .nil))) (pairs_dp (by simpa using h) fun i t q ht hq => k (i + 1) t q (by simpa using ht) (by simpa using hq))
def rMnP (K : PySem.W.Frag) (best : Int × Int → List (Int × Int) → Int × Int) : List V → Hp → VK → Prop := fun xs H Q => ∃ (a : Addr) (p : Int × Int) (ps : List (Int × Int)), xs = [.ref a] ∧ PairsAt K H a (p :: ps) ∧ ∀ t, SqT K H t [.int (best p ps).1, .int (best p ps).2] → Q (.ref t) H
section
variable {X : Cx} {K : PySem.W.Frag}
theorem pick {H : Hp} {s : Shared} {as : List Addr} {ps : List (Int × Int)} {its : List Value} {i : Nat} {v : Value} {h' : Heap} {bs cs : List Addr} {b : Int × Int} (hl : as.length = ps.length)
    (hT : ∀ (i : Nat) (t : Addr) (p : Int × Int), as[i]? = some t → ps[i]? = some p → SqT K H t [.int p.1, .int p.2]) (rv : Vals (as.map V.ref) its) (hr : ReadsAll s.heap its (ps.map pairD) cs) (hv : its.toArray[i]? = some v) (rd : Reads h' v (pairD b) bs)
    (hk : ∀ b o, s.heap.get? b = some o → h'.get? b = some o) : ∃ t, v = .ref t ∧ SqT K H t [.int b.1, .int b.2] := by
  have hv' : its[i]? = some v := by simpa using hv
  have hil : i < its.length := (List.getElem?_eq_some_iff.mp hv').1
  have hvl := rv.length
  rw [List.length_map] at hvl
  obtain ⟨u, hu, ru⟩ := rv.get (show (as.map V.ref)[i]? = some (.ref (as[i]'(by omega))) by rw [List.getElem?_map, List.getElem?_eq_getElem (by omega)]; rfl)
  rw [hv'] at hu
  cases hu
  have hp : ps[i]? = some (ps[i]'(by omega)) := List.getElem?_eq_getElem (by omega)
  obtain ⟨ds, r1, _, _, _⟩ := PySem.W.readsAll_at hr i v hv'
  have e1 : (ps.map pairD).getD i .none = pairD (ps[i]'(by omega)) := by
    rw [List.getD_eq_getElem?_getD, List.getElem?_map, hp]
    rfl
  rw [e1] at r1
  have e2 := PySem.SeqAt.Reads.unique (pairD b) _ v _ _ (by simp [pairD, PyData.canLay0, PyData.canLayAll0]) rd (Reads.keeps hk r1)
  have e3 : b = ps[i]'(by omega) := by
    unfold pairD at e2
    injection e2 with e2
    injection e2 with e4 e5
    injection e5 with e5 _
    injection e4 with e4
    injection e5 with e5
    exact Prod.ext e4 e5
  refine ⟨as[i]'(by omega), ru, ?_⟩
  rw [e3]
  exact hT i _ _ (List.getElem?_eq_getElem (by omega)) hp
theorem k_minP (K : PySem.W.Frag) (h : X.K = K) (hc : X.calm = true) (hu : X.A.units + 65 < cLine) : CallR X (.builtin "min") (rMnP K minP) := by
  subst h
  intro pins s σ H xs us Q I r h
  obtain ⟨a, p, ps, rfl, ⟨as, hS, hl, hT⟩, q⟩ := h
  obtain ⟨its, rv, hL, _⟩ := I.list hS
  rw [Vals.ref1 r]
  obtain ⟨cs, hr⟩ := Dp.readsAll I _ _ its (pairs_dp hl hT) rv
  have hd := pairs_depth (p :: ps)
  refine PySem.W.min_list_data (I.ok.hd hc) hL.isList (show ReadsAll s.heap its.toArray.toList (pairD p :: ps.map pairD) cs by simpa using hr) (pairs_alike (p :: ps)) (by rw [List.map_cons] at hd; omega) fun i v h' tk bs hv rd hk => ?_
  rw [minP_data] at rd
  obtain ⟨t, rfl, ht⟩ := pick hl hT rv hr hv rd hk
  exact ⟨.ref t, H, I.kept hk, rfl, q t ht⟩
theorem k_maxP (K : PySem.W.Frag) (h : X.K = K) (hc : X.calm = true) (hu : X.A.units + 65 < cLine) : CallR X (.builtin "max") (rMnP K maxP) := by
  subst h
  intro pins s σ H xs us Q I r h
  obtain ⟨a, p, ps, rfl, ⟨as, hS, hl, hT⟩, q⟩ := h
  obtain ⟨its, rv, hL, _⟩ := I.list hS
  rw [Vals.ref1 r]
  obtain ⟨cs, hr⟩ := Dp.readsAll I _ _ its (pairs_dp hl hT) rv
  have hd := pairs_depth (p :: ps)
  refine PySem.W.max_list_data (I.ok.hd hc) hL.isList (show ReadsAll s.heap its.toArray.toList (pairD p :: ps.map pairD) cs by simpa using hr) (pairs_alike (p :: ps)) (by rw [List.map_cons] at hd; omega) fun i v h' tk bs hv rd hk => ?_
  rw [maxP_data] at rd
  obtain ⟨t, rfl, ht⟩ := pick hl hT rv hr hv rd hk
  exact ⟨.ref t, H, I.kept hk, rfl, q t ht⟩
theorem huM {k : Nat} {A : Around} (r : Room k A) : A.units + 65 < cLine := by have := r.un; omega
end
end My

namespace My
open PySem PySem.Spec PyProof.Rows L2 Pre
/-! ### data in a heap: what is told of a value by lists and tuples that stand there (none of them frozen) -/
mutual
inductive Dt (H : Hp) : V → PyData → Prop
  | non : Dt H .non .none
  | bl (b : Bool) : Dt H (.bl b) (.bool b)
  | int (n : Int) : Dt H (.int n) (.int n)
  | str (x : Str) : Dt H (.str x) (.str x)
  | lst {a : Addr} {xs : List V} {ds : List PyData} : H a = some (.lst xs) → DtA H xs ds → Dt H (.ref a) (.list ds)
  | tup {a : Addr} {xs : List V} {ds : List PyData} : H a = some (.tup xs) → DtA H xs ds → Dt H (.ref a) (.tuple ds)
inductive DtA (H : Hp) : List V → List PyData → Prop
  | nil : DtA H [] []
  | cons {v : V} {vs : List V} {d : PyData} {ds : List PyData} : Dt H v d → DtA H vs ds → DtA H (v :: vs) (d :: ds)
end
mutual
theorem Dt.same {H H' : Hp} (s : Same H H') : ∀ {d : PyData} {v : V}, Dt H v d → Dt H' v d
  | .none, _, h => by cases h; exact .non
  | .bool _, _, h => by cases h; exact .bl _
  | .int _, _, h => by cases h; exact .int _
  | .str _, _, h => by cases h; exact .str _
  | .list _, _, h => by cases h with | lst a b => exact .lst (s _ _ a) (DtA.same s b)
  | .tuple _, _, h => by cases h with | tup a b => exact .tup (s _ _ a) (DtA.same s b)
  | .dict _, _, h => nomatch h
theorem DtA.same {H H' : Hp} (s : Same H H') : ∀ {ds : List PyData} {vs : List V}, DtA H vs ds → DtA H' vs ds
  | [], _, h => by cases h; exact .nil
  | _ :: _, _, h => by cases h with | cons a b => exact .cons (Dt.same s a) (DtA.same s b)
end
mutual
theorem Dt.dp {K : PySem.W.Frag} {H : Hp} : ∀ {d : PyData} {v : V}, Dt H v d → Dp K H v d
  | .none, _, h => by cases h; exact .non
  | .bool _, _, h => by cases h; exact .bl _
  | .int _, _, h => by cases h; exact .int _
  | .str _, _, h => by cases h; exact .str _
  | .list _, _, h => by cases h with | lst a b => exact .lst (.inl (.inl a)) (DtA.dp b)
  | .tuple _, _, h => by cases h with | tup a b => exact .tup (.inl (.inl a)) (DtA.dp b)
  | .dict _, _, h => nomatch h
theorem DtA.dp {K : PySem.W.Frag} {H : Hp} : ∀ {ds : List PyData} {vs : List V}, DtA H vs ds → DpAll K H vs ds
  | [], _, h => by cases h; exact .nil
  | _ :: _, _, h => by cases h with | cons a b => exact .cons (Dt.dp a) (DtA.dp b)
end
theorem DtA.len {H : Hp} : ∀ {ds : List PyData} {vs : List V}, DtA H vs ds → vs.length = ds.length
  | [], _, h => by cases h; rfl
  | _ :: _, _, h => by cases h with | cons a b => rw [List.length_cons, List.length_cons, DtA.len b]
theorem DtA.app {H : Hp} : ∀ {ds : List PyData} {vs : List V} {es : List PyData} {us : List V}, DtA H vs ds → DtA H us es → DtA H (vs ++ us) (ds ++ es)
  | [], _, _, _, h, k => by cases h; exact k
  | _ :: _, _, _, _, h, k => by cases h with | cons a b => exact .cons a (DtA.app b k)
theorem DtA.get {H : Hp} : ∀ {ds : List PyData} {vs : List V} {i : Nat} {d : PyData}, DtA H vs ds → ds[i]? = some d → ∃ v, vs[i]? = some v ∧ Dt H v d
  | [], _, _, _, _, k => by simp at k
  | _ :: _, _, 0, _, h, k => by
    cases h with
    | cons a b => rw [List.getElem?_cons_zero] at k; cases k; exact ⟨_, rfl, a⟩
  | _ :: _, _, i + 1, _, h, k => by
    cases h with
    | cons a b => rw [List.getElem?_cons_succ] at k; rw [List.getElem?_cons_succ]; exact DtA.get b k
theorem DtA.got {H : Hp} {ds : List PyData} {vs : List V} {i : Nat} {v : V} (h : DtA H vs ds) (k : vs[i]? = some v) : ∃ d, ds[i]? = some d ∧ Dt H v d := by
  have hi := (List.getElem?_eq_some_iff.mp k).1
  have hl := h.len
  obtain ⟨u, hu, d⟩ := h.get (List.getElem?_eq_getElem (show i < ds.length by omega))
  rw [k] at hu
  cases hu
  exact ⟨_, List.getElem?_eq_getElem (by omega), d⟩
theorem DtA.take {H : Hp} : ∀ {ds : List PyData} {vs : List V} (n : Nat), DtA H vs ds → DtA H (vs.take n) (ds.take n)
  | _, _, 0, _ => .nil
  | [], _, _ + 1, h => by cases h; exact .nil
  | _ :: _, _, n + 1, h => by cases h with | cons a b => exact .cons a (DtA.take n b)
theorem DtA.drop {H : Hp} : ∀ {ds : List PyData} {vs : List V} (n : Nat), DtA H vs ds → DtA H (vs.drop n) (ds.drop n)
  | _, _, 0, h => h
  | [], _, _ + 1, h => by cases h; exact .nil
  | _ :: _, _, n + 1, h => by cases h with | cons a b => exact DtA.drop n b
theorem DtA.rev {H : Hp} : ∀ {ds : List PyData} {vs : List V}, DtA H vs ds → DtA H vs.reverse ds.reverse
  | [], _, h => by cases h; exact .nil
  | _ :: _, _, h => by
    cases h with
    | cons a b => rw [List.reverse_cons, List.reverse_cons]; exact DtA.app (DtA.rev b) (.cons a .nil)
theorem DtA.ints {H : Hp} : ∀ ns : List Int, DtA H (ns.map V.int) (ns.map PyData.int)
  | [] => .nil
  | n :: r => .cons (.int n) (DtA.ints r)
theorem DtA.intsE {H : Hp} : ∀ {ns : List Int} {vs : List V}, DtA H vs (ns.map PyData.int) → vs = ns.map V.int
  | [], _, h => by cases h; rfl
  | n :: r, _, h => by
    cases h with
    | cons a b => cases a; rw [DtA.intsE b]; rfl
/-- a list of whole numbers -/
theorem Dt.ints {H : Hp} {a : Addr} {ns : List Int} (h : H a = some (.lst (ns.map V.int))) : Dt H (.ref a) (rowD ns) := .lst h (DtA.ints ns)
theorem Dt.intsE {H : Hp} {v : V} {ns : List Int} (h : Dt H v (rowD ns)) : ∃ a, v = .ref a ∧ H a = some (.lst (ns.map V.int)) := by
  unfold rowD at h
  cases h with
  | lst a b => rw [DtA.intsE b] at a; exact ⟨_, rfl, a⟩
theorem Dt.listE {H : Hp} {v : V} {ds : List PyData} (h : Dt H v (.list ds)) : ∃ a xs, v = .ref a ∧ H a = some (.lst xs) ∧ DtA H xs ds := by
  cases h with
  | lst a b => exact ⟨_, _, rfl, a, b⟩
theorem Dt.tupE {H : Hp} {v : V} {ds : List PyData} (h : Dt H v (.tuple ds)) : ∃ a xs, v = .ref a ∧ H a = some (.tup xs) ∧ DtA H xs ds := by
  cases h with
  | tup a b => exact ⟨_, _, rfl, a, b⟩
/-! ### what is owned (and changes) is left out -/
def rs (S : List Addr) (H : Hp) : Hp := fun a => if a ∈ S then none else H a
theorem rs_nil (H : Hp) : rs [] H = H := by funext a; simp [rs]
theorem rs_in {S : List Addr} {H : Hp} {a : Addr} (h : a ∈ S) : rs S H a = none := if_pos h
theorem rs_out {S : List Addr} {H : Hp} {a : Addr} (h : a ∉ S) : rs S H a = H a := if_neg h
theorem rs_some {S : List Addr} {H : Hp} {a : Addr} {o : HO} (h : rs S H a = some o) : a ∉ S ∧ H a = some o := by
  by_cases m : a ∈ S
  · rw [rs_in m] at h; cases h
  · rw [rs_out m] at h; exact ⟨m, h⟩
theorem rs_le {S : List Addr} {H : Hp} : Same (rs S H) H := fun _ _ h => (rs_some h).2
theorem rs_same {S : List Addr} {H H' : Hp} (s : Same H H') : Same (rs S H) (rs S H') := fun b o h => by
  obtain ⟨m, e⟩ := rs_some h
  rw [rs_out m]
  exact s b o e
theorem rs_upd {S : List Addr} {H : Hp} {p : Addr} {o : HO} (h : p ∈ S) : rs S (L2.upd H p o) = rs S H := by
  funext a
  by_cases m : a ∈ S
  · rw [rs_in m, rs_in m]
  · rw [rs_out m, rs_out m, upd_ne (fun e => m (by rw [e]; exact h))]
/-- all of them stand -/
def Has (S : List Addr) (H : Hp) : Prop := ∀ a ∈ S, ∃ o, H a = some o
theorem Has.nil {H : Hp} : Has [] H := fun _ h => nomatch h
theorem Has.same {S : List Addr} {H H' : Hp} (h : Has S H) (s : Same H H') : Has S H' := fun a m => by
  obtain ⟨o, e⟩ := h a m
  exact ⟨o, s a o e⟩
theorem Has.cons {S : List Addr} {H : Hp} {p : Addr} {o : HO} (h : Has S H) (e : H p = some o) : Has (p :: S) H := fun a m => by
  rcases List.mem_cons.mp m with rfl | m
  · exact ⟨o, e⟩
  · exact h a m
theorem Has.upd {S : List Addr} {H : Hp} {p : Addr} {o : HO} (h : Has S H) : Has S (L2.upd H p o) := fun a m => by
  by_cases e : a = p
  · subst e; exact ⟨o, upd_same⟩
  · rw [upd_ne e]; exact h a m
theorem Has.out {S : List Addr} {H : Hp} {p : Addr} (h : Has S H) (n : H p = none) : p ∉ S := fun m => by
  obtain ⟨o, e⟩ := h p m
  rw [n] at e
  cases e
theorem GenAt.has {H : Hp} {g : Addr} {n : Nat} (h : GenAt H g n) : Has [g] H := by
  obtain ⟨x, y, z, e, _⟩ := h
  exact Has.nil.cons e
/-- all but what is owned stays -/
def Sta (S : List Addr) (H H' : Hp) : Prop := Same (rs S H) (rs S H')
theorem Sta.of {S : List Addr} {H H' : Hp} (s : Same H H') : Sta S H H' := rs_same s
theorem Sta.trans {S : List Addr} {H H1 H2 : Hp} (a : Sta S H H1) (b : Sta S H1 H2) : Sta S H H2 := fun c o h => b c o (a c o h)
theorem Sta.at_ {S : List Addr} {H H' : Hp} (s : Sta S H H') {a : Addr} {o : HO} (m : a ∉ S) (h : H a = some o) : H' a = some o := (rs_some (s a o (by rw [rs_out m]; exact h))).2
theorem Sta.upd {S : List Addr} {H : Hp} {p : Addr} {o : HO} (h : p ∈ S) : Sta S H (L2.upd H p o) := fun c u e => by rw [rs_upd h]; exact e
theorem Sta.more {S : List Addr} {H H' : Hp} {p : Addr} (s : Sta S H H') : Sta (p :: S) H H' := fun c o h => by
  obtain ⟨m, e⟩ := rs_some h
  have m2 : c ∉ S := fun z => m (List.mem_cons_of_mem _ z)
  rw [rs_out m]
  exact s.at_ m2 e
theorem But.sta {g : Addr} {H H' : Hp} (b : But g H H') : Sta [g] H H' := fun c o h => by
  obtain ⟨m, e⟩ := rs_some h
  rw [rs_out m]
  exact b c o (fun z => m (by rw [z]; exact List.mem_cons_self)) e
/-- what was there ahead of a new thing does not speak of it -/
theorem under {S : List Addr} {H H' : Hp} {p : Addr} (n : H p = none) (s : Same H H') : Same (rs S H) (rs (p :: S) H') := fun c o h => by
  obtain ⟨m, e⟩ := rs_some h
  rw [rs_out (fun z => by
    rcases List.mem_cons.mp z with rfl | z
    · rw [n] at e; cases e
    · exact m z)]
  exact s c o e
theorem over {S : List Addr} {H : Hp} {p : Addr} : Same (rs (p :: S) H) (rs S H) := fun c o h => by
  obtain ⟨m, e⟩ := rs_some h
  rw [rs_out (fun z => m (List.mem_cons_of_mem _ z))]
  exact e
/-! ### a new list, a new tuple, a sum of lists -/
theorem dt_new {S : List Addr} {H : Hp} {p : Addr} {xs : List V} {ds : List PyData} (hS : Has S H) (n : H p = none) (h : DtA (rs S H) xs ds) : Dt (rs S (upd H p (.lst xs))) (.ref p) (.list ds) :=
  .lst (by rw [rs_out (hS.out n)]; exact upd_same) (h.same (rs_same (same_upd n)))
theorem dt_newT {S : List Addr} {H : Hp} {p : Addr} {xs : List V} {ds : List PyData} (hS : Has S H) (n : H p = none) (h : DtA (rs S H) xs ds) : Dt (rs S (upd H p (.tup xs))) (.ref p) (.tuple ds) :=
  .tup (by rw [rs_out (hS.out n)]; exact upd_same) (h.same (rs_same (same_upd n)))
theorem d_lst {S : List Addr} {H : Hp} {xs : List V} {ds : List PyData} {Q : VK} (hS : Has S H) (h : DtA (rs S H) xs ds) (hz : xs.length ≤ sizeLine) (k : ∀ p H', Same H H' → H p = none → H' p = some (.lst xs) → Dt (rs S H') (.ref p) (.list ds) → Q (.ref p) H') : xs.length ≤ sizeLine ∧ ∀ p, H p = none → Q (.ref p) (upd H p (.lst xs)) :=
  ⟨hz, fun p n => k p _ (same_upd n) n upd_same (dt_new hS n h)⟩
theorem d_tup {S : List Addr} {H : Hp} {xs : List V} {ds : List PyData} {Q : VK} (hS : Has S H) (h : DtA (rs S H) xs ds) (hz : xs.length ≤ sizeLine) (k : ∀ p H', Same H H' → H p = none → H' p = some (.tup xs) → Dt (rs S H') (.ref p) (.tuple ds) → Q (.ref p) H') : xs.length ≤ sizeLine ∧ ∀ p, H p = none → Q (.ref p) (upd H p (.tup xs)) :=
  ⟨hz, fun p n => k p _ (same_upd n) n upd_same (dt_newT hS n h)⟩
theorem d_cat {S : List Addr} {H : Hp} {v w : V} {ds es : List PyData} {Q : VK} (hS : Has S H) (hv : Dt (rs S H) v (.list ds)) (hw : Dt (rs S H) w (.list es)) (hz : ds.length + es.length ≤ sizeLine) (k : ∀ p H', Same H H' → H p = none → Dt (rs S H') (.ref p) (.list (ds ++ es)) → Q (.ref p) H') : rCat v w H Q := by
  obtain ⟨a, xs, rfl, ha, hx⟩ := hv.listE
  obtain ⟨b, ys, rfl, hb, hy⟩ := hw.listE
  exact ⟨a, b, xs, ys, rfl, rfl, (rs_some ha).2, (rs_some hb).2, by rw [hx.len, hy.len]; exact hz, fun p n => k p _ (same_upd n) n (dt_new hS n (hx.app hy))⟩
theorem d_eq {K : PySem.W.Frag} {H : Hp} {v w : V} {d e : PyData} {Q : VK} (hv : Dt H v d) (hw : Dt H w e) (sd : SeqAt.shaped d = true) (se : SeqAt.shaped e = true) (q : Q (.bl (PyData.eqv d e)) H) : rEqD K v w H Q := ⟨d, e, hv.dp, hw.dp, sd, se, q⟩
theorem d_ne {K : PySem.W.Frag} {H : Hp} {v w : V} {d e : PyData} {Q : VK} (hv : Dt H v d) (hw : Dt H w e) (sd : SeqAt.shaped d = true) (se : SeqAt.shaped e = true) (q : Q (.bl (!PyData.eqv d e)) H) : rNeD K v w H Q := ⟨d, e, hv.dp, hw.dp, sd, se, q⟩
/-! ### comprehensions -/
/-- what comes of an item: nothing, or data -/
def Out (S : List Addr) (H : Hp) : Option PyData → Option V → Prop
  | some d, some v => Dt (rs S H) v d
  | none, none => True
  | _, _ => False
def accP (S : List Addr) (H1 : Hp) (D : Addr) (ds : List PyData) (H : Hp) : Prop := Same H1 H ∧ ∃ ys, H D = some (.lst ys) ∧ DtA (rs (D :: S) H) ys ds
theorem acc_step {S : List Addr} {H1 : Hp} {D : Addr} {sel : List (Option PyData)} {i : Nat} {o : Option PyData} {H H4 : Hp} (nD : H1 D = none) (ho : sel[i]? = some o) (hz : sel.length < sizeLine) (h : accP S H1 D ((sel.take i).filterMap id) H) (s4 : Same H H4) :
    ∀ y : Option V, Out (D :: S) H4 o y → match y with
      | some v => ∃ acc, H4 D = some (.lst acc) ∧ acc.length < sizeLine ∧ accP S H1 D ((sel.take (i + 1)).filterMap id) (upd H4 D (.lst (acc ++ [v])))
      | none => accP S H1 D ((sel.take (i + 1)).filterMap id) H4 := by
  obtain ⟨s, ys, hD, hy⟩ := h
  intro y hO
  rw [take_fm ho]
  cases o with
  | none =>
    cases y with
    | none => exact ⟨s.trans s4, ys, s4 _ _ hD, by simpa using hy.same (rs_same s4)⟩
    | some v => exact absurd hO (fun z => z)
  | some d =>
    cases y with
    | none => exact absurd hO (fun z => z)
    | some v =>
      refine ⟨ys, s4 _ _ hD, ?_, same_over nD (s.trans s4), ys ++ [v], upd_same, ?_⟩
      · rw [hy.len]
        exact Nat.lt_of_le_of_lt (fm_len sel i) hz
      · rw [rs_upd List.mem_cons_self]
        exact (hy.same (rs_same s4)).app (.cons hO .nil)
theorem acc_end {S : List Addr} {H1 : Hp} {D : Addr} {ds : List PyData} {H : Hp} (hS : Has S H1) (nD : H1 D = none) (h : accP S H1 D ds H) : Dt (rs S H) (.ref D) (.list ds) := by
  obtain ⟨s, ys, hD, hy⟩ := h
  exact .lst (by rw [rs_out (hS.out nD)]; exact hD) (hy.same over)
theorem lc_dR {lo : Int} {n : Nat} {j : Nat} {tt : TT} {te : TE} {vs : List Nat} {σ : L2.St} {H1 : Hp} {D : Addr} {Qd : Hp → Prop} {S : List Addr} (hS : Has S H1) (sel : List (Option PyData)) (nD : H1 D = none) (hlen : sel.length = n) (hz : n < sizeLine)
    (hw : ∀ x, wipe ((wipe σ vs).set j (some x)) vs = wipe σ vs)
    (hs : ∀ (i : Nat) (o : Option PyData) (H' : Hp), i < n → sel[i]? = some o → Same H1 H' → Has (D :: S) H' → ∀ Qt : Option V → Hp → Prop, (∀ y H'', Same H' H'' → Out (D :: S) H'' o y → Qt y H'') →
      tt ((wipe σ vs).set j (some (.int (lo + (i : Int))))) H' fun b H3 => if b = true then te ((wipe σ vs).set j (some (.int (lo + (i : Int))))) H3 fun y H4 => Qt (some y) H4 else Qt none H3)
    (hd : ∀ H', Same H1 H' → H' D ≠ none → Dt (rs S H') (.ref D) (.list (sel.filterMap id)) → Qd H') :
    ∃ W : Nat → Nat → Hp → Prop, (∃ m, W 0 m (upd H1 D (.lst []))) ∧ ∀ i m H, W i m H →
      ((Itr lo n).stop i H ∧ Qd H) ∨ ((Itr lo n).go i H ∧ ∃ Nx : Hp → Prop, (∀ H', Nx H' → ∃ m', m' < m ∧ W (i + 1) m' H') ∧ ∀ x H', (Itr lo n).yld i H x H' → gName j x (wipe σ vs) H' fun σ2 H2 => wipe σ2 vs = wipe σ vs ∧ tt σ2 H2 fun b H3 =>
        if b = true then te σ2 H3 fun y H4 => ∃ acc, H4 D = some (.lst acc) ∧ acc.length < sizeLine ∧ Nx (upd H4 D (.lst (acc ++ [y]))) else Nx H3) := by
  refine lc_range (lo := lo) (n := n) (fun i H => accP S H1 D ((sel.take i).filterMap id) H) ⟨same_upd nD, [], upd_same, .nil⟩ ?_ ?_
  · rintro i H hi h
    refine ⟨hw _, ?_⟩
    have ho : sel[i]? = some (sel[i]'(by omega)) := List.getElem?_eq_getElem (by omega)
    obtain ⟨s, ys, hD, hy⟩ := id h
    exact hs i _ H hi ho s ((hS.same s).cons hD) (fun o H4 => match o with
      | some y => ∃ acc, H4 D = some (.lst acc) ∧ acc.length < sizeLine ∧ accP S H1 D ((sel.take (i + 1)).filterMap id) (upd H4 D (.lst (acc ++ [y])))
      | none => accP S H1 D ((sel.take (i + 1)).filterMap id) H4) fun y H4 s4 hO => acc_step nD ho (by omega) h s4 y hO
  · rintro H h
    rw [← hlen, List.take_length] at h
    refine hd H h.1 ?_ (acc_end hS nD h)
    obtain ⟨_, ys, hD, _⟩ := h
    rw [hD]
    exact fun z => nomatch z
theorem lc_dL {K : PySem.W.Frag} {a : Addr} {xs : List V} {j : Nat} {tt : TT} {te : TE} {vs : List Nat} {σ : L2.St} {H1 : Hp} {D : Addr} {Qd : Hp → Prop} {S : List Addr} (hS : Has S H1) (sel : List (Option PyData)) (nD : H1 D = none) (hA : SqL K H1 a xs) (hlen : sel.length = xs.length) (hz : xs.length < sizeLine)
    (hw : ∀ x, wipe ((wipe σ vs).set j (some x)) vs = wipe σ vs)
    (hs : ∀ (i : Nat) (x : V) (o : Option PyData) (H' : Hp), xs[i]? = some x → sel[i]? = some o → Same H1 H' → Has (D :: S) H' → ∀ Qt : Option V → Hp → Prop, (∀ y H'', Same H' H'' → Out (D :: S) H'' o y → Qt y H'') →
      tt ((wipe σ vs).set j (some x)) H' fun b H3 => if b = true then te ((wipe σ vs).set j (some x)) H3 fun y H4 => Qt (some y) H4 else Qt none H3)
    (hd : ∀ H', Same H1 H' → H' D ≠ none → Dt (rs S H') (.ref D) (.list (sel.filterMap id)) → Qd H') :
    ∃ W : Nat → Nat → Hp → Prop, (∃ m, W 0 m (upd H1 D (.lst []))) ∧ ∀ i m H, W i m H →
      ((Itl K a).stop i H ∧ Qd H) ∨ ((Itl K a).go i H ∧ ∃ Nx : Hp → Prop, (∀ H', Nx H' → ∃ m', m' < m ∧ W (i + 1) m' H') ∧ ∀ x H', (Itl K a).yld i H x H' → gName j x (wipe σ vs) H' fun σ2 H2 => wipe σ2 vs = wipe σ vs ∧ tt σ2 H2 fun b H3 =>
        if b = true then te σ2 H3 fun y H4 => ∃ acc, H4 D = some (.lst acc) ∧ acc.length < sizeLine ∧ Nx (upd H4 D (.lst (acc ++ [y]))) else Nx H3) := by
  refine lc_list (K := K) (a := a) (xs := xs) (fun i H => accP S H1 D ((sel.take i).filterMap id) H) ⟨same_upd nD, [], upd_same, .nil⟩ (fun i H _ p => p.1.seq hA) ?_ ?_
  · rintro i x H hx h
    refine ⟨hw _, ?_⟩
    have hi := (List.getElem?_eq_some_iff.mp hx).1
    have ho : sel[i]? = some (sel[i]'(by omega)) := List.getElem?_eq_getElem (by omega)
    obtain ⟨s, ys, hD, hy⟩ := id h
    exact hs i x _ H hx ho s ((hS.same s).cons hD) (fun o H4 => match o with
      | some y => ∃ acc, H4 D = some (.lst acc) ∧ acc.length < sizeLine ∧ accP S H1 D ((sel.take (i + 1)).filterMap id) (upd H4 D (.lst (acc ++ [y])))
      | none => accP S H1 D ((sel.take (i + 1)).filterMap id) H4) fun y H4 s4 hO => acc_step nD ho (by omega) h s4 y hO
  · rintro H h
    rw [← hlen, List.take_length] at h
    refine hd H h.1 ?_ (acc_end hS nD h)
    obtain ⟨_, ys, hD, _⟩ := h
    rw [hD]
    exact fun z => nomatch z
/-- maps: each item's data -/
theorem sel_map {α : Type} (l : List α) (f : α → PyData) : (l.map fun x => some (f x)).filterMap id = l.map f := by
  induction l with
  | nil => rfl
  | cons x l ih =>
    show f x :: (l.map fun x => some (f x)).filterMap id = _
    rw [ih]
    rfl
/-- over any walk -/
theorem lc_dW {J : It} {n : Nat} {G : Hp → Prop} {Y : Nat → Hp → V → Hp → Prop} (w : Walk J n G Y) {g : TG} {tt : TT} {te : TE} {vs : List Nat} {σ : L2.St} {H1 : Hp} {D : Addr} {Qd : Hp → Prop} {S : List Addr} (hS : Has S H1) (sel : List (Option PyData)) (nD : H1 D = none) (hlen : sel.length = n) (hz : n < sizeLine)
    (hG : ∀ H', Same H1 H' → G H')
    (hs : ∀ (i : Nat) (o : Option PyData) (H0 : Hp) (x : V) (H' : Hp), i < n → sel[i]? = some o → Same H1 H0 → Has (D :: S) H0 → Y i H0 x H' → ∀ Qt : Option V → Hp → Prop, (∀ y H'', Same H0 H'' → Out (D :: S) H'' o y → Qt y H'') →
      g x (wipe σ vs) H' fun σ2 H2 => wipe σ2 vs = wipe σ vs ∧ tt σ2 H2 fun b H3 => if b = true then te σ2 H3 fun y H4 => Qt (some y) H4 else Qt none H3)
    (hd : ∀ H', Same H1 H' → H' D ≠ none → Dt (rs S H') (.ref D) (.list (sel.filterMap id)) → Qd H') :
    ∃ W : Nat → Nat → Hp → Prop, (∃ m, W 0 m (upd H1 D (.lst []))) ∧ ∀ i m H, W i m H →
      (J.stop i H ∧ Qd H) ∨ (J.go i H ∧ ∃ Nx : Hp → Prop, (∀ H', Nx H' → ∃ m', m' < m ∧ W (i + 1) m' H') ∧ ∀ x H', J.yld i H x H' → g x (wipe σ vs) H' fun σ2 H2 => wipe σ2 vs = wipe σ vs ∧ tt σ2 H2 fun b H3 =>
        if b = true then te σ2 H3 fun y H4 => ∃ acc, H4 D = some (.lst acc) ∧ acc.length < sizeLine ∧ Nx (upd H4 D (.lst (acc ++ [y]))) else Nx H3) := by
  refine lc_it w (fun i H => accP S H1 D ((sel.take i).filterMap id) H) ⟨same_upd nD, [], upd_same, .nil⟩ (fun i H _ p => hG H p.1) ?_ ?_
  · rintro i x H H' hi h y
    have ho : sel[i]? = some (sel[i]'(by omega)) := List.getElem?_eq_getElem (by omega)
    obtain ⟨s, ys, hD, hy⟩ := id h
    exact hs i _ H x H' hi ho s ((hS.same s).cons hD) y (fun o H4 => match o with
      | some y => ∃ acc, H4 D = some (.lst acc) ∧ acc.length < sizeLine ∧ accP S H1 D ((sel.take (i + 1)).filterMap id) (upd H4 D (.lst (acc ++ [y])))
      | none => accP S H1 D ((sel.take (i + 1)).filterMap id) H4) fun y H4 s4 hO => acc_step nD ho (by omega) h s4 y hO
  · rintro H h
    rw [← hlen, List.take_length] at h
    refine hd H h.1 ?_ (acc_end hS nD h)
    obtain ⟨_, ys, hD, _⟩ := h
    rw [hD]
    exact fun z => nomatch z
theorem dt_pairs {K : PySem.W.Frag} {H : Hp} {a : Addr} {ps : List (Int × Int)} (h : Dt H (.ref a) (.list (ps.map pairD))) : PairsAt K H a ps := by
  cases h with
  | lst ha hx =>
    rename_i xs
    have key : ∀ (ps : List (Int × Int)) (xs : List V), DtA H xs (ps.map pairD) → ∃ as : List Addr, xs = as.map V.ref ∧ as.length = ps.length ∧ ∀ (i : Nat) (t : Addr) (p : Int × Int), as[i]? = some t → ps[i]? = some p → SqT K H t [.int p.1, .int p.2] := fun ps => by
      induction ps with
      | nil => intro xs h; cases h; exact ⟨[], rfl, rfl, fun i t p ht => by simp at ht⟩
      | cons p ps ih =>
        intro xs h
        cases h with
        | cons b c =>
          obtain ⟨as, rfl, hl, k⟩ := ih _ c
          obtain ⟨t, ys, rfl, ht, hy⟩ := (show Dt H _ (.tuple [.int p.1, .int p.2]) from b).tupE
          rw [DtA.intsE (ns := [p.1, p.2]) hy] at ht
          refine ⟨t :: as, rfl, by rw [List.length_cons, List.length_cons, hl], fun i u q hu hq => ?_⟩
          cases i with
          | zero =>
            rw [List.getElem?_cons_zero] at hu hq
            cases hu
            cases hq
            exact .inl (.inl ht)
          | succ i =>
            rw [List.getElem?_cons_succ] at hu hq
            exact k i u q hu hq
    obtain ⟨as, rfl, hl, k⟩ := key ps xs hx
    exact ⟨as, .inl (.inl ha), hl, k⟩
end My

namespace My
open PySem PySem.Spec PyProof.Rows L2 Pre
/-! ### promises for callers that stand in no repr: within them repr of lists shows its items -/
structure FnG (P : Program) (w : World) (K : PySem.W.Frag) (mg : Str → Option Value) (base : Heap) (CX : CXT) (k : Nat) (f : Addr) (fd : FuncData) (ps : List Str) (sp : Sp) : Prop where
  many : ∀ xs H Q E, sp xs H Q E → xs.length = ps.length
  does : ∀ (A : Around), A.guards = some [] → Room k A → ∀ (fr : List Env) (t : Shared) (H : Hp), Env0 P w K mg base A fr t H → ∀ (ar : Args) (us : List Value) (xs : List V), BindsTo t fd ar (ps.zip us) → Vals xs us →
    ∀ (Q : VK) (E : XK), sp xs H Q E → codeAny (model P w) A (.call (.ref f) ar) (CR CX fr P w H t Q E) t
section
variable {P : Program} {w : World} {K : PySem.W.Frag} {mg : Str → Option Value} {base : Heap} {CX : CXT} {k : Nat} {f : Addr} {fd : FuncData} {ps : List Str} {sp : Sp}
theorem FnG.of (F : FnOk P w K mg base CX k f fd ps sp) : FnG P w K mg base CX k f fd ps sp :=
  ⟨F.len, fun A _ hr fr t H e ar us xs b v Q E h => F.run A fr t H ar us xs Q E hr e b v h⟩
/-- a body makes a promise -/
theorem FnG.body {x qual : Str} {pr : Arguments} {bd : List Stmt} {sc : Scope} {dvs : List V} {kws : List (Str × V)} {N : List Str} (F : FunD K x qual pr bd sc dvs kws f fd) (S : FnScope N ps sc) (hm : ∀ xs H Q E, sp xs H Q E → xs.length = ps.length)
    (go : ∀ (cv : Value) (A : Around) (fr : List Env) (t : Shared) (H : Hp) (xs : List V) (Q : VK) (E : XK), A.guards = some [] → Room k (A.deeper (envOfC qual sc t.heap.objs.size f cv)) → sp xs H Q E →
      ∃ τ, PSs (cxOf CX P w K mg base N qual sc f cv A fr t H E) bd τ ∧ τ { nx := fun _ H1 => Q .non H1, rt := Q } (start N xs) H) : FnG P w K mg base CX (k + 1) f fd ps sp := by
  obtain ⟨c0, d0, dv, kv, dc, pm, an, cv, ct, sl, rfl, lk, hcode, _, _⟩ := F.ex
  refine ⟨hm, fun A gd hr fr t H e0 ar us xs hb rv Q E hs => ?_⟩
  have hin : K.In t.heap := e0.mod.kin.keeps fun b o z => (e0.bs b o z).1
  have hno : t.heap.NoLimit := e0.mod.nolimit.keeps fun b o z => (e0.bs b o z).1
  refine codeAny_call_function hr.depth (hin _ _ lk) rfl S.co S.gen rfl (PySem.W.codeRec_of hin hcode) (hb _ _ _ _ ?_)
  refine wpAny_newFunctionEnv_cells S.kind (fun y hy => ?_) fun env he t1 hx => ?_
  · obtain ⟨n, u⟩ := y
    rcases S.par n (List.of_mem_zip hy).1 with z | z
    · exact Or.inl z
    · exact Or.inr ⟨z, PySem.W.cellsFrom_some _ _ _ (Or.inl z)⟩
  · subst he
    refine ⟨hno.keeps hx.toInCall.keep, codeAny_func ?_⟩
    obtain ⟨τ, hτ, hq⟩ := go cv A fr t H xs Q E gd (hr.deeper _) hs
    have J := inv_start (CX := CX) (E := E) S hr.hd e0 (hm _ _ _ _ hs) rv hx
    refine wpAny_mono (hτ.run [] t1 (start N xs) H _ J hq) (fun fl t2 h2 => ?_) fun _ _ z => z
    cases fl with
    | brk => exact False.elim h2.choose_spec.choose_spec.2
    | cont => exact False.elim h2.choose_spec.choose_spec.2
    | next =>
      obtain ⟨σ2, H2, J2, q2⟩ := h2
      exact ⟨V.non, H2, J2.os, J2.bare, J2.base, J2.hok, rfl, q2⟩
    | ret u =>
      obtain ⟨v2, σ2, H2, J2, r2, q2⟩ := h2
      exact ⟨v2, H2, J2.os, J2.bare, J2.base, J2.hok, r2, q2⟩
end
section
variable {X : Cx} {CX : CXT} {k : Nat} {f : Addr} {fd : FuncData} {ps : List Str} {sp : Sp} {dvs : List V} {ds : List Value} {E : XK} {x : Str} {p pos : Pos} {e : Expr} {es : List Expr} {t : TA}
theorem go_g {pins : List (Addr × Obj)} {σ : L2.St} {H : Hp} {s : Shared} {Q : VK} {us : List Value} {xs : List V} (F : FnG X.prog X.w X.K X.mg X.base CX k f fd ps sp) (gd : X.A.guards = some []) (hr : Room k X.A) (hb : Binds X.K fd ps ds) (hd : Vals dvs ds)
    (hx : Passes CX X E) (I : Inv X pins σ H s) (r : Vals xs us) (h : sp (xs ++ dvs) H Q E) : wpAny (model X.prog X.w) X.A (call (.ref f) us) (EP X pins σ Q) X.xe s := by
  have rr := Vals.append r hd
  refine wpAny_call (codeAny_mono (F.does X.A gd hr X.stack s H I.env0 ⟨us, []⟩ (us ++ ds) (xs ++ dvs) (hb s us I.kIn (by rw [← rr.length]; exact F.many _ _ _ _ h)) rr Q E h) fun z s2 hz => ?_)
  match z, hz with
  | .error e, hz => exact hx pins σ H s e s2 I hz
  | .ok (.ret u), hz => exact I.after hz
theorem pe_callG (F : FnG X.prog X.w X.K X.mg X.base CX k f fd ps sp) (gd : X.A.guards = some []) (hr : Room k X.A) (hg : Gl X x) (hm : X.mg x = some (.ref f)) (hk : PySem.W.keepIn X.K (.ref f) = true) (hb : Binds X.K fd ps ds) (hd : Vals dvs ds) (hx : Passes CX X E)
    (ha : PA X (e :: es) t) (hdb : (x == ("__debug__" : Str)) = false := by decide) (he : starEach (e :: es) X.env = (false, eval e X.env) :: starEach es X.env := by rfl) (hpl : (backTo pos (starEach es X.env)).any (·.1) = false := by rfl) :
    PE X (.Call (.Name x p) (e :: es) [] pos) (tCall sp dvs E t) :=
  ⟨fun pins s σ H Q I h => wpAny_Call_Name_kw (ld_glob I hg hm (PySem.W.callWith_K (h₀ := X.base) I.ok.mod.kin hk (thn (ha.run pos pins s σ H _ I h) fun us s1 ⟨vs, H1, J, r, q⟩ => ⟨J.kIn, go_g F gd hr hb hd hx J r q⟩) he hpl) hdb)⟩
theorem pe_callG0 (F : FnG X.prog X.w X.K X.mg X.base CX k f fd ps sp) (gd : X.A.guards = some []) (hr : Room k X.A) (hg : Gl X x) (hm : X.mg x = some (.ref f)) (hk : PySem.W.keepIn X.K (.ref f) = true) (hb : Binds X.K fd ps ds) (hd : Vals dvs ds) (hx : Passes CX X E)
    (hdb : (x == ("__debug__" : Str)) = false := by decide) : PE X (.Call (.Name x p) [] [] pos) (tCall sp dvs E tNil) :=
  ⟨fun pins s σ H Q I h => wpAny_Call_Name_kw (ld_glob I hg hm (PySem.W.callWith_K0 I.kIn hk (go_g (us := []) F gd hr hb hd hx I .nil h)) hdb)⟩
end
/-! ### repr -/
def rRepr (K : PySem.W.Frag) : List V → Hp → VK → Prop := fun xs H Q => ∃ (x : V) (d : PyData), xs = [x] ∧ Dp K H x d ∧ d.showable = true ∧ SeqAt.shaped d = true ∧ d.shown.length ≤ sizeLine ∧ Q (.str d.shown) H
theorem call_repr {X : Cx} (gd : X.A.guards = some []) (hu : X.A.units + 65 < cLine) : CallR X (.builtin "repr") (rRepr X.K) := by
  intro pins s σ H xs us Q I r h
  obtain ⟨x, d, rfl, hd, hs, hsh, hl, q⟩ := h
  cases r with
  | cons rx rr =>
    cases rr
    rename_i u
    have hlay : d.canLay0 = true := SeqAt.canLay_of_shaped hsh
    have hdep : d.depth ≤ 64 := by
      have z : (d.canLay0 && decide (d.depth ≤ 64)) = true := hsh
      exact of_decide_eq_true (Bool.and_eq_true_iff.mp z).2
    obtain ⟨as, rd⟩ := Dp.reads I d x u hd rx
    have fin : ∀ h' v tk, (∀ b o, s.heap.get? b = some o → h'.get? b = some o) → EP X pins σ Q (.str d.shown v) { s with heap := h', toks := tk } := fun h' v tk hk => ⟨.str d.shown, H, I.kept hk, ⟨v, rfl⟩, q⟩
    cases hd with
    | non => cases rx; exact PySem.P.repr_of_none (fin _ _ _ fun _ _ z => z)
    | bl b => cases rx; exact PySem.P.repr_of_bool (fin _ _ _ fun _ _ z => z)
    | int i => obtain ⟨t, rfl⟩ := rx; exact PySem.P.repr_of_int (of_decide_eq_true hs) (fin _ _ _ fun _ _ z => z)
    | str y => obtain ⟨t, rfl⟩ := rx; exact PySem.P.repr_of_str (fin _ _ _ fun _ _ z => z) hl
    | lst _ _ => cases rx; exact repr_of_reads' rd hs (PyData.noDict_hsm (PyData.hasDict_of_canLay _ hlay)) gd (by omega) (fun _ _ z => z) fin hl
    | tup _ _ => cases rx; exact repr_of_reads' rd hs (PyData.noDict_hsm (PyData.hasDict_of_canLay _ hlay)) gd (by omega) (fun _ _ z => z) fin hl
theorem k_repr {X : Cx} (K : PySem.W.Frag) (h : X.K = K) (gd : X.A.guards = some []) (hu : X.A.units + 65 < cLine) : CallR X (.builtin "repr") (rRepr K) := by subst h; exact call_repr gd hu
theorem hu65 {k : Nat} {A : Around} (r : Room k A) : A.units + 65 < cLine := by have := r.un; omega
/-- rows of whole numbers, shown -/
theorem dp_ints {K : PySem.W.Frag} {H : Hp} : ∀ ns : List Int, DpAll K H (ns.map V.int) (ns.map PyData.int)
  | [] => .nil
  | n :: ns => .cons (.int n) (dp_ints ns)
theorem dp_row {K : PySem.W.Frag} {H : Hp} {a : Addr} {ns : List Int} (h : SqL K H a (ns.map V.int)) : Dp K H (.ref a) (.list (ns.map PyData.int)) := .lst h (dp_ints ns)
def shownR (ns : List Int) : Str := PyData.shown (.list (ns.map PyData.int))
theorem ints_lay : ∀ ns : List Int, PyData.canLayAll0 (ns.map PyData.int) = true
  | [] => rfl
  | n :: ns => by simp [PyData.canLayAll0, PyData.canLay0, ints_lay ns]
theorem ints_depth : ∀ ns : List Int, PyData.depthAll (ns.map PyData.int) ≤ 1
  | [] => by simp [PyData.depthAll]
  | n :: ns => by
    have := ints_depth ns
    simp only [List.map_cons, PyData.depthAll, PyData.depth]
    omega
theorem row_shaped (ns : List Int) : SeqAt.shaped (.list (ns.map PyData.int)) = true := by
  have h := ints_depth ns
  show (PyData.canLay0 (.list (ns.map PyData.int)) && decide (PyData.depth (.list (ns.map PyData.int)) ≤ 64)) = true
  rw [Bool.and_eq_true]
  exact ⟨by simp only [PyData.canLay0]; exact ints_lay ns, decide_eq_true (by simp only [PyData.depth]; omega)⟩
theorem ints_show : ∀ ns : List Int, (∀ n ∈ ns, n.natAbs.log2 < 1920) → PyData.showableAll (ns.map PyData.int) = true
  | [], _ => rfl
  | n :: ns, h => by
    simp only [List.map_cons, PyData.showableAll, PyData.showable]
    rw [decide_eq_true (h n List.mem_cons_self), ints_show ns fun m hm => h m (List.mem_cons_of_mem _ hm)]
    rfl
/-! ### sorted, any number -/
theorem k_sortedI {X : Cx} (K : PySem.W.Frag) (h : X.K = K) : CallR X (.builtin "sorted") (rSortedI K) := by subst h; exact cr_sortedI
def rSortedA (K : PySem.W.Frag) : List V → Hp → VK → Prop := fun vs H Q => ∃ (a : Addr) (xs : List Str), vs = [V.ref a] ∧ SqL K H a (xs.map V.str) ∧ ∀ (ys : List Str) (p : Addr), ys.Perm xs → sortedS ys = true → H p = none → Q (.ref p) (upd H p (.lst (ys.map V.str)))
theorem k_sortedS {X : Cx} (K : PySem.W.Frag) (h : X.K = K) : CallR X (.builtin "sorted") (rSortedA K) := by
  subst h
  intro pins s σ H vs us Q I r h
  obtain ⟨a, xs, rfl, hs, q⟩ := h
  obtain ⟨its, rv, hl, hz⟩ := I.list hs
  rw [Vals.ref1 r]
  refine sorted_strsAny hl.isList rv.strs (by rw [← rv.length]; exact hz) fun out ys h1 h2 h3 => ?_
  obtain ⟨ep, at_⟩ := sortedAll_at s.heap its out
  refine ⟨.ref _, upd H (s.heap.objs.size + 1) (.lst (ys.map V.str)), I.laid (t' := s.toks) (fun _ _ => sortedAll_old) (Nat.le_succ _) ⟨?_, out.toList, ep, vals_of_strs h1, at_⟩, rfl, q ys _ h2 h3 (I.hok.fresh (Nat.le_succ _))⟩
  rw [List.length_map, h2.length_eq]
  rw [List.length_map] at hz
  exact hz
theorem sorted_le : ∀ (l : List Str) (p : Str), risingS p l = true → (p :: l).Pairwise fun x y => x.cps.toList ≤ y.cps.toList
  | [], p, _ => List.pairwise_singleton _ _
  | x :: r, p, h => by
    obtain ⟨h1, h2⟩ := Bool.and_eq_true_iff.mp (show (!ltCps x.cps.toList p.cps.toList && risingS x r) = true from h)
    have hpx : p.cps.toList ≤ x.cps.toList := by
      rw [ltCps_eq] at h1
      intro z
      rw [decide_eq_true z] at h1
      cases h1
    have ih := sorted_le r x h2
    refine List.pairwise_cons.mpr ⟨fun y hy => ?_, ih⟩
    rcases List.mem_cons.mp hy with rfl | hy
    · exact hpx
    · exact List.le_trans hpx ((List.pairwise_cons.mp ih).1 y hy)
theorem sorted_uniq {xs ys : List Str} (h : xs.Perm ys) (hx : sortedS xs = true) (hy : sortedS ys = true) : xs = ys := by
  have pw : ∀ l : List Str, sortedS l = true → l.Pairwise fun x y => x.cps.toList ≤ y.cps.toList := fun l hl => by
    cases l with
    | nil => exact .nil
    | cons x r => exact sorted_le r x hl
  refine List.Perm.eq_of_pairwise (fun x y _ _ h1 h2 => ?_) (pw _ hx) (pw _ hy) h
  have e := List.le_antisymm h1 h2
  cases x with | mk a => cases y with | mk b => exact congrArg Str.mk (Array.toList_inj.mp e)
end My

namespace My
open PySem PySem.Spec PyProof.Rows L2 Pre
/-! ### the end of a law whose promise stands in no repr -/
/-- the script, tracked or one of the module's own objects -/
theorem script_env {P : Program} {w : World} {K : PySem.W.Frag} {mg mb : Str → Option Value} {a : Addr} {t : Shared} {us : List Value} {ns : List Int} (hin : K.In t.heap) (hgl : t.heap.Ns mainGlobals mg) (hbl : t.heap.Ns builtinsNs mb)
    (hbo : ∀ x : Str, x ≠ "__name__" → mb x = bootBuiltins x) (hno : t.heap.NoLimit) (hgs : t.gens = #[]) (at_a : t.heap.get? a = some { cls := .type "list", data := .seq us.toArray }) (ints_ : IntsAre us ns) (few : ns.length ≤ sizeLine) :
    ∃ (H : Hp) (base : Heap), Only H ∧ SqL K H a (ns.map V.int) ∧ K.In base ∧ base.Ns mainGlobals mg ∧ Env0 P w K mg base callerA [] t H := by
  have rv := vals_ints ints_
  have ul := ints_.length
  -- the module and the rest of the heap, whatever is tracked at a alone
  have rest : ∀ H : Hp, Only H → (∀ b, b ≠ a → H b = none) → (H a = none ∨ K.lookup a = none) → HOk P w H t.heap → SqL K H a (ns.map V.int) → ∃ (H : Hp) (base : Heap), Only H ∧ SqL K H a (ns.map V.int) ∧ K.In base ∧ base.Ns mainGlobals mg ∧ Env0 P w K mg base callerA [] t H := by
    intro H h1 h2 h3 h4 h5
    have dictFree : ∀ b o, t.heap.get? b = some o → (∃ es n, o.data = Data.dict es n) → H b = none := fun b o z ⟨es, n, d⟩ => by
      by_cases hb : b = a
      · rw [hb, at_a] at z
        cases z
        cases d
      · exact h2 b hb
    have nsKept : ∀ (b : Addr) (m : Str → Option Value), t.heap.Ns b m → (hidT t.heap H).Ns b m := fun b m z => by
      obtain ⟨o, es, ep, z1, z2, z3⟩ := z
      exact ⟨o, es, ep, hidT_get z1 (dictFree b o z1 ⟨_, _, z2⟩), z2, z3⟩
    have inKept : K.In (hidT t.heap H) := fun b o z => hidT_get (hin b o z) (by
      by_cases hb : b = a
      · rcases h3 with z3 | z3
        · rw [hb]; exact z3
        · rw [hb, z3] at z; cases z
      · exact h2 b hb)
    obtain ⟨mc, l1, l2⟩ := hno
    refine ⟨H, hidT t.heap H, h1, h5, inKept, nsKept _ _ hgl, ⟨rfl, ⟨inKept, nsKept _ _ hgl, ⟨mb, nsKept _ _ hbl, hbo⟩, ⟨mc, nsKept _ _ l1, l2⟩⟩, fun b o z => of_hidT z, ?_, trivial, fun b z => (nomatch z), h4, .of_eq hgs⟩⟩
    rw [hidT_size]
    exact Nat.le_refl _
  cases hk : K.lookup a with
  | some o =>
    have z := hin a o hk
    rw [at_a] at z
    cases z
    exact rest (fun _ => none) (fun _ => .inl rfl) (fun _ _ => rfl) (.inl rfl) (fun _ _ z => nomatch z) (.inr ⟨_, us.toArray, _, hk, rfl, rfl, rfl, by rw [List.size_toArray, ul]; exact few, by simpa using rv⟩)
  | none =>
    refine rest (upd (fun _ => none) a (.frz { cls := .type "list", data := .seq us.toArray } (.lst (ns.map V.int)))) (fun b => ?_) (fun b hb => upd_ne hb) (.inr hk) (fun b u z => ?_) (.inl (.inr ⟨_, upd_same⟩))
    · by_cases hb : b = a
      · rw [hb]; exact .inr ⟨_, _, upd_same⟩
      · exact .inl (upd_ne hb)
    · by_cases hb : b = a
      · subst hb
        rw [upd_same] at z
        cases z
        exact ⟨at_a, by rw [List.length_map]; exact few, us, _, rv, at_a⟩
      · rw [upd_ne hb] at z
        cases z
theorem end_g {l : PySem.W.OpenLaw} {n k : Nat} {q : Program} {loose : List Str} {XP : (Str → Option Value) → Heap → Prop} {YP : World → Heap → Prop} {d : DefRec} {x : Str} (hn : l.most = some n) (hn2 : n ≤ sizeLine) (hdf : d.params.defaults = []) (hr : Room k callerA)
    (F : ∀ (w : World) (mg : Str → Option Value) (fa : Addr) (h : Heap), YP w h → h.Ns mainGlobals mg → mg d.name = some (.ref fa) →
      ∃ (K : PySem.W.Frag) (fd : FuncData) (sp : Sp), K.In h ∧ (∀ (s : Shared) (u : Value), BindsTo s fd ⟨[u], []⟩ [(x, u)]) ∧
        (∀ (H : Hp) (a : Addr) (ns : List Int), ns.length ≤ n → SqL K H a (ns.map V.int) → sp [.ref a] H (fun v _ => v = .bl true) fun _ _ _ => False) ∧
        ∀ base : Heap, K.In base → base.Ns mainGlobals mg → FnG l.prog w K mg base CX0 k fa fd [x] sp) :
    PySem.W.WalkO q loose XP YP l.row.toRowW d [] (fun f vs => PySem.call f vs) := by
  refine Att.attach_call hn hdf fun w s₀ t mg mb fa o pm cd doc a us ns G Y ho hd hcd hmg at_a hi hl hg => ?_
  obtain ⟨K, fd, sp, hin, hb, hsp, hF⟩ := F w mg fa _ Y G.T.g hmg
  obtain ⟨H, base, only, hS, hKb, hgb, e0⟩ := script_env (P := l.prog) (w := w) hin G.T.g G.T.b G.T.builtins G.T.nolimit hg at_a hi (Nat.le_trans hl hn2)
  refine codeAny_mono ((hF base hKb hgb).does callerA rfl hr [] t H e0 ⟨[.ref a], []⟩ [.ref a] [.ref a] (hb t (.ref a)) (.cons rfl .nil) _ _ (hsp H a ns hl hS)) fun r t2 h => ?_
  match r, h with
  | .error e, h => exact (show False from h).elim
  | .ok (.ret u), h =>
    obtain ⟨v, H2, os, bare, un, hok2, rv, qv⟩ := h
    have qv : v = .bl true := qv
    subst qv
    have rv : u = Value.bool true := rv
    subst rv
    refine ⟨rfl, OldK.of_keep fun b o z => ?_, os, bare⟩
    rcases only b with hb | ⟨ob, ys, hb⟩
    · exact un.keep b o z hb (fun y => nomatch y) (fun y => nomatch y)
    · have z1 : t.heap.get? b = some ob := (e0.hok b _ hb).1
      have z2 : t2.heap.get? b = some ob := (hok2 b _ (un.frzs b ob _ hb)).1
      rw [z] at z1
      cases z1
      exact z2
end My

namespace My
open PySem PySem.Spec PyProof.Rows L2 Pre
/-! ### repr of an empty dict, too -/
def rReprX (K : PySem.W.Frag) : List V → Hp → VK → Prop := fun xs H Q => rRepr K xs H Q ∨ ∃ a : Addr, xs = [.ref a] ∧ H a = some (.dK []) ∧ Q (.str (PyData.dict []).shown) H
theorem call_reprX {X : Cx} (gd : X.A.guards = some []) (hu : X.A.units + 65 < cLine) : CallR X (.builtin "repr") (rReprX X.K) := by
  intro pins s σ H xs us Q I r h
  rcases h with h | ⟨a, rfl, ha, q⟩
  · exact call_repr gd hu pins s σ H xs us Q I r h
  · cases r with
    | cons rx rr =>
      cases rr
      cases rx
      have hx := I.hok a _ ha
      obtain ⟨t1, t2, vs, rel, o, es, ep, ho, h2, h3, h4⟩ := hx
      obtain rfl : vs = [] := by cases rel; rfl
      have he : es.toList = [] := by
        have h5 := h4.2.1
        cases hl : es.toList with
        | nil => rfl
        | cons e r => rw [hl] at h5; cases h5
      have rd : Reads s.heap (.ref a) (.dict []) [a] := .dict (as := []) (bs := []) ho h2.1 h3 (by rw [he]; exact .nil) (by rw [he]; exact .nil)
      have hd : (PyData.dict []).depth ≤ 64 := by decide +kernel
      have fin : ∀ h' v tk, (∀ b o, s.heap.get? b = some o → h'.get? b = some o) → EP X pins σ Q (.str (PyData.dict []).shown v) { s with heap := h', toks := tk } := fun h' v tk hk => ⟨.str (PyData.dict []).shown, H, I.kept hk, ⟨v, rfl⟩, q⟩
      exact repr_of_reads' rd rfl (fun _ m => by
        rw [List.mem_singleton] at m
        rw [← m] at t2
        simp at t2) gd (by omega) (fun _ _ z => z) fin (by decide +kernel)
theorem k_reprX {X : Cx} (K : PySem.W.Frag) (h : X.K = K) (gd : X.A.guards = some []) (hu : X.A.units + 65 < cLine) : CallR X (.builtin "repr") (rReprX K) := by subst h; exact call_reprX gd hu
end My

namespace My
open PySem PySem.Spec PyProof.Rows PySem.W L2 Pre
/-- products of one small number, or of two that are not too great -/
def CMulA (i j : Int) : Prop := CMul i j ∨ CMulX i j
theorem op_mulA {X : Cx} : OpR X (binaryOp .Mult) (rI CMulA fun i j => .int (i * j)) := fun pins s σ H x y v u Q I r1 r2 h => by
  obtain ⟨i, j, ex, ey, hc, q⟩ := h
  rcases hc with hc | hc
  · exact op_mul pins s σ H x y v u Q I r1 r2 ⟨i, j, ex, ey, hc, q⟩
  · exact op_mulX pins s σ H x y v u Q I r1 r2 ⟨i, j, ex, ey, hc, q⟩
end My

namespace My
open PySem PySem.Spec PyProof.Rows L2 Pre
theorem _root_.L2.TyX.same {K : PySem.W.Frag} {H H' : Hp} {v : V} {t : Value} (s : Same H H') (h : TyX K H v t) : TyX K H' v t := by
  cases h with
  | base b => exact .base (by
    cases b with
    | non => exact .non
    | bl y => exact .bl y
    | int i => exact .int i
    | str y => exact .str y
    | flt y => exact .flt y
    | lst e => exact .lst (s _ _ e)
    | frz e => exact .frz (s _ _ e)
    | tup e => exact .tup (s _ _ e)
    | dK e => exact .dK (s _ _ e)
    | dT e => exact .dT (s _ _ e)
    | ins e cl ha hn htk hm => exact .ins (s _ _ e) cl ha hn htk hm)
  | byt b => exact .byt b
  | set e => exact .set (s _ _ e)
  | kList e c => exact .kList e c
  | kTuple e c => exact .kTuple e c
  | kDict e c => exact .kDict e c
  | fTuple e => exact .fTuple (s _ _ e)
  | fDict e => exact .fDict (s _ _ e)
end My

namespace My
open PySem PySem.Spec PyProof.Rows L2
theorem small4 {n : Nat} (h : n ≤ 100000) : n < sizeLine := by rw [sizeLine_eq]; omega
end My

namespace My
open PySem PySem.Spec PyProof.Rows L2 Pre
/-! ### whole numbers, and what is none -/
/-- what is no whole number -/
def BadN (K : PySem.W.Frag) (H : Hp) (v : V) : Prop := (∃ b : Bool, v = .bl b) ∨ ∃ T : String, TyX K H v (.type T) ∧ kitB T "int" = some false
def NumV (K : PySem.W.Frag) (H : Hp) (v : V) (lo : Int) (hi : Option Int) (b : Bool) : Prop := (∃ i : Int, v = .int i ∧ b = decide (lo ≤ i ∧ ∀ j, hi = some j → i ≤ j)) ∨ (BadN K H v ∧ b = false)
theorem BadN.same {K : PySem.W.Frag} {H H' : Hp} {v : V} (s : Same H H') (h : BadN K H v) : BadN K H' v := by
  rcases h with h | ⟨T, ty, e⟩
  · exact .inl h
  · exact .inr ⟨T, ty.same s, e⟩
theorem NumV.same {K : PySem.W.Frag} {H H' : Hp} {v : V} {lo : Int} {hi : Option Int} {b : Bool} (s : Same H H') (h : NumV K H v lo hi b) : NumV K H' v lo hi b := by
  rcases h with h | ⟨h, e⟩
  · exact .inl h
  · exact .inr ⟨h.same s, e⟩
/-- a bound: a number or None -/
def hiV : Option Int → V
  | some j => .int j
  | none => .non
local macro_rules | `(tactic| walk_at "go") => `(tactic| repeat (first | (with_reducible first | refine iteT ?_ | refine iteF ?_ | refine iteNtt ?_ | refine iteNff ?_ | refine iteET (by omega) ?_ | refine iteEF (by omega) ?_ | refine iteENT (by omega) ?_ | refine iteENF (by omega) ?_ | refine iteDT (by omega) ?_ | refine iteDF (by omega) ?_ | refine iteNT (by omega) ?_ | refine iteNF (by omega) ?_) | refine ⟨_, rfl, ?_⟩ | refine ⟨_, _, rfl, rfl, ?_⟩ | refine ⟨_, _, rfl, ?_⟩ | refine ⟨rfl, ?_⟩ | refine .inl ⟨_, rfl, ?_⟩ | refine .inr ⟨_, rfl, ?_⟩))
local macro_rules | `(tactic| walk_at "b") => `(tactic| try dsimp (config := { proj := false, iota := false, eta := false, zeta := false }) only)
section
variable {P : Program} {w : World} {K : PySem.W.Frag} {mg : Str → Option Value} {base : Heap} [pf : Sup.PF P fileS]
def sp_is_whole (K : PySem.W.Frag) : Sp := fun vs H Q _ => ∃ v : V, vs = [v] ∧ ((∃ i : Int, v = .int i ∧ Q (.bl true) H) ∨ (BadN K H v ∧ Q (.bl false) H))
theorem G_is_whole (T : Top K mg) : FnOk P w K mg base CX0 1 T.f_is_whole T.fd_is_whole ["value"] (sp_is_whole K) := by
  refine T.F_is_whole.ok sc_is_whole (fun vs H Q E h => by obtain ⟨v, rfl, _⟩ := h; rfl) (fun cdv A outer s H vs Q E hr h => ?_)
  obtain ⟨v, rfl, h⟩ := h
  refine ⟨_, PSs.nox (pss_one (ps_ret (pe_and (pe_callB (k_isi K rfl) (by rfl) T.n_isinstance (by decide +kernel) (pa_cons (pv 0) (pa_cons (pe_bltn (v := .ty "int") (by rfl) T.n_int (by decide +kernel) rfl) pa_nil))) (pe_one (pe_not (pe_callB (k_isi K rfl) (by rfl) T.n_isinstance (by decide +kernel) (pa_cons (pv 0) (pa_cons (pe_bltn (v := .ty "bool") (by rfl) T.n_bool (by decide +kernel) rfl) pa_nil)))))))), ?_⟩
  rcases h with ⟨i, rfl, q⟩ | ⟨⟨b, rfl⟩ | ⟨T, ty, hT⟩, q⟩
  · refine ⟨_, rfl, _, _, _, _, true, rfl, .ty _, .base (.int i), kit_ty (by decide +kernel), true, rfl, iteT ?_⟩
    exact ⟨_, rfl, _, _, _, _, false, rfl, .ty _, .base (.int i), kit_ty (by decide +kernel), false, rfl, q⟩
  · refine ⟨_, rfl, _, _, _, _, true, rfl, .ty _, .base (.bl b), kit_ty (by decide +kernel), true, rfl, iteT ?_⟩
    exact ⟨_, rfl, _, _, _, _, true, rfl, .ty _, .base (.bl b), kit_ty (by decide +kernel), true, rfl, q⟩
  · exact ⟨_, rfl, _, _, _, _, false, rfl, .ty _, ty, kit_ty hT, false, rfl, iteF q⟩
def sp_is_between (K : PySem.W.Frag) : Sp := fun vs H Q _ => ∃ (v : V) (lo : Int) (hi : Option Int) (b : Bool), vs = [v, .int lo, hiV hi] ∧ NumV K H v lo hi b ∧ Q (.bl b) H
theorem G_is_between (T : Top K mg) : FnOk P w K mg base CX0 2 T.f_is_between T.fd_is_between ["value", "low", "high"] (sp_is_between K) := by
  refine T.F_is_between.ok sc_is_between (fun vs H Q E h => by obtain ⟨v, lo, hi, b, rfl, _⟩ := h; rfl) (fun cdv A outer s H vs Q E hr h => ?_)
  obtain ⟨v, lo, hi, b, rfl, hv, q⟩ := h
  refine ⟨_, PSs.nox (pss_one (ps_ret (pe_and (pe_call (G_is_whole (P := P) T) (hr.mono (by decide)) (by rfl) T.g_is_whole T.F_is_whole.kp T.b_is_whole .nil pass0 (pa_cons (pv 0) pa_nil)) (pe_and (pe_cmpR op_le (pv 1) (pv 0) (nomark _)) (pe_one (pe_or (pe_cmpR op_isN (pv 2) pe_non (nomark _)) (pe_one (pe_cmpR op_le (pv 0) (pv 2) (nomark _))))))))), ?_⟩
  rcases hv with ⟨i, rfl, rfl⟩ | ⟨hv, rfl⟩
  · refine ⟨_, rfl, _, rfl, .inl ⟨i, rfl, true, rfl, iteT ?_⟩⟩
    refine ⟨_, rfl, _, rfl, _, _, rfl, rfl, _, rfl, ite2 (fun e => ?_) (fun e => ?_)⟩
    · have e1 : lo ≤ i := of_decide_eq_true e
      cases hi with
      | none =>
        refine ⟨_, rfl, rfl, _, rfl, iteT ?_⟩
        rw [decide_eq_true ⟨e1, fun j h => nomatch h⟩] at q
        exact q
      | some j =>
        refine ⟨_, rfl, rfl, _, rfl, iteF ⟨_, rfl, _, rfl, _, _, rfl, rfl, ?_⟩⟩
        have e2 : decide (lo ≤ i ∧ ∀ j', some j = some j' → i ≤ j') = decide (i ≤ j) := by
          by_cases h : i ≤ j
          · rw [decide_eq_true h, decide_eq_true]
            exact ⟨e1, fun j' e => by cases e; exact h⟩
          · rw [decide_eq_false h, decide_eq_false]
            exact fun z => h (z.2 j rfl)
        rw [e2] at q
        exact q
    · have e1 : ¬ lo ≤ i := fun h => e (decide_eq_true h)
      rw [decide_eq_false fun z => e1 z.1] at q
      exact q
  · exact ⟨_, rfl, _, rfl, .inr ⟨hv, false, rfl, iteF q⟩⟩
def sp_check_number (K : PySem.W.Frag) (C : Addr) : Sp := fun vs H Q E => ∃ (v : V) (lo : Int) (hi : Option Int) (b : Bool), vs = [v, .int lo, hiV hi] ∧ NumV K H v lo hi b ∧ (b = true → Q .non H) ∧ (b = false → ∀ d, H d = none → E (.ref C) (some d) (upd H d (.xd [("value", v)])))
end
end My

namespace My
open PySem PySem.Spec PyProof.Rows L2 Pre
/-! ### rules, in a program: what is asked of them -/
def isI : V → Bool
  | .int _ => true
  | _ => false
/-- an item that may stand in a list -/
def Item (K : PySem.W.Frag) (H : Hp) (x : V) : Prop := (∃ i, x = .int i) ∨ (isI x = false ∧ BadN K H x ∧ ∃ d, Dp K H x d ∧ PyData.canLay0 d = true ∧ PyData.depth d ≤ 1)
theorem Item.same {K : PySem.W.Frag} {H H' : Hp} {x : V} (s : Same H H') (h : Item K H x) : Item K H' x := by
  rcases h with h | ⟨a, b, d, e, f⟩
  · exact .inl h
  · exact .inr ⟨a, b.same s, d, Pre.dp_same s _ _ e, f⟩
/-- what is no list -/
def NoL (K : PySem.W.Frag) (H : Hp) (v : V) : Prop := ∃ T : String, TyX K H v (.type T) ∧ kitB T "list" = some false
theorem NoL.same {K : PySem.W.Frag} {H H' : Hp} {v : V} (s : Same H H') (h : NoL K H v) : NoL K H' v := by
  obtain ⟨T, ty, e⟩ := h
  exact ⟨T, ty.same s, e⟩
/-- what is no rule -/
def BadR (K : PySem.W.Frag) (H : Hp) (v : V) : Prop := NoL K H v ∨ ∃ (a : Addr) (xs : List V), v = .ref a ∧ H a = some (.lst xs) ∧ xs.length ≤ 1000 ∧ (∀ x ∈ xs, Item K H x) ∧ (xs.all isI = false ∨ ∃ ws : List Int, xs = ws.map V.int ∧ (8 < ws.length ∨ ∃ w ∈ ws, 32768 < (w.natAbs : Nat)))
theorem BadR.same {K : PySem.W.Frag} {H H' : Hp} {v : V} (s : Same H H') (h : BadR K H v) : BadR K H' v := by
  rcases h with h | ⟨a, xs, e, h, r⟩
  · exact .inl (h.same s)
  · exact .inr ⟨a, xs, e, s _ _ h, r.1, fun x hx => (r.2.1 x hx).same s, r.2.2⟩
def GoodR (ws : List Int) : Prop := ws.length ≤ 8 ∧ ∀ w ∈ ws, w.natAbs ≤ 32768
theorem bad_data {K : PySem.W.Frag} {H : Hp} : ∀ xs : List V, (∀ x ∈ xs, Item K H x) → ∃ ds, DpAll K H (xs.filter fun x => !isI x) ds ∧ PyData.canLayAll0 ds = true ∧ PyData.depthAll ds ≤ 1 ∧ (ds = [] ↔ xs.all isI = true)
  | [], _ => ⟨[], .nil, rfl, by rw [PyData.depthAll]; decide, by simp⟩
  | x :: r, h => by
    obtain ⟨ds, h1, h2, h3, h4⟩ := bad_data r fun y hy => h y (List.mem_cons_of_mem _ hy)
    rcases h x List.mem_cons_self with ⟨i, rfl⟩ | ⟨a, _, d, e, f, g⟩
    · exact ⟨ds, h1, h2, h3, by rw [h4]; simp [isI]⟩
    · refine ⟨d :: ds, ?_, by rw [PyData.canLayAll0, h2, f]; rfl, by rw [PyData.depthAll]; omega, by simp [a]⟩
      rw [List.filter_cons, if_pos (by rw [a]; rfl)]
      exact .cons e h1
theorem dpAll_same {K : PySem.W.Frag} {H H' : Hp} (s : Same H H') : ∀ {xs : List V} {ds : List PyData}, DpAll K H xs ds → DpAll K H' xs ds
  | _, _, .nil => .nil
  | _, _, .cons h t => .cons (Pre.dp_same s _ _ h) (dpAll_same s t)
local macro_rules | `(tactic| walk_at "go") => `(tactic| repeat (first | (with_reducible first | refine iteT ?_ | refine iteF ?_ | refine iteNtt ?_ | refine iteNff ?_ | refine iteET (by omega) ?_ | refine iteEF (by omega) ?_ | refine iteENT (by omega) ?_ | refine iteENF (by omega) ?_ | refine iteDT (by omega) ?_ | refine iteDF (by omega) ?_ | refine iteNT (by omega) ?_ | refine iteNF (by omega) ?_) | refine ⟨_, rfl, ?_⟩ | refine ⟨_, _, rfl, rfl, ?_⟩ | refine ⟨_, _, rfl, ?_⟩ | refine ⟨rfl, ?_⟩ | refine .inl ⟨_, rfl, ?_⟩ | refine .inr ⟨_, rfl, ?_⟩))
local macro_rules | `(tactic| walk_at "b") => `(tactic| try dsimp (config := { proj := false, iota := false, eta := false, zeta := false }) only)
section
variable {P : Program} {w : World} {K : PySem.W.Frag} {mg : Str → Option Value} {base : Heap} [pf : Sup.PF P fileS]
def sp_are_wholes (K : PySem.W.Frag) : Sp := fun vs H Q _ => ∃ v : V, vs = [v] ∧ ((NoL K H v ∧ Q (.bl false) H) ∨ ∃ (a : Addr) (xs : List V), v = .ref a ∧ H a = some (.lst xs) ∧ xs.length ≤ 1000 ∧ (∀ x ∈ xs, Item K H x) ∧ ∀ H', Same H H' → Q (.bl (xs.all isI)) H')
theorem G_are_wholes (T : Top K mg) : FnOk P w K mg base CX0 2 T.f_are_wholes T.fd_are_wholes ["value"] (sp_are_wholes K) := by
  refine T.F_are_wholes.ok sc_are_wholes (fun vs H Q E h => by obtain ⟨v, rfl, _⟩ := h; rfl) (fun cdv A outer s H vs Q E hr h => ?_)
  obtain ⟨v, rfl, h⟩ := h
  refine ⟨_, PSs.nox (pss_one (ps_ret (pe_and (pe_callB (k_isi K rfl) (by rfl) T.n_isinstance (by decide +kernel) (pa_cons (pv 0) (pa_cons (pe_bltn (v := .ty "list") (by rfl) T.n_list (by decide +kernel) rfl) pa_nil))) (pe_one (pe_cmpR (k_eqD K rfl hr.units) (pe_lc (own := [("item", 1)]) (g := gName 1) (by rfl) sc_are_wholes.nd (k_piL K rfl (pv 0)) (blkOk_by (own := [("item", 1)]) (N := N_are_wholes) (sc := defScope s_are_wholes) (by decide +kernel)) (fun _ _ _ _ _ => (pg_name (i := 1) sc_are_wholes.nd rfl (by first | exact Or.inl rfl | exact Or.inr rfl))) (fun _ _ _ _ _ => (pts_one (pt_not (pt_val (pe_call (G_is_whole (P := P) T) (hr.mono (by decide)) (by rfl) T.g_is_whole T.F_is_whole.kp T.b_is_whole .nil pass0 (pa_cons (pv 1) pa_nil)))))) (fun _ _ _ _ _ => (pv 1))) (pe_lst pa_nil) (nomark _)))))), ?_⟩
  rcases h with ⟨⟨T, ty, hT⟩, q⟩ | ⟨a, xs, rfl, ha, hz, hs, q⟩
  · exact ⟨_, rfl, _, _, _, _, false, rfl, .ty _, ty, kit_ty hT, false, rfl, iteF q⟩
  · refine ⟨_, rfl, _, _, _, _, true, rfl, .ty _, .base (.lst ha), kit_ty (by decide +kernel), true, rfl, iteT ?_⟩
    refine ⟨_, rfl, a, rfl, ⟨_, .inl (.inl ha)⟩, fun D nD => ?_⟩
    refine lc_selL (K := K) (xs := xs) (xs.map fun x => if (!isI x) = true then some x else none) nD (.inl (.inl ha)) (by rw [List.length_map]) (small4 (by omega)) (fun x => rfl) ?_ ?_
    · intro i x o H' hx ho s Qt qt
      rw [List.getElem?_map, hx] at ho
      cases ho
      dsimp only at qt
      rcases hs x (List.mem_of_getElem? hx) with ⟨i, rfl⟩ | ⟨a, b, _⟩
      · exact ⟨_, rfl, _, rfl, .inl ⟨i, rfl, _, rfl, iteF (qt _ (Same.refl _))⟩⟩
      · rw [if_pos (by rw [a]; rfl)] at qt
        exact ⟨_, rfl, _, rfl, .inr ⟨b.same s, _, rfl, iteT ⟨_, rfl, qt _ (Same.refl _)⟩⟩⟩
    · intro H1 s1 hD
      obtain ⟨ds, d1, d2, d3, d4⟩ := bad_data xs hs
      have ef : (xs.map fun x => if (!isI x) = true then some x else none).filterMap id = xs.filter fun x => !isI x := by
        clear hD d1 d2 d3 d4 ha hz hs q
        induction xs with
        | nil => rfl
        | cons x r ih =>
          rw [List.map_cons, List.filterMap_cons, List.filter_cons]
          by_cases c : (!isI x) = true
          · rw [if_pos c, if_pos c, ← ih]; rfl
          · rw [if_neg c, if_neg c, ← ih]; rfl
      rw [ef] at hD
      refine ⟨Nat.zero_le _, fun p np => ?_⟩
      have sh : SeqAt.shaped (.list ds) = true := by
        unfold SeqAt.shaped
        rw [PyData.canLay0, d2, PyData.depth, Bool.true_and]
        exact decide_eq_true (by omega)
      refine ⟨.list ds, .list [], .lst (.inl (.inl (same_upd np _ _ hD))) (dpAll_same (s1.trans (same_upd np)) d1), .lst (.inl (.inl upd_same)) .nil, sh, rfl, ?_⟩
      have ee : PyData.eqv (.list ds) (.list []) = xs.all isI := by
        rw [Bool.eq_iff_iff, ← d4]
        cases ds with
        | nil => exact ⟨fun _ => rfl, fun _ => rfl⟩
        | cons y r => exact ⟨fun h => (by cases h), fun h => (by cases h)⟩
      rw [ee]
      exact q _ (s1.trans (same_upd np))
def sp_check_depth (K : PySem.W.Frag) (C : Addr) : Sp := fun vs H Q E => ∃ (v : V) (hi : Int) (b : Bool), vs = [v, .int hi] ∧ NumV K H v 1 (some hi) b ∧ (b = true → Q .non H) ∧ (b = false → ∀ d, H d = none → E (.ref C) (some d) (upd H d (.xd [("value", v)])))
theorem G_check_depth (T : Top K mg) : FnOk P w K mg base (L2.CX P w) 3 T.f_check_depth T.fd_check_depth ["depth", "most"] (sp_check_depth K T.C_InvalidDepth) := by
  refine T.F_check_depth.ok (CX := L2.CX P w) sc_check_depth (fun vs H Q E h => by obtain ⟨v, hi, b, rfl, _⟩ := h; rfl) (fun cdv A outer s H vs Q E hr h => ?_)
  obtain ⟨v, hi, b, rfl, hv, q1, q2⟩ := h
  refine ⟨_, (pss_one (ps_if (pt_not (pt_val (pe_call (G_is_between (P := P) T) (hr.mono (by decide)) (by rfl) T.g_is_between T.F_is_between.kp T.b_is_between .nil pass0 (pa_cons (pv 0) (pa_cons pe_int (pa_cons (pv 1) pa_nil))))))
    (pss_one (ps_raise rfl (takes_of rfl rfl rfl rfl) (pmk_oex T.er_InvalidDepth.sup.T T.er_InvalidDepth.ini T.er_InvalidDepth.ity (G_InvalidDepth___init__ (P := P) (CX := CX0) T) (hr.mono (by decide)) T.er_InvalidDepth.bnd .nil pass0 (by rfl) T.gc_InvalidDepth (pa_cons (pv 0) pa_nil))))
    pss_nil)), ?_⟩
  refine ⟨_, rfl, _, rfl, v, 1, some hi, b, rfl, hv, _, rfl, ?_⟩
  cases b with
  | true => exact iteF (q1 rfl)
  | false => exact iteT ⟨_, rfl, mk_sup fun d nd => q2 rfl d nd⟩
theorem all_ints : ∀ ws : List Int, (ws.map V.int).all isI = true
  | [] => rfl
  | w :: r => by rw [List.map_cons, List.all_cons, all_ints r]; rfl
theorem simple_ints {K : PySem.W.Frag} {H : Hp} (ws : List Int) : ∀ x ∈ ws.map V.int, Item K H x := fun x hx => by
  obtain ⟨i, _, rfl⟩ := List.mem_map.mp hx
  exact .inl ⟨i, rfl⟩
def sp_check_rule (K : PySem.W.Frag) (C : Addr) : Sp := fun vs H Q E => ∃ v : V, vs = [v] ∧ ((∃ (a : Addr) (ws : List Int), v = .ref a ∧ H a = some (.lst (ws.map V.int)) ∧ GoodR ws ∧ ∀ H', Same H H' → Q .non H') ∨
  (BadR K H v ∧ ∀ H' d, Same H H' → H' d = none → E (.ref C) (some d) (upd H' d (.xd [("value", v)]))))
end
end My

namespace My
/-! ### products of rules -/
theorem sumN_split (s n : Nat) (f : Nat → Int) : sumN (s + n) f = sumN s f + sumN n fun i => f (s + i) := by
  induction n with
  | zero => simp [sumN]
  | succ n ih => rw [← Nat.add_assoc, sumN, ih, sumN]; omega
theorem sumN_shift {L s b : Nat} (h : s + b ≤ L) (g : Nat → Int) : sumN L (fun k => if s ≤ k ∧ k - s < b then g (k - s) else 0) = sumN b g := by
  obtain ⟨n, rfl⟩ := Nat.le.dest (show s ≤ L by omega)
  rw [sumN_split, sumN_none fun k hk => if_neg (by omega), Int.zero_add, sumN_cut (k := b) (by omega) fun i h1 _ => if_neg (by omega)]
  refine sumN_congr fun i hi => ?_
  rw [if_pos (by omega), show s + i - s = i by omega]
/-- the product's powers, spots below i done, places below j of the i-th -/
def cvF (A B : List Int) (i j : Nat) (k : Nat) : Int := (sumN i fun s => if s ≤ k ∧ k - s < B.length then A.getD s 0 * B.getD (k - s) 0 else 0) + if i ≤ k ∧ k - i < j then A.getD i 0 * B.getD (k - i) 0 else 0
theorem cvF_nil (A B : List Int) (k : Nat) : cvF A B 0 0 k = 0 := by
  unfold cvF
  rw [if_neg (by omega)]
  rfl
theorem cvF_step (A B : List Int) (i j k : Nat) : cvF A B i (j + 1) k = if k = i + j then cvF A B i j k + A.getD i 0 * B.getD j 0 else cvF A B i j k := by
  unfold cvF
  by_cases c : k = i + j
  · rw [if_pos c, if_pos (by omega), if_neg (by omega), show k - i = j by omega]
    omega
  · rw [if_neg c]
    congr 1
    by_cases c2 : i ≤ k ∧ k - i < j
    · rw [if_pos c2, if_pos (by omega)]
    · rw [if_neg c2, if_neg (by omega)]
theorem cvF_next (A B : List Int) (i k : Nat) : cvF A B i B.length k = cvF A B (i + 1) 0 k := by
  unfold cvF
  rw [if_neg (show ¬ (i + 1 ≤ k ∧ k - (i + 1) < 0) by omega), sumN, Int.add_zero]
/-- the product -/
def prodF (A B : List Int) (k : Nat) : Int := cvF A B A.length 0 k
theorem prodF_eq (A B : List Int) (k : Nat) : prodF A B k = sumN A.length fun s => if s ≤ k ∧ k - s < B.length then A.getD s 0 * B.getD (k - s) 0 else 0 := by
  unfold prodF cvF
  rw [if_neg (by omega), Int.add_zero]
theorem prodF_sum (A B : List Int) (hB : 0 < B.length) (r : Nat → Int) (i : Nat) : (sumN (A.length + B.length - 1) fun k => prodF A B k * r (i + k)) = sumN B.length fun t => B.getD t 0 * sumN A.length fun s => A.getD s 0 * r (i + t + s) := by
  have e1 : (sumN (A.length + B.length - 1) fun k => prodF A B k * r (i + k)) = sumN (A.length + B.length - 1) fun k => sumN A.length fun s => if s ≤ k ∧ k - s < B.length then A.getD s 0 * B.getD (k - s) 0 * r (i + s + (k - s)) else 0 := by
    refine sumN_congr fun k _ => ?_
    rw [prodF_eq, Int.mul_comm, ← sumN_mul]
    refine sumN_congr fun s _ => ?_
    by_cases c : s ≤ k ∧ k - s < B.length
    · rw [if_pos c, if_pos c, Int.mul_comm, show i + s + (k - s) = i + k by omega]
    · rw [if_neg c, if_neg c, Int.mul_zero]
  rw [e1, sumN_swap]
  have e2 : (sumN A.length fun s => sumN (A.length + B.length - 1) fun k => if s ≤ k ∧ k - s < B.length then A.getD s 0 * B.getD (k - s) 0 * r (i + s + (k - s)) else 0) = sumN A.length fun s => sumN B.length fun t => A.getD s 0 * B.getD t 0 * r (i + s + t) := by
    refine sumN_congr fun s hs => ?_
    exact sumN_shift (g := fun t => A.getD s 0 * B.getD t 0 * r (i + s + t)) (by omega)
  rw [e2, sumN_swap]
  refine sumN_congr fun t _ => ?_
  rw [← sumN_mul]
  refine sumN_congr fun s _ => ?_
  rw [Int.mul_comm (A.getD s 0), Int.mul_assoc, show i + s + t = i + t + s by omega]
/-- as a rule again -/
def prodL (A B : List Int) : List Int := (((List.range (A.length + B.length - 2)).map fun k => -prodF A B k)).reverse
theorem prodL_len (A B : List Int) : (prodL A B).length = A.length + B.length - 2 := by unfold prodL; rw [List.length_reverse, List.length_map, List.length_range]
theorem asP_last (u : List Int) : (asP u).getD u.length 0 = 1 := by
  unfold asP
  rw [List.getD_eq_getElem?_getD, List.getElem?_append_right (by rw [List.length_map, List.length_reverse]; exact Nat.le_refl _), List.length_map, List.length_reverse, Nat.sub_self]
  rfl
theorem prod_tell (w u : List Int) (r : Nat → Int) (i : Nat) : (sumN (asP (prodL (asP w) (asP u))).length fun p => (asP (prodL (asP w) (asP u))).getD p 0 * r (i + p)) = sumN (asP u).length fun t => (asP u).getD t 0 * sumN (asP w).length fun s => (asP w).getD s 0 * r (i + t + s) := by
  rw [← prodF_sum (asP w) (asP u) (by rw [asP_len]; omega), asP_len, prodL_len, asP_len, asP_len]
  rw [show w.length + 1 + (u.length + 1) - 2 + 1 = w.length + 1 + (u.length + 1) - 1 by omega]
  refine sumN_congr fun k hk => ?_
  congr 1
  by_cases c : k = w.length + u.length
  · have e : (asP (prodL (asP w) (asP u))).getD k 0 = 1 := by
      have := asP_last (prodL (asP w) (asP u))
      rw [prodL_len, asP_len, asP_len] at this
      rw [c, ← this]
      congr 1
      omega
    rw [e, prodF_eq, asP_len, sumN_only (k := w.length) (Nat.lt_succ_self _) fun s hs ne => by rw [if_neg (by rw [asP_len]; omega)], if_pos (by rw [asP_len]; omega), asP_last, show k - w.length = u.length by omega, asP_last]
    rfl
  · have hk2 : k < w.length + 1 + (u.length + 1) - 2 := by omega
    unfold asP
    rw [List.getD_eq_getElem?_getD, List.getElem?_append_left (by rw [List.length_map, List.length_reverse, prodL_len]; simp; omega), List.getElem?_map]
    unfold prodL
    rw [List.reverse_reverse, List.getElem?_map, List.getElem?_range (by simp; omega)]
    show - -(_ : Int) = _
    rw [Int.neg_neg]
theorem fol_prod {N : Int} {w u : List Int} {r : Nat → Int} (h : Fol N w r) (i : Nat) : N ∣ sumN (asP (prodL (asP w) (asP u))).length fun p => (asP (prodL (asP w) (asP u))).getD p 0 * r (i + p) := by
  rw [prod_tell]
  exact sumN_dvd fun t _ => Int.dvd_mul_of_dvd_right (fol_asP.mp h (i + t))
theorem sumN_abs {n : Nat} {f : Nat → Int} {c : Nat} (h : ∀ i, i < n → (f i).natAbs ≤ c) : (sumN n f).natAbs ≤ n * c := by
  induction n with
  | zero => simp [sumN]
  | succ n ih =>
    rw [sumN]
    have h1 := ih fun i hi => h i (by omega)
    have h2 := h n (Nat.lt_succ_self n)
    have h3 := Int.natAbs_add_le (sumN n f) (f n)
    rw [Nat.succ_mul]
    omega
theorem small_getD {A : List Int} {c : Nat} (h : ∀ x ∈ A, x.natAbs ≤ c) (i : Nat) : (A.getD i 0).natAbs ≤ c := by
  rw [List.getD_eq_getElem?_getD]
  by_cases hi : i < A.length
  · rw [List.getElem?_eq_getElem hi]
    exact h _ (List.getElem_mem hi)
  · rw [List.getElem?_eq_none (by omega)]
    exact Nat.zero_le _
theorem asP_small {u : List Int} {c : Nat} (hc : 1 ≤ c) (h : ∀ x ∈ u, x.natAbs ≤ c) : ∀ x ∈ asP u, x.natAbs ≤ c := by
  intro x hx
  unfold asP at hx
  rcases List.mem_append.mp hx with hx | hx
  · obtain ⟨y, hy, rfl⟩ := List.mem_map.mp hx
    rw [Int.natAbs_neg]
    exact h y (List.mem_reverse.mp hy)
  · rw [List.mem_singleton.mp hx]
    exact hc
theorem cvF_small {A B : List Int} (hA : ∀ x ∈ A, x.natAbs ≤ 3) (hB : ∀ x ∈ B, x.natAbs ≤ 3) {i j k : Nat} (hi : i ≤ 8) : (cvF A B i j k).natAbs ≤ 100 := by
  have one : ∀ s t, (A.getD s 0 * B.getD t 0).natAbs ≤ 9 := fun s t => by
    rw [Int.natAbs_mul]
    exact Nat.mul_le_mul (small_getD hA s) (small_getD hB t)
  unfold cvF
  have h1 : (sumN i fun s => if s ≤ k ∧ k - s < B.length then A.getD s 0 * B.getD (k - s) 0 else 0).natAbs ≤ i * 9 := sumN_abs fun s _ => by
    split
    · exact one _ _
    · exact Nat.zero_le _
  have h2 : (if i ≤ k ∧ k - i < j then A.getD i 0 * B.getD (k - i) 0 else 0).natAbs ≤ 9 := by
    split
    · exact one _ _
    · exact Nat.zero_le _
  have h3 := Int.natAbs_add_le (sumN i fun s => if s ≤ k ∧ k - s < B.length then A.getD s 0 * B.getD (k - s) 0 else 0) (if i ≤ k ∧ k - i < j then A.getD i 0 * B.getD (k - i) 0 else 0)
  omega
theorem prodL_small {A B : List Int} (hA : ∀ x ∈ A, x.natAbs ≤ 3) (hB : ∀ x ∈ B, x.natAbs ≤ 3) (h : A.length ≤ 8) : ∀ x ∈ prodL A B, x.natAbs ≤ 100 := by
  intro x hx
  unfold prodL at hx
  obtain ⟨k, _, rfl⟩ := List.mem_map.mp (List.mem_reverse.mp hx)
  rw [Int.natAbs_neg]
  exact cvF_small hA hB h
end My

namespace My
open PySem PySem.Spec PyProof.Rows L2 Pre
/-! ### powers led back by a rule, in a program -/
/-- a row of whole numbers told by a function -/
def rowZ (n : Nat) (f : Nat → Int) : List V := (List.range n).map fun p => V.int (f p)
theorem rowZ_len (n : Nat) (f : Nat → Int) : (rowZ n f).length = n := by unfold rowZ; rw [List.length_map, List.length_range]
theorem rowZ_get {n : Nat} (f : Nat → Int) {i : Nat} (h : i < n) : (rowZ n f)[i]? = some (.int (f i)) := by
  unfold rowZ
  rw [List.getElem?_map, List.getElem?_range h]
  rfl
theorem rowZ_ext {n : Nat} {f : Nat → Int} {xs : List V} (hl : xs.length = n) (h : ∀ i, i < n → xs[i]? = some (.int (f i))) : xs = rowZ n f := by
  refine List.ext_getElem? fun i => ?_
  by_cases hi : i < n
  · rw [h i hi, rowZ_get f hi]
  · rw [List.getElem?_eq_none (by omega), List.getElem?_eq_none (by rw [rowZ_len]; omega)]
theorem rowZ_congr {n : Nat} {f g : Nat → Int} (e : ∀ i, i < n → f i = g i) : rowZ n f = rowZ n g := rowZ_ext (rowZ_len n f) fun i hi => by rw [rowZ_get f hi, e i hi]
theorem rowZ_ints (n : Nat) (f : Nat → Int) : rowZ n f = ((List.range n).map f).map V.int := by
  unfold rowZ
  rw [List.map_map]
  rfl
theorem ints_rowZ (ws : List Int) : ws.map V.int = rowZ ws.length fun p => ws.getD p 0 := rowZ_ext (List.length_map _) fun i hi => by
  rw [List.getElem?_map, List.getD_eq_getElem?_getD, List.getElem?_eq_getElem hi]
  rfl
theorem rowZ_set {n s : Nat} {v : Int} {f g : Nat → Int} (hs : s < n) (e1 : g s = v) (e2 : ∀ i, i ≠ s → f i = g i) : (rowZ n f).set s (.int v) = rowZ n g := by
  refine rowZ_ext (by rw [List.length_set, rowZ_len]) fun i hi => ?_
  rw [List.getElem?_set]
  by_cases c : s = i
  · subst c
    rw [if_pos rfl, if_pos (by rw [rowZ_len]; exact hs), e1]
  · rw [if_neg c, rowZ_get f hi, e2 i fun h => c h.symm]
theorem rowZ_take {n k : Nat} (h : k ≤ n) (f : Nat → Int) : (rowZ n f).take k = rowZ k f := rowZ_ext (by rw [List.length_take, rowZ_len]; omega) fun i hi => by rw [List.getElem?_take, if_pos hi, rowZ_get f (by omega)]
theorem rep_int (k : Nat) (x : Int) : (List.replicate k [V.int x]).flatten = (List.replicate k x).map V.int := by
  induction k with
  | zero => rfl
  | succ k ih => rw [List.replicate_succ, List.flatten_cons, ih, List.replicate_succ]; rfl
/-- powers padded -/
theorem pad_row (N : Int) (w q : List Int) : (q.map fun x => V.int (x % N)) ++ (List.replicate (w.length - q.length) (0 : Int)).map V.int = rowZ (lenP w q) (iniP N q) := by
  refine rowZ_ext (by rw [List.length_append, List.length_map, List.length_map, List.length_replicate]; unfold lenP; omega) fun i hi => ?_
  unfold iniP
  by_cases c : i < q.length
  · rw [List.getElem?_append_left (by rw [List.length_map]; exact c), List.getElem?_map, List.getD_eq_getElem?_getD, List.getElem?_eq_getElem c]
    rfl
  · rw [List.getElem?_append_right (by rw [List.length_map]; omega), List.length_map, List.getElem?_map, List.getElem?_replicate, if_pos (by unfold lenP at hi; omega), List.getD_eq_getElem?_getD, List.getElem?_eq_none (l := q) (by omega)]
    show some (V.int 0) = some (V.int ((0 : Int) % N))
    rw [Int.zero_emod]
theorem updW_step {N : Int} {w : List Int} {f : Nat → Int} {top k : Nat} (h : k < w.length) (ht : w.length ≤ top) (p : Nat) : updW N w f top (k + 1) p = if p = top - 1 - k then (updW N w f top k p + f top * w.getD k 0) % N else updW N w f top k p := by
  unfold updW
  by_cases e : p = top - 1 - k
  · rw [if_pos e, if_pos ⟨by omega, by omega⟩, if_neg (by omega), show top - 1 - p = k by omega]
  · rw [if_neg e]
    by_cases c : p < top ∧ top - 1 - p < k
    · rw [if_pos ⟨c.1, by omega⟩, if_pos c]
    · rw [if_neg (by omega), if_neg c]
theorem updW_top {N : Int} {w : List Int} {f : Nat → Int} {top k : Nat} : updW N w f top k top = f top := by
  unfold updW
  rw [if_neg (by omega)]
theorem updW_nil {N : Int} {w : List Int} {f : Nat → Int} {top : Nat} (p : Nat) : updW N w f top 0 p = f p := by
  unfold updW
  rw [if_neg (by omega)]
theorem pow_le_pow2 {d : Nat} (h : d ≤ 24) : (2 : Int) ^ d ≤ 2 ^ 24 := by
  have := Nat.pow_le_pow_right (show 0 < 2 by decide) h
  have e : (((2 ^ d : Nat)) : Int) ≤ ((2 ^ 24 : Nat) : Int) := Int.ofNat_le.mpr this
  rw [Int.natCast_pow, Int.natCast_pow] at e
  exact e
local macro_rules | `(tactic| walk_at "go") => `(tactic| repeat (first | (with_reducible first | refine iteT ?_ | refine iteF ?_ | refine iteNtt ?_ | refine iteNff ?_ | refine iteET (by omega) ?_ | refine iteEF (by omega) ?_ | refine iteENT (by omega) ?_ | refine iteENF (by omega) ?_ | refine iteDT (by omega) ?_ | refine iteDF (by omega) ?_ | refine iteNT (by omega) ?_ | refine iteNF (by omega) ?_) | refine ⟨_, rfl, ?_⟩ | refine ⟨_, _, rfl, rfl, ?_⟩ | refine ⟨_, _, rfl, ?_⟩ | refine ⟨rfl, ?_⟩ | refine .inl ⟨_, rfl, ?_⟩ | refine .inr ⟨_, rfl, ?_⟩))
local macro_rules | `(tactic| walk_at "b") => `(tactic| try dsimp (config := { proj := false, iota := false, eta := false, zeta := false }) only)
section
variable {P : Program} {w : World} {K : PySem.W.Frag} {mg : Str → Option Value} {base : Heap} [pf : Sup.PF P fileS]
def sp_reduced (K : PySem.W.Frag) : Sp := fun vs H Q _ => ∃ (a b : Addr) (ws q : List Int) (N : Int), vs = [.ref a, .ref b, .int N] ∧ H a = some (.lst (ws.map V.int)) ∧ H b = some (.lst (q.map V.int)) ∧ GoodR ws ∧ q.length ≤ 20 ∧ 0 < N ∧ N ≤ 2 ^ 24 ∧ ∀ H' p, Same H H' → H p = none → H' p = some (.lst (rowZ ws.length (redP N ws q))) → Q (.ref p) H'
end
end My

namespace My
open PySem PySem.Spec PyProof.Rows L2 Pre
/-! ### rows moved by a number of places: plain -/
/-- powers that tell, of every row that follows a rule, its number n places on -/
def Mv (N : Int) (ws : List Int) (f : Nat → Int) (n : Nat) : Prop := ∀ r : Nat → Int, Fol N ws r → ∀ i, N ∣ (sumN ws.length fun p => f p * r (i + p)) - r (i + n)
theorem mv_red {N : Int} {ws q : List Int} {n : Nat} (hN : 0 < N) (h : ∀ r : Nat → Int, Fol N ws r → ∀ i, N ∣ (sumN q.length fun p => q.getD p 0 * r (i + p)) - r (i + n)) : Mv N ws (redP N ws q) n := fun r hr i => by
  have h1 := red_sum hN hr q i
  have h2 := h r hr i
  have := Int.dvd_add h1 h2
  rwa [show ∀ a b c : Int, a - b + (b - c) = a - c from fun a b c => by omega] at this
theorem mv_one {N : Int} {ws : List Int} (hN : 0 < N) : Mv N ws (redP N ws [1]) 0 := mv_red hN fun r _ i => by
  have e : (sumN ([1] : List Int).length fun p => ([1] : List Int).getD p 0 * r (i + p)) = r (i + 0) := by simp [sumN]
  rw [e, Int.sub_self]
  exact Int.dvd_zero N
theorem mv_two {N : Int} {ws : List Int} (hN : 0 < N) : Mv N ws (redP N ws [0, 1]) 1 := mv_red hN fun r _ i => by
  have e : (sumN ([0, 1] : List Int).length fun p => ([0, 1] : List Int).getD p 0 * r (i + p)) = r (i + 1) := by simp [sumN]
  rw [e, Int.sub_self]
  exact Int.dvd_zero N
theorem mv_nil {N : Int} {f : Nat → Int} {n : Nat} : Mv N [] f n := fun r hr i => by
  have h := hr (i + n)
  have e1 : (sumN ([] : List Int).length fun b => ([] : List Int).getD b 0 * r (i + n + ([] : List Int).length - 1 - b)) = 0 := rfl
  have e2 : (sumN ([] : List Int).length fun p => f p * r (i + p)) = 0 := rfl
  rw [e1, Int.sub_zero] at h
  rw [e2, Int.zero_sub]
  exact Int.dvd_neg.mpr h
/-- the product of two -/
def mulL (A B : List Int) : List Int := (List.range (A.length + B.length - 1)).map (prodF A B)
theorem mulL_len (A B : List Int) : (mulL A B).length = A.length + B.length - 1 := by unfold mulL; rw [List.length_map, List.length_range]
theorem mulL_get {A B : List Int} {k : Nat} (h : k < A.length + B.length - 1) : (mulL A B).getD k 0 = prodF A B k := by
  unfold mulL
  rw [List.getD_eq_getElem?_getD, List.getElem?_map, List.getElem?_range h]
  rfl
theorem row_getD {m i : Nat} (h : i < m) (f : Nat → Int) : (((List.range m).map f).getD i 0) = f i := by
  rw [List.getD_eq_getElem?_getD, List.getElem?_map, List.getElem?_range h]
  rfl
theorem mv_mul {N : Int} {ws : List Int} {f g : Nat → Int} {n m : Nat} (hN : 0 < N) (hf : Mv N ws f n) (hg : Mv N ws g m) : Mv N ws (redP N ws (mulL ((List.range ws.length).map f) ((List.range ws.length).map g))) (n + m) := by
  by_cases h0 : ws.length = 0
  · obtain rfl := List.length_eq_zero_iff.mp h0
    exact mv_nil
  refine mv_red hN fun r hr i => ?_
  have lf : ((List.range ws.length).map f).length = ws.length := by rw [List.length_map, List.length_range]
  have lg : ((List.range ws.length).map g).length = ws.length := by rw [List.length_map, List.length_range]
  rw [mulL_len, sumN_congr (g := fun k => prodF ((List.range ws.length).map f) ((List.range ws.length).map g) k * r (i + k)) fun k hk => by rw [mulL_get hk], prodF_sum _ _ (by omega), lf, lg]
  have e : (sumN ws.length fun t => ((List.range ws.length).map g).getD t 0 * sumN ws.length fun s => ((List.range ws.length).map f).getD s 0 * r (i + t + s)) = sumN ws.length fun t => g t * sumN ws.length fun s => f s * r (i + t + s) := sumN_congr fun t ht => by
    rw [row_getD ht, sumN_congr (g := fun s => f s * r (i + t + s)) fun s hs => by rw [row_getD hs]]
  rw [e]
  have h1 : N ∣ (sumN ws.length fun t => g t * sumN ws.length fun s => f s * r (i + t + s)) - sumN ws.length fun t => g t * r (i + n + t) := by
    have e2 : (sumN ws.length fun t => g t * sumN ws.length fun s => f s * r (i + t + s)) - (sumN ws.length fun t => g t * r (i + n + t)) = sumN ws.length fun t => g t * ((sumN ws.length fun s => f s * r (i + t + s)) - r (i + t + n)) := by
      have := sumN_add ws.length (fun t => g t * ((sumN ws.length fun s => f s * r (i + t + s)) - r (i + t + n))) (fun t => g t * r (i + n + t))
      rw [sumN_congr (g := fun t => g t * sumN ws.length fun s => f s * r (i + t + s)) fun t _ => by rw [show i + t + n = i + n + t by omega, ← Int.mul_add, Int.sub_add_cancel]] at this
      omega
    rw [e2]
    exact sumN_dvd fun t _ => Int.dvd_mul_of_dvd_right (hf r hr (i + t))
  have h2 := hg r hr (i + n)
  have := Int.dvd_add h1 h2
  rw [show ∀ a b c : Int, a - b + (b - c) = a - c from fun a b c => by omega] at this
  rwa [Nat.add_assoc] at this
end My

namespace My
open PySem PySem.Spec PyProof.Rows L2 Pre
/-! ### rows gone on: plain -/
theorem sum_range (n : Nat) (f : Nat → Int) : ((List.range n).map f).sum = sumN n f := by
  induction n with
  | zero => rfl
  | succ n ih => rw [List.range_succ, List.map_append, List.sum_append, ih, sumN]; simp
/-- the next one -/
def nxtR (h : Int) (ws l : List Int) : Int := (sumN ws.length (fun b => ws.getD b 0 * l.getD (l.length - 1 - b) 0) + h) % (2 * h) - h
/-- a row gone on -/
def goL (h : Int) (ws fs : List Int) : Nat → List Int
  | 0 => fs
  | k + 1 => goL h ws fs k ++ [nxtR h ws (goL h ws fs k)]
theorem goL_len (h : Int) (ws fs : List Int) : ∀ k, (goL h ws fs k).length = fs.length + k
  | 0 => rfl
  | k + 1 => by rw [goL, List.length_append, goL_len h ws fs k]; rfl
def goR (h : Int) (ws fs : List Int) (i : Nat) : Int := (goL h ws fs (i + 1)).getD i 0
theorem goL_at {h : Int} {ws fs : List Int} {i : Nat} : ∀ {k : Nat}, i < fs.length + k → (goL h ws fs k).getD i 0 = goR h ws fs i := by
  have step : ∀ k i, i < fs.length + k → (goL h ws fs (k + 1)).getD i 0 = (goL h ws fs k).getD i 0 := fun k i hi => by
    rw [goL, List.getD_eq_getElem?_getD, List.getElem?_append_left (by rw [goL_len]; exact hi), ← List.getD_eq_getElem?_getD]
  have up : ∀ d k i, i < fs.length + k → (goL h ws fs (k + d)).getD i 0 = (goL h ws fs k).getD i 0 := fun d => by
    induction d with
    | zero => intro k i _; rfl
    | succ d ih => intro k i hi; rw [← Nat.add_assoc, step _ _ (by omega), ih k i hi]
  intro k hi
  unfold goR
  by_cases c : k ≤ i + 1
  · obtain ⟨d, e⟩ := Nat.le.dest c
    rw [← e]
    exact (up d k i hi).symm
  · obtain ⟨d, e⟩ := Nat.le.dest (show i + 1 ≤ k by omega)
    rw [← e]
    exact up d (i + 1) i (by omega)
theorem goR_first {h : Int} {ws fs : List Int} {i : Nat} (hi : i < fs.length) : goR h ws fs i = fs.getD i 0 := (goL_at (k := 0) (by omega)).symm
theorem goR_fol {h : Int} (hh : 0 < h) {ws fs : List Int} (e : fs.length = ws.length) : Fol (2 * h) ws (goR h ws fs) := by
  intro i
  have e1 : goR h ws fs (i + ws.length) = nxtR h ws (goL h ws fs i) := by
    rw [← goL_at (k := i + 1) (by omega), goL, List.getD_eq_getElem?_getD, List.getElem?_append_right (by rw [goL_len]; omega), goL_len, show i + ws.length - (fs.length + i) = 0 by omega]
    rfl
  have e2 : sumN ws.length (fun b => ws.getD b 0 * (goL h ws fs i).getD ((goL h ws fs i).length - 1 - b) 0) = sumN ws.length fun b => ws.getD b 0 * goR h ws fs (i + ws.length - 1 - b) := sumN_congr fun b hb => by
    rw [goL_len, goL_at (by omega), show fs.length + i - 1 - b = i + ws.length - 1 - b by omega]
  rw [e1, ← e2]
  unfold nxtR
  generalize sumN ws.length (fun b => ws.getD b 0 * (goL h ws fs i).getD ((goL h ws fs i).length - 1 - b) 0) = S
  have := Int.dvd_self_sub_emod (x := S + h) (m := 2 * h)
  have h2 := Int.dvd_neg.mpr this
  rw [show -(S + h - (S + h) % (2 * h)) = (S + h) % (2 * h) - h - S by omega] at h2
  exact h2
theorem two_half {d : Nat} (h : 1 ≤ d) : 2 * (2 ^ (d - 1) : Int) = 2 ^ d := by
  obtain ⟨e, rfl⟩ : ∃ e, d = e + 1 := ⟨d - 1, by omega⟩
  rw [Nat.add_sub_cancel, Int.pow_succ, Int.mul_comm]
theorem half_pos (d : Nat) : (0 : Int) < 2 ^ (d - 1) := Int.pow_pos (by decide)
theorem goR_range {h : Int} (hh : 0 < h) {ws fs : List Int} (hf : ∀ x ∈ fs, -h ≤ x ∧ x < h) (i : Nat) : -h ≤ goR h ws fs i ∧ goR h ws fs i < h := by
  by_cases c : i < fs.length
  · rw [goR_first c, List.getD_eq_getElem?_getD, List.getElem?_eq_getElem c]
    exact hf _ (List.getElem_mem c)
  · obtain ⟨k, rfl⟩ := Nat.le.dest (show fs.length ≤ i by omega)
    rw [← goL_at (k := k + 1) (by omega), goL, List.getD_eq_getElem?_getD, List.getElem?_append_right (by rw [goL_len]; omega), goL_len, show fs.length + k - (fs.length + k) = 0 by omega]
    show -h ≤ nxtR h ws (goL h ws fs k) ∧ nxtR h ws (goL h ws fs k) < h
    unfold nxtR
    have h1 := Int.emod_nonneg ((sumN ws.length fun b => ws.getD b 0 * (goL h ws fs k).getD ((goL h ws fs k).length - 1 - b) 0) + h) (show 2 * h ≠ 0 by omega)
    have h2 := Int.emod_lt_of_pos ((sumN ws.length fun b => ws.getD b 0 * (goL h ws fs k).getD ((goL h ws fs k).length - 1 - b) 0) + h) (show 0 < 2 * h by omega)
    omega
/-- wrapped, what tells a number within a half is that number -/
theorem wrap_eq {h x y : Int} (hy : -h ≤ y ∧ y < h) (hd : 2 * h ∣ x - y) : (x + h) % (2 * h) - h = y := by
  obtain ⟨c, hc⟩ := hd
  have e : x + h = (y + h) + 2 * h * c := by omega
  rw [e, Int.add_mul_emod_self_left, Int.emod_eq_of_lt (by omega) (by omega)]
  omega
end My

namespace My
open PySem PySem.Spec PyProof.Rows L2 Pre
/-! ### odd values: what is shown of them, odd items of lists -/
/-- what is shown of a thing -/
def Shw (K : PySem.W.Frag) (H : Hp) (x : V) (t : Str) : Prop := ∃ d, Dp K H x d ∧ d.showable = true ∧ SeqAt.shaped d = true ∧ d.shown.length ≤ sizeLine ∧ t = d.shown
theorem Shw.same {K : PySem.W.Frag} {H H' : Hp} {x : V} {t : Str} (s : Same H H') (h : Shw K H x t) : Shw K H' x t := by
  obtain ⟨d, hd, h⟩ := h
  exact ⟨d, Pre.dp_same s _ _ hd, h⟩
theorem Shw.repr {K : PySem.W.Frag} {H : Hp} {x : V} {t : Str} {Q : VK} (h : Shw K H x t) (q : Q (.str t) H) : rReprX K [x] H Q := by
  obtain ⟨d, hd, h1, h2, h3, rfl⟩ := h
  exact .inl ⟨x, d, rfl, hd, h1, h2, h3, q⟩
theorem pair_shaped {a t : Str} (ha : PyData.strOk a = true) (ht : PyData.strOk t = true) : SeqAt.shaped (.list [.str a, .str t]) = true := by
  simp [SeqAt.shaped, PyData.canLay0, PyData.canLayAll0, PyData.depth, PyData.depthAll, ha, ht]
theorem pair_eqv (a t : Str) : PyData.eqv (.list [.str a, .str t]) (.list [.str a, .str t]) = true := by
  simp [PyData.eqv, PyData.eqvAll]
theorem shw_ok {K : PySem.W.Frag} {H : Hp} {x : V} {d : PyData} (hd : Dp K H x d) (h : (d.showable && SeqAt.shaped d && decide (d.shown.length ≤ sizeLine) && PyData.strOk d.shown) = true) : ∃ t, Shw K H x t ∧ PyData.strOk t = true := by
  rw [Bool.and_eq_true, Bool.and_eq_true, Bool.and_eq_true] at h
  exact ⟨_, ⟨d, hd, h.1.1.1, h.1.1.2, of_decide_eq_true h.1.2, rfl⟩, h.2⟩
theorem item_bl {K : PySem.W.Frag} {H : Hp} (b : Bool) : Item K H (.bl b) := .inr ⟨rfl, .inl ⟨b, rfl⟩, .bool b, .bl b, rfl, by rw [PyData.depth]; decide⟩
theorem item_non {K : PySem.W.Frag} {H : Hp} : Item K H .non := .inr ⟨rfl, .inr ⟨_, .base .non, by decide +kernel⟩, .none, .non, rfl, by rw [PyData.depth]; decide⟩
theorem item_str {K : PySem.W.Frag} {H : Hp} (s : Str) (h : PyData.strOk s = true) : Item K H (.str s) := .inr ⟨rfl, .inr ⟨_, .base (.str _), by decide +kernel⟩, .str s, .str s, h, by rw [PyData.depth]; decide⟩
theorem item_lst {K : PySem.W.Frag} {H : Hp} {p : Addr} {ns : List Int} (h : H p = some (.lst (ns.map V.int))) : Item K H (.ref p) := .inr ⟨rfl, .inr ⟨_, .base (.lst h), by decide +kernel⟩, .list (ns.map PyData.int), dp_row (.inl (.inl h)), by rw [PyData.canLay0]; exact lay_ints ns, by rw [PyData.depth, depth_ints]; omega⟩
theorem items1 {K : PySem.W.Frag} {H : Hp} {x : V} (h : Item K H x) : ∀ y ∈ [x], Item K H y := fun y hy => by rw [List.mem_singleton.mp hy]; exact h
theorem items2 {K : PySem.W.Frag} {H : Hp} {x z : V} (h : Item K H x) (k : Item K H z) : ∀ y ∈ [x, z], Item K H y := fun y hy => by
  rcases List.mem_cons.mp hy with e | e
  · rw [e]; exact h
  · rw [List.mem_singleton.mp e]; exact k
/-- two ways to a value, one way on -/
theorem join_te {c : Bool} {te1 te2 : TE} {σ : L2.St} {H : Hp} {R : VK} (Pv : V → Hp → Prop) (h1 : c = true → ∀ R' : VK, (∀ v H', Pv v H' → R' v H') → te1 σ H R') (h2 : c = false → ∀ R' : VK, (∀ v H', Pv v H' → R' v H') → te2 σ H R') (cont : ∀ v H', Pv v H' → R v H') : if c = true then te1 σ H R else te2 σ H R := by
  cases c with
  | true => exact h1 rfl R cont
  | false => exact h2 rfl R cont
end My

namespace My
open PySem PySem.Spec PyProof.Rows L2 Pre
/-! ### rows of rules, in a program -/
local macro_rules | `(tactic| walk_at "go") => `(tactic| repeat (first | (with_reducible first | refine iteT ?_ | refine iteF ?_ | refine iteNtt ?_ | refine iteNff ?_ | refine iteET (by omega) ?_ | refine iteEF (by omega) ?_ | refine iteENT (by omega) ?_ | refine iteENF (by omega) ?_ | refine iteDT (by omega) ?_ | refine iteDF (by omega) ?_ | refine iteNT (by omega) ?_ | refine iteNF (by omega) ?_) | refine ⟨_, rfl, ?_⟩ | refine ⟨_, _, rfl, rfl, ?_⟩ | refine ⟨_, _, rfl, ?_⟩ | refine ⟨rfl, ?_⟩ | refine .inl ⟨_, rfl, ?_⟩ | refine .inr ⟨_, rfl, ?_⟩))
local macro_rules | `(tactic| walk_at "b") => `(tactic| try dsimp (config := { proj := false, iota := false, eta := false, zeta := false }) only)
section
variable {P : Program} {w : World} {K : PySem.W.Frag} {mg : Str → Option Value} {base : Heap} [pf : Sup.PF P fileS]
def sp_multiplied (K : PySem.W.Frag) : Sp := fun vs H Q _ => ∃ (a b : Addr) (As Bs : List Int), vs = [.ref a, .ref b] ∧ H a = some (.lst (As.map V.int)) ∧ H b = some (.lst (Bs.map V.int)) ∧ As.length ≤ 20 ∧ Bs.length ≤ 20 ∧ (∀ x ∈ As, x.natAbs ≤ 2 ^ 40) ∧ ∀ H' p, Same H H' → H p = none → H' p = some (.lst ((mulL As Bs).map V.int)) → Q (.ref p) H'
def sp_wrapped : Sp := fun vs H Q _ => ∃ (x : Int) (d : Nat), vs = [.int x, .int d] ∧ 1 ≤ d ∧ d ≤ 24 ∧ Q (.int ((x + 2 ^ (d - 1)) % (2 * 2 ^ (d - 1)) - 2 ^ (d - 1))) H
theorem G_wrapped (T : Top K mg) : FnOk P w K mg base CX0 1 T.f_wrapped T.fd_wrapped ["number", "depth"] sp_wrapped := by
  refine T.F_wrapped.ok sc_wrapped (fun vs H Q E h => by obtain ⟨x, d, rfl, _⟩ := h; rfl) (fun cdv A outer s H vs Q E hr h => ?_)
  obtain ⟨x, d, rfl, d1, d2, q⟩ := h
  refine ⟨_, PSs.nox (pss_cons (ps_set (i := 2) sc_wrapped.nd rfl (by first | exact Or.inl rfl | exact Or.inr rfl) (pe_op op_shl pe_int (pe_op op_sub (pv 1) pe_int)))
  (pss_one (ps_ret (pe_op op_sub (pe_op op_mod (pe_op op_add (pv 0) (pv 2)) (pe_op op_mul pe_int (pv 2))) (pv 2))))), ?_⟩
  refine ⟨_, rfl, _, _, rfl, rfl, _, _, rfl, rfl, ⟨by omega, by omega, by decide⟩, ?_⟩
  have hp := half_pos d
  dsimp only
  rw [show ((d : Int) - 1).toNat = d - 1 by omega, Int.one_mul]
  generalize (2 : Int) ^ (d - 1) = h at *
  refine ⟨_, rfl, _, rfl, _, _, rfl, rfl, _, rfl, _, _, rfl, rfl, .inl ⟨by decide, by decide⟩, _, _, rfl, rfl, (by dsimp only; omega), _, rfl, _, _, rfl, rfl, ?_⟩
  exact q
def sp_told_at : Sp := fun vs H Q _ => ∃ (a b : Addr) (ws xs : List Int) (k : Nat), vs = [.ref a, .ref b, .int k] ∧ H a = some (.lst (ws.map V.int)) ∧ H b = some (.lst (xs.map V.int)) ∧ ws.length ≤ 100 ∧ (∀ w ∈ ws, w.natAbs ≤ 2 ^ 40) ∧ ws.length ≤ k ∧ k ≤ xs.length ∧ xs.length ≤ 1000 ∧ ∀ H', Same H H' → Q (.int (sumN ws.length fun i => ws.getD i 0 * xs.getD (k - 1 - i) 0)) H'
end
end My

namespace My
open PySem PySem.Spec PyProof.Rows L2 Pre
/-! ### rows of rules, in a program: moved by a number of places -/
theorem joinS {b : Bool} {A : Prop} {R : L2.St → Hp → Prop} {σ : L2.St} {H : Hp} (Pv : L2.St → Hp → Prop) (cont : ∀ σ' H', Pv σ' H' → R σ' H') (h1 : b = true → (∀ σ' H', Pv σ' H' → R σ' H') → A) (h2 : b = false → Pv σ H) : if b = true then A else R σ H := by
  cases b with
  | true => exact h1 rfl cont
  | false => exact cont _ _ (h2 rfl)
/-- powers in a heap -/
def PowAt (N : Int) (ws : List Int) (p : Addr) (n : Nat) (H : Hp) : Prop := ∃ f : Nat → Int, H p = some (.lst (((List.range ws.length).map f).map V.int)) ∧ Mv N ws f n ∧ ∀ i, 0 ≤ f i ∧ f i < N
theorem PowAt.same {N : Int} {ws : List Int} {p : Addr} {n : Nat} {H H' : Hp} (s : Same H H') (h : PowAt N ws p n H) : PowAt N ws p n H' := by
  obtain ⟨f, e, r⟩ := h
  exact ⟨f, s _ _ e, r⟩
local macro_rules | `(tactic| walk_at "go") => `(tactic| repeat (first | (with_reducible first | refine iteT ?_ | refine iteF ?_ | refine iteNtt ?_ | refine iteNff ?_ | refine iteET (by omega) ?_ | refine iteEF (by omega) ?_ | refine iteENT (by omega) ?_ | refine iteENF (by omega) ?_ | refine iteDT (by omega) ?_ | refine iteDF (by omega) ?_ | refine iteNT (by omega) ?_ | refine iteNF (by omega) ?_) | refine ⟨_, rfl, ?_⟩ | refine ⟨_, _, rfl, rfl, ?_⟩ | refine ⟨_, _, rfl, ?_⟩ | refine ⟨rfl, ?_⟩ | refine .inl ⟨_, rfl, ?_⟩ | refine .inr ⟨_, rfl, ?_⟩))
local macro_rules | `(tactic| walk_at "b") => `(tactic| try dsimp (config := { proj := false, iota := false, eta := false, zeta := false }) only)
section
variable {P : Program} {w : World} {K : PySem.W.Frag} {mg : Str → Option Value} {base : Heap} [pf : Sup.PF P fileS]
def sp_moved_by : Sp := fun vs H Q _ => ∃ (a : Addr) (ws : List Int) (n : Nat) (N : Int), vs = [.ref a, .int n, .int N] ∧ H a = some (.lst (ws.map V.int)) ∧ GoodR ws ∧ 0 < N ∧ N ≤ 2 ^ 24 ∧ ∀ H' p, Same H H' → H p = none → PowAt N ws p n H' → Q (.ref p) H'
def sp_gone_on : Sp := fun vs H Q _ => ∃ (a b : Addr) (d : Nat) (ws fs : List Int) (m : Nat), vs = [.int d, .ref a, .ref b, .int m] ∧ H a = some (.lst (ws.map V.int)) ∧ H b = some (.lst (fs.map V.int)) ∧ GoodR ws ∧ fs.length = ws.length ∧ 1 ≤ d ∧ d ≤ 24 ∧ fs.length ≤ m ∧ m ≤ 900 ∧ ∀ H' p, Same H H' → H p = none → H' p = some (.lst (rowZ m (goR (2 ^ (d - 1)) ws fs))) → Q (.ref p) H'
def sp_dotted (K : PySem.W.Frag) : Sp := fun vs H Q _ => ∃ (a b : Addr) (ws xs : List Int), vs = [.ref a, .ref b] ∧ H a = some (.lst (ws.map V.int)) ∧ H b = some (.lst (xs.map V.int)) ∧ ws.length = xs.length ∧ ws.length ≤ 100 ∧ (∀ w ∈ ws, w.natAbs ≤ 2 ^ 40) ∧ ∀ H', Same H H' → Q (.int (sumN ws.length fun p => ws.getD p 0 * xs.getD p 0)) H'
end
end My

namespace My
open PySem PySem.Spec PyProof.Rows L2 Pre
/-! ### rows of rules, in a program: far samples -/
theorem cut_span {xs : List V} {a b : Nat} (h : a ≤ b) (hb : b ≤ xs.length) : cutV xs (some (a : Int)) (some (b : Int)) = (xs.drop a).take (b - a) := by
  unfold cutV
  rw [HT.sIx_nat, HT.sIx_nat, Nat.min_eq_left (by omega), Nat.min_eq_left (by omega)]
theorem row_span {n a b : Nat} (h : a ≤ b) (hb : b ≤ n) (f : Nat → Int) : ((rowZ n f).drop a).take (b - a) = ((List.range (b - a)).map fun p => f (a + p)).map V.int := by
  refine List.ext_getElem (by rw [List.length_take, List.length_drop, rowZ_len, List.length_map, List.length_map, List.length_range]; omega) fun i h1 h2 => ?_
  rw [List.length_map, List.length_map, List.length_range] at h2
  rw [List.getElem_take, List.getElem_drop, List.getElem_map, List.getElem_map, List.getElem_range]
  have := rowZ_get f (n := n) (i := a + i) (by omega)
  rw [List.getElem?_eq_getElem (by rw [rowZ_len]; omega)] at this
  exact Option.some.inj this
theorem rowZ_snoc (n : Nat) (f : Nat → Int) : rowZ n f ++ [V.int (f n)] = rowZ (n + 1) f := by
  unfold rowZ
  rw [List.range_succ, List.map_append]
  rfl
/-- samples of a depth -/
def Smp (d : Nat) (fs : List Int) : Prop := ∀ x ∈ fs, -(2 ^ (d - 1)) ≤ x ∧ x < 2 ^ (d - 1)
theorem far_eq {d : Nat} (d1 : 1 ≤ d) {ws fs : List Int} (hl : fs.length = ws.length) (hs : Smp d fs) {f : Nat → Int} {n : Nat} (hm : Mv (2 ^ d) ws f n) (i : Nat) :
    ((sumN ws.length fun p => f p * goR (2 ^ (d - 1)) ws fs (i + p)) + 2 ^ (d - 1)) % (2 * 2 ^ (d - 1)) - 2 ^ (d - 1) = goR (2 ^ (d - 1)) ws fs (i + n) := by
  refine wrap_eq (goR_range (half_pos d) hs _) ?_
  have hr := goR_fol (half_pos d) hl
  rw [two_half d1] at hr ⊢
  exact hm _ hr i
local macro_rules | `(tactic| walk_at "go") => `(tactic| repeat (first | (with_reducible first | refine iteT ?_ | refine iteF ?_ | refine iteNtt ?_ | refine iteNff ?_ | refine iteET (by omega) ?_ | refine iteEF (by omega) ?_ | refine iteENT (by omega) ?_ | refine iteENF (by omega) ?_ | refine iteDT (by omega) ?_ | refine iteDF (by omega) ?_ | refine iteNT (by omega) ?_ | refine iteNF (by omega) ?_) | refine ⟨_, rfl, ?_⟩ | refine ⟨_, _, rfl, rfl, ?_⟩ | refine ⟨_, _, rfl, ?_⟩ | refine ⟨rfl, ?_⟩ | refine .inl ⟨_, rfl, ?_⟩ | refine .inr ⟨_, rfl, ?_⟩))
local macro_rules | `(tactic| walk_at "b") => `(tactic| try dsimp (config := { proj := false, iota := false, eta := false, zeta := false }) only)
section
variable {P : Program} {w : World} {K : PySem.W.Frag} {mg : Str → Option Value} {base : Heap} [pf : Sup.PF P fileS]
def sp_state_at : Sp := fun vs H Q _ => ∃ (a b : Addr) (d : Nat) (ws fs : List Int) (n : Nat), vs = [.int d, .ref a, .ref b, .int n] ∧ H a = some (.lst (ws.map V.int)) ∧ H b = some (.lst (fs.map V.int)) ∧ GoodR ws ∧ fs.length = ws.length ∧ 1 ≤ d ∧ d ≤ 24 ∧ Smp d fs ∧ ∀ H' p, Same H H' → H' p = some (.lst (rowZ ws.length fun l => goR (2 ^ (d - 1)) ws fs (l + n))) → Q (.ref p) H'
end
end My

namespace My
open PySem PySem.Spec PyProof.Rows L2 Pre
/-! ### rows of rules, in a program: what is asked of firsts; samples anywhere -/
/-- a sample of a depth -/
def isS (d : Nat) : V → Bool
  | .int i => decide (-(2 ^ (d - 1)) ≤ i ∧ i < 2 ^ (d - 1))
  | _ => false
theorem Item.dp {K : PySem.W.Frag} {H : Hp} {x : V} (h : Item K H x) : ∃ d, Dp K H x d ∧ PyData.canLay0 d = true ∧ PyData.depth d ≤ 1 := by
  rcases h with ⟨i, rfl⟩ | ⟨_, _, d, a, b, c⟩
  · exact ⟨.int i, .int i, rfl, by rw [PyData.depth]; omega⟩
  · exact ⟨d, a, b, c⟩
theorem bad_dataP {K : PySem.W.Frag} {H : Hp} (p : V → Bool) : ∀ xs : List V, (∀ x ∈ xs, Item K H x) → ∃ ds, DpAll K H (xs.filter fun x => !p x) ds ∧ PyData.canLayAll0 ds = true ∧ PyData.depthAll ds ≤ 1 ∧ (ds = [] ↔ xs.all p = true)
  | [], _ => ⟨[], .nil, rfl, by rw [PyData.depthAll]; decide, by simp⟩
  | x :: r, h => by
    obtain ⟨ds, h1, h2, h3, h4⟩ := bad_dataP p r fun y hy => h y (List.mem_cons_of_mem _ hy)
    cases c : p x with
    | true => exact ⟨ds, by rw [List.filter_cons, if_neg (by rw [c]; decide)]; exact h1, h2, h3, by rw [h4, List.all_cons, c, Bool.true_and]⟩
    | false =>
      obtain ⟨d, a, b, e⟩ := (h x List.mem_cons_self).dp
      refine ⟨d :: ds, ?_, by rw [PyData.canLayAll0, h2, b]; rfl, by rw [PyData.depthAll]; omega, by simp [c]⟩
      rw [List.filter_cons, if_pos (by rw [c]; rfl)]
      exact .cons a h1
theorem all_smp {d : Nat} : ∀ {fs : List Int}, Smp d fs → (fs.map V.int).all (isS d) = true
  | [], _ => rfl
  | x :: r, h => by
    rw [List.map_cons, List.all_cons, all_smp (fs := r) fun y hy => h y (List.mem_cons_of_mem _ hy), Bool.and_true]
    exact decide_eq_true (h x List.mem_cons_self)
/-- what is no row of samples -/
def BadS (K : PySem.W.Frag) (H : Hp) (d : Nat) (v : V) : Prop := NoL K H v ∨ ∃ (a : Addr) (xs : List V), v = .ref a ∧ H a = some (.lst xs) ∧ xs.length ≤ 1000 ∧ (∀ x ∈ xs, Item K H x) ∧ xs.all (isS d) = false
theorem BadS.same {K : PySem.W.Frag} {H H' : Hp} {d : Nat} {v : V} (s : Same H H') (h : BadS K H d v) : BadS K H' d v := by
  rcases h with h | ⟨a, xs, e, h, l, r, k⟩
  · exact .inl (h.same s)
  · exact .inr ⟨a, xs, e, s _ _ h, l, fun x hx => (r x hx).same s, k⟩
/-- what are no firsts of a rule of m weights -/
def BadF (K : PySem.W.Frag) (H : Hp) (d m : Nat) (v : V) : Prop := BadS K H d v ∨ ∃ (a : Addr) (fs : List Int), v = .ref a ∧ H a = some (.lst (fs.map V.int)) ∧ Smp d fs ∧ fs.length ≤ 1000 ∧ fs.length ≠ m
theorem BadF.same {K : PySem.W.Frag} {H H' : Hp} {d m : Nat} {v : V} (s : Same H H') (h : BadF K H d m v) : BadF K H' d m v := by
  rcases h with h | ⟨a, xs, e, h, r⟩
  · exact .inl (h.same s)
  · exact .inr ⟨a, xs, e, s _ _ h, r⟩
local macro_rules | `(tactic| walk_at "go") => `(tactic| repeat (first | (with_reducible first | refine iteT ?_ | refine iteF ?_ | refine iteNtt ?_ | refine iteNff ?_ | refine iteET (by omega) ?_ | refine iteEF (by omega) ?_ | refine iteENT (by omega) ?_ | refine iteENF (by omega) ?_ | refine iteDT (by omega) ?_ | refine iteDF (by omega) ?_ | refine iteNT (by omega) ?_ | refine iteNF (by omega) ?_) | refine ⟨_, rfl, ?_⟩ | refine ⟨_, _, rfl, rfl, ?_⟩ | refine ⟨_, _, rfl, ?_⟩ | refine ⟨rfl, ?_⟩ | refine .inl ⟨_, rfl, ?_⟩ | refine .inr ⟨_, rfl, ?_⟩))
local macro_rules | `(tactic| walk_at "b") => `(tactic| try dsimp (config := { proj := false, iota := false, eta := false, zeta := false }) only)
section
variable {P : Program} {w : World} {K : PySem.W.Frag} {mg : Str → Option Value} {base : Heap} [pf : Sup.PF P fileS]
def sp_is_sample (K : PySem.W.Frag) : Sp := fun vs H Q _ => ∃ (v : V) (d : Nat) (b : Bool), vs = [v, .int d] ∧ 1 ≤ d ∧ d ≤ 24 ∧ NumV K H v (0 - 2 ^ (d - 1)) (some (2 ^ (d - 1) - 1)) b ∧ Q (.bl b) H
theorem G_is_sample (T : Top K mg) : FnOk P w K mg base CX0 3 T.f_is_sample T.fd_is_sample ["value", "depth"] (sp_is_sample K) := by
  refine T.F_is_sample.ok sc_is_sample (fun vs H Q E h => by obtain ⟨v, d, b, rfl, _⟩ := h; rfl) (fun cdv A outer s H vs Q E hr h => ?_)
  obtain ⟨v, d, b, rfl, d1, d2, hv, q⟩ := h
  refine ⟨_, PSs.nox (pss_one (ps_ret (pe_call (G_is_between (P := P) T) (hr.mono (by decide)) (by rfl) T.g_is_between T.F_is_between.kp T.b_is_between .nil pass0 (pa_cons (pv 0) (pa_cons (pe_op op_sub pe_int (pe_op op_shl pe_int (pe_op op_sub (pv 1) pe_int))) (pa_cons (pe_op op_sub (pe_op op_shl pe_int (pe_op op_sub (pv 1) pe_int)) pe_int) pa_nil)))))), ?_⟩
  refine ⟨_, rfl, _, rfl, _, _, rfl, rfl, _, _, rfl, rfl, ⟨by omega, by omega, by decide⟩, _, _, rfl, rfl, _, rfl, _, _, rfl, rfl, _, _, rfl, rfl, ⟨by omega, by omega, by decide⟩, _, _, rfl, rfl, ?_⟩
  refine ⟨v, _, some _, b, rfl, ?_, q⟩
  rw [show ((d : Int) - 1).toNat = d - 1 by omega, Int.one_mul]
  exact hv
def sp_are_samples (K : PySem.W.Frag) : Sp := fun vs H Q _ => ∃ (v : V) (d : Nat), vs = [v, .int d] ∧ 1 ≤ d ∧ d ≤ 24 ∧ ((NoL K H v ∧ Q (.bl false) H) ∨ ∃ (a : Addr) (xs : List V), v = .ref a ∧ H a = some (.lst xs) ∧ xs.length ≤ 1000 ∧ (∀ x ∈ xs, Item K H x) ∧ ∀ H', Same H H' → Q (.bl (xs.all (isS d))) H')
theorem G_are_samples (T : Top K mg) : FnOk P w K mg base CX0 4 T.f_are_samples T.fd_are_samples ["value", "depth"] (sp_are_samples K) := by
  refine T.F_are_samples.ok sc_are_samples (fun vs H Q E h => by obtain ⟨v, d, rfl, _⟩ := h; rfl) (fun cdv A outer s H vs Q E hr h => ?_)
  obtain ⟨v, d, rfl, d1, d2, h⟩ := h
  refine ⟨_, PSs.nox (pss_one (ps_ret (pe_and (pe_callB (k_isi K rfl) (by rfl) T.n_isinstance (by decide +kernel) (pa_cons (pv 0) (pa_cons (pe_bltn (v := .ty "list") (by rfl) T.n_list (by decide +kernel) rfl) pa_nil))) (pe_one (pe_cmpR (k_eqD K rfl hr.units) (pe_lc (own := [("item", 2)]) (g := gName 2) (by rfl) sc_are_samples.nd (k_piL K rfl (pv 0)) (blkOk_by (own := [("item", 2)]) (N := N_are_samples) (sc := defScope s_are_samples) (by decide +kernel)) (fun _ _ _ _ _ => (pg_name (i := 2) sc_are_samples.nd rfl (by first | exact Or.inl rfl | exact Or.inr rfl))) (fun _ _ _ _ _ => (pts_one (pt_not (pt_val (pe_call (G_is_sample (P := P) T) (hr.mono (by decide)) (by rfl) T.g_is_sample T.F_is_sample.kp T.b_is_sample .nil pass0 (pa_cons (pv 2) (pa_cons (pv 1) pa_nil))))))) (fun _ _ _ _ _ => (pv 2))) (pe_lst pa_nil) (nomark _)))))), ?_⟩
  rcases h with ⟨⟨T, ty, hT⟩, q⟩ | ⟨a, xs, rfl, ha, hz, hs, q⟩
  · exact ⟨_, rfl, _, _, _, _, false, rfl, .ty _, ty, kit_ty hT, false, rfl, iteF q⟩
  · refine ⟨_, rfl, _, _, _, _, true, rfl, .ty _, .base (.lst ha), kit_ty (by decide +kernel), true, rfl, iteT ?_⟩
    refine ⟨_, rfl, a, rfl, ⟨_, .inl (.inl ha)⟩, fun D nD => ?_⟩
    refine lc_selL (K := K) (xs := xs) (xs.map fun x => if (!isS d x) = true then some x else none) nD (.inl (.inl ha)) (by rw [List.length_map]) (small4 (by omega)) (fun x => rfl) ?_ ?_
    · intro i x o H' hx ho s Qt qt
      rw [List.getElem?_map, hx] at ho
      cases ho
      dsimp only at qt
      have hN : NumV K H' x (0 - 2 ^ (d - 1)) (some (2 ^ (d - 1) - 1)) (isS d x) := by
        rcases hs x (List.mem_of_getElem? hx) with ⟨i, rfl⟩ | ⟨a, b, _⟩
        · refine .inl ⟨i, rfl, ?_⟩
          show decide (-(2 ^ (d - 1)) ≤ i ∧ i < 2 ^ (d - 1)) = _
          rw [decide_eq_decide]
          generalize (2 : Int) ^ (d - 1) = h
          exact ⟨fun z => ⟨by omega, fun j e => by cases e; omega⟩, fun z => ⟨by omega, by have := z.2 _ rfl; omega⟩⟩
        · refine .inr ⟨b.same s, ?_⟩
          cases x with
          | int i => cases a
          | _ => rfl
      refine ⟨_, rfl, _, rfl, x, d, isS d x, rfl, d1, d2, hN, _, rfl, ?_⟩
      cases c : isS d x with
      | true =>
        rw [c] at qt
        exact iteF (qt _ (Same.refl _))
      | false =>
        rw [c] at qt
        exact iteT ⟨_, rfl, qt _ (Same.refl _)⟩
    · intro H1 s1 hD
      obtain ⟨ds, e1, e2, e3, e4⟩ := bad_dataP (isS d) xs hs
      have ef : (xs.map fun x => if (!isS d x) = true then some x else none).filterMap id = xs.filter fun x => !isS d x := by
        clear hD e1 e2 e3 e4 ha hz hs q
        induction xs with
        | nil => rfl
        | cons x r ih =>
          rw [List.map_cons, List.filterMap_cons, List.filter_cons]
          by_cases c : (!isS d x) = true
          · rw [if_pos c, if_pos c, ← ih]; rfl
          · rw [if_neg c, if_neg c, ← ih]; rfl
      rw [ef] at hD
      refine ⟨Nat.zero_le _, fun p np => ?_⟩
      have sh : SeqAt.shaped (.list ds) = true := by
        unfold SeqAt.shaped
        rw [PyData.canLay0, e2, PyData.depth, Bool.true_and]
        exact decide_eq_true (by omega)
      refine ⟨.list ds, .list [], .lst (.inl (.inl (same_upd np _ _ hD))) (dpAll_same (s1.trans (same_upd np)) e1), .lst (.inl (.inl upd_same)) .nil, sh, rfl, ?_⟩
      have ee : PyData.eqv (.list ds) (.list []) = xs.all (isS d) := by
        rw [Bool.eq_iff_iff, ← e4]
        cases ds with
        | nil => exact ⟨fun _ => rfl, fun _ => rfl⟩
        | cons y r => exact ⟨fun h => (by cases h), fun h => (by cases h)⟩
      rw [ee]
      exact q _ (s1.trans (same_upd np))
def sp_check_firsts (K : PySem.W.Frag) (C : Addr) : Sp := fun vs H Q E => ∃ (d : Nat) (b : Addr) (ws : List Int) (v : V), vs = [.int d, .ref b, v] ∧ 1 ≤ d ∧ d ≤ 24 ∧ H b = some (.lst (ws.map V.int)) ∧
  ((∃ (a : Addr) (fs : List Int), v = .ref a ∧ H a = some (.lst (fs.map V.int)) ∧ Smp d fs ∧ fs.length = ws.length ∧ fs.length ≤ 1000 ∧ ∀ H', Same H H' → Q .non H') ∨
  (BadF K H d ws.length v ∧ ∀ H' dd, Same H H' → H' dd = none → E (.ref C) (some dd) (upd H' dd (.xd [("value", v)]))))
theorem goR_nil {h : Int} (hh : 0 < h) {fs : List Int} (e : fs.length = 0) (n : Nat) : goR h [] fs n = 0 := by
  obtain rfl := List.length_eq_zero_iff.mp e
  rw [← goL_at (k := n + 1) (by simp), goL, List.getD_eq_getElem?_getD, List.getElem?_append_right (by rw [goL_len]; simp), goL_len, show n - (([] : List Int).length + n) = 0 by simp]
  show nxtR h [] (goL h [] [] n) = 0
  unfold nxtR
  show ((0 : Int) + h) % (2 * h) - h = 0
  rw [Int.zero_add, Int.emod_eq_of_lt (by omega) (by omega), Int.sub_self]
def sp_sample_at (K : PySem.W.Frag) (CD CW CR CN : Addr) : Sp := fun vs H Q E => ∃ v u x y : V, vs = [v, u, x, y] ∧
  ((∃ d : Nat, v = .int d ∧ 1 ≤ d ∧ d ≤ 24 ∧
    ((∃ (a : Addr) (ws : List Int), u = .ref a ∧ H a = some (.lst (ws.map V.int)) ∧ GoodR ws ∧
      ((∃ (b : Addr) (fs : List Int), x = .ref b ∧ H b = some (.lst (fs.map V.int)) ∧ Smp d fs ∧ fs.length = ws.length ∧
        ((∃ n : Nat, y = .int n ∧ n ≤ 10 ^ 18 ∧ ∀ H', Same H H' → Q (.int (goR (2 ^ (d - 1)) ws fs n)) H') ∨
          (NumV K H y 0 (some (10 ^ 18)) false ∧ ∀ H' dd, Same H H' → H' dd = none → E (.ref CN) (some dd) (upd H' dd (.xd [("value", y)]))))) ∨
        (BadF K H d ws.length x ∧ ∀ H' dd, Same H H' → H' dd = none → E (.ref CR) (some dd) (upd H' dd (.xd [("value", x)]))))) ∨
      (BadR K H u ∧ ∀ H' dd, Same H H' → H' dd = none → E (.ref CW) (some dd) (upd H' dd (.xd [("value", u)]))))) ∨
   (NumV K H v 1 (some 24) false ∧ ∀ H' dd, Same H H' → H' dd = none → E (.ref CD) (some dd) (upd H' dd (.xd [("value", v)]))))
end
end My

namespace My
theorem getD_of {l : List Int} {i : Nat} (h : i < l.length) : l.getD i 0 = l[i] := by
  rw [List.getD_eq_getElem?_getD, List.getElem?_eq_getElem h]
  rfl
/-! ### guesses, rests, in plain terms -/
def dot : List Int → List Int → Int
  | w :: ws, b :: bs => w * b + dot ws bs
  | _, _ => 0
theorem dot_nil (ws : List Int) : dot ws [] = 0 := by cases ws <;> rfl
theorem dot_take : ∀ (i : Nat) (ws bs : List Int), i < ws.length → i < bs.length → dot (ws.take (i + 1)) bs = dot (ws.take i) bs + ws.getD i 0 * bs.getD i 0
  | 0, w :: ws, b :: bs, _, _ => by simp [dot]
  | i + 1, w :: ws, b :: bs, h1, h2 => by
    have ih := dot_take i ws bs (by simpa using h1) (by simpa using h2)
    show w * b + dot (ws.take (i + 1)) bs = w * b + dot (ws.take i) bs + ws.getD i 0 * bs.getD i 0
    rw [ih]
    omega
  | _, [], _, h, _ => by simp at h
  | _, _ :: _, [], _, h => by simp at h
/-- only as many items as there are weights count -/
theorem dot_long : ∀ (ws bs cs : List Int), ws.length ≤ bs.length → dot ws (bs ++ cs) = dot ws bs
  | [], _, _, _ => rfl
  | w :: ws, b :: bs, cs, h => by
    show w * b + dot ws (bs ++ cs) = w * b + dot ws bs
    rw [dot_long ws bs cs (by simpa using h)]
  | _ :: _, [], _, h => by simp at h
def guessF (ws : List Int) (sh : Nat) (pre : List Int) : Int := dot ws pre.reverse / 2 ^ sh
theorem guess_end (ws : List Int) (sh : Nat) (pre : List Int) (k : Nat) (h : k + ws.length ≤ pre.length) : guessF ws sh (pre.drop k) = guessF ws sh pre := by
  unfold guessF
  have e : pre.reverse = (pre.drop k).reverse ++ (pre.take k).reverse := by rw [← List.reverse_append, List.take_append_drop]
  rw [e, dot_long]
  rw [List.length_reverse, List.length_drop]
  omega
/-- the rest at a place -/
def restAt (ws : List Int) (sh : Nat) (row : List Int) (p : Nat) : Int := row.getD p 0 - (if p < ws.length then 0 else guessF ws sh (row.take p))
def toldR (ws : List Int) (sh : Nat) (row : List Int) : List Int := (List.range row.length).map (restAt ws sh row)
theorem toldR_len (ws : List Int) (sh : Nat) (row : List Int) : (toldR ws sh row).length = row.length := by
  unfold toldR
  rw [List.length_map, List.length_range]
theorem toldR_firsts (ws : List Int) (sh : Nat) (row : List Int) (k : Nat) (hk : k ≤ ws.length) : (toldR ws sh row).take k = row.take k := by
  apply List.ext_getElem?
  intro i
  rw [List.getElem?_take, List.getElem?_take]
  by_cases h : i < k
  · rw [if_pos h, if_pos h]
    unfold toldR
    rw [List.getElem?_map]
    by_cases h2 : i < row.length
    · rw [List.getElem?_range h2]
      show some (row.getD i 0 - if i < ws.length then 0 else _) = row[i]?
      rw [if_pos (by omega), Int.sub_zero, List.getElem?_eq_getElem h2, getD_of h2]
    · rw [List.getElem?_eq_none (by rw [List.length_range]; omega), List.getElem?_eq_none (by omega)]
      rfl
  · rw [if_neg h, if_neg h]
theorem toldR_next (ws : List Int) (sh : Nat) (row : List Int) (p : Nat) (h1 : ws.length ≤ p) (h2 : p < row.length) : (toldR ws sh row).take (p + 1) = (toldR ws sh row).take p ++ [row.getD p 0 - guessF ws sh (row.take p)] := by
  rw [List.take_add_one]
  congr 1
  unfold toldR
  rw [List.getElem?_map, List.getElem?_range h2]
  show [restAt ws sh row p] = _
  unfold restAt
  rw [if_neg (by omega)]
def wrapI (n : Int) (d : Nat) : Int := (n + 2 ^ (d - 1)) % (2 * 2 ^ (d - 1)) - 2 ^ (d - 1)
def restsF (ws : List Int) (sh : Nat) (d : Nat) (row : List Int) : List Int := (toldR ws sh row).map fun n => wrapI n d
def Samples (d : Nat) (row : List Int) : Prop := ∀ n ∈ row, -(2 ^ (d - 1)) ≤ n ∧ n ≤ 2 ^ (d - 1) - 1
def Weights (ws : List Int) : Prop := ws.length ≤ 8 ∧ ∀ n ∈ ws, -32768 ≤ n ∧ n ≤ 32768
end My

namespace My
theorem sorted_ext : ∀ (l m : List Nat), l.Pairwise (· < ·) → m.Pairwise (· < ·) → (∀ x, x ∈ l ↔ x ∈ m) → l = m
  | [], [], _, _, _ => rfl
  | [], b :: m, _, _, h => absurd ((h b).mpr List.mem_cons_self) (fun z => nomatch z)
  | a :: l, [], _, _, h => absurd ((h a).mp List.mem_cons_self) (fun z => nomatch z)
  | a :: l, b :: m, h1, h2, h => by
    have e1 := List.pairwise_cons.mp h1
    have e2 := List.pairwise_cons.mp h2
    have hab : a = b := by
      rcases List.mem_cons.mp ((h a).mp List.mem_cons_self) with e | e
      · exact e
      · rcases List.mem_cons.mp ((h b).mpr List.mem_cons_self) with e' | e'
        · exact e'.symm
        · have := e2.1 a e; have := e1.1 b e'; omega
    subst hab
    congr 1
    refine sorted_ext l m e1.2 e2.2 fun x => ⟨fun hx => ?_, fun hx => ?_⟩
    · rcases List.mem_cons.mp ((h x).mp (List.mem_cons_of_mem _ hx)) with e | e
      · have := e1.1 x hx; omega
      · exact e
    · rcases List.mem_cons.mp ((h x).mpr (List.mem_cons_of_mem _ hx)) with e | e
      · have := e2.1 x hx; omega
      · exact e
/-- one item set: the sum goes on by its weight -/
theorem dot_set : ∀ (ws bs : List Int) (j : Nat) (s : Int), ws.length ≤ bs.length → j < ws.length → dot ws (bs.set j s) = dot ws (bs.set j 0) + ws.getD j 0 * s
  | w :: ws, b :: bs, 0, s, _, _ => by
    show w * s + dot ws bs = w * 0 + dot ws bs + w * s
    rw [Int.mul_zero]
    omega
  | w :: ws, b :: bs, j + 1, s, h1, h2 => by
    have ih := dot_set ws bs j s (by simpa using h1) (by simpa using h2)
    show w * b + dot ws (bs.set j s) = w * b + dot ws (bs.set j 0) + ws.getD j 0 * s
    rw [ih]
    omega
  | [], _, _, _, _, h => by simp at h
  | _ :: _, [], _, _, h, _ => by simp at h
theorem rev_set {l : List Int} {j : Nat} {s : Int} (h : j < l.length) : (l.set j s).reverse = l.reverse.set (l.length - 1 - j) s := by
  refine List.ext_getElem? fun i => ?_
  by_cases hi : i < l.length
  · rw [List.getElem?_reverse (by rw [List.length_set]; exact hi), List.length_set, List.getElem?_set, List.getElem?_set, List.getElem?_reverse hi, List.length_reverse]
    by_cases c : j = l.length - 1 - i
    · rw [if_pos c, if_pos (by omega), if_pos (by omega), if_pos (by omega)]
    · rw [if_neg c, if_neg (by omega)]
  · rw [List.getElem?_eq_none (by rw [List.length_reverse, List.length_set]; omega), List.getElem?_eq_none (by rw [List.length_set, List.length_reverse]; omega)]
/-- a guess by a sample in a row, as a line -/
theorem guess_line (ws : List Int) (sh : Nat) (bs : List Int) (j : Nat) (hl : bs.length = ws.length) (hj : j < bs.length) : ∃ C w : Int, ∀ s, guessF ws sh (bs.set j s) = (C + w * s) / 2 ^ sh := by
  refine ⟨dot ws (bs.reverse.set (bs.length - 1 - j) 0), ws.getD (bs.length - 1 - j) 0, fun s => ?_⟩
  unfold guessF
  rw [rev_set hj, dot_set ws bs.reverse _ s (by rw [List.length_reverse]; omega) (by omega)]
theorem line_const {C w lo hi s : Int} {n : Nat} (h1 : lo ≤ s) (h2 : s ≤ hi) (h : (C + w * lo) / 2 ^ n = (C + w * hi) / 2 ^ n) : (C + w * s) / 2 ^ n = (C + w * lo) / 2 ^ n := by
  have hp : (0 : Int) < 2 ^ n := Int.pow_pos (by decide)
  rcases Int.le_total 0 w with hw | hw
  · have a := Int.mul_le_mul_of_nonneg_left h1 hw
    have b := Int.mul_le_mul_of_nonneg_left h2 hw
    have a' := Int.ediv_le_ediv hp (show C + w * lo ≤ C + w * s by omega)
    have b' := Int.ediv_le_ediv hp (show C + w * s ≤ C + w * hi by omega)
    omega
  · have a := Int.mul_le_mul_of_nonpos_left hw h1
    have b := Int.mul_le_mul_of_nonpos_left hw h2
    have a' := Int.ediv_le_ediv hp (show C + w * s ≤ C + w * lo by omega)
    have b' := Int.ediv_le_ediv hp (show C + w * hi ≤ C + w * s by omega)
    omega
/-- what stands ahead of a place, with a sample set -/
theorem set_part {row : List Int} {k n l : Nat} {s : Int} (h1 : k < l) (h2 : l ≤ row.length) (h3 : l ≤ k + n) (h4 : n ≤ l) : ((row.set k s).take l).drop (l - n) = ((row.take l).drop (l - n)).set (k + n - l) s := by
  rw [List.take_set, List.drop_set, if_neg (by omega), show k - (l - n) = k + n - l by omega]
/-- the guess at a place by a sample at k -/
def hungF (ws : List Int) (sh : Nat) (row : List Int) (k l : Nat) (s : Int) : Int := guessF ws sh ((row.set k s).take l)
theorem hung_part {ws row : List Int} {sh k l : Nat} {s : Int} (h1 : k < l) (h2 : l ≤ row.length) (h3 : l ≤ k + ws.length) (h4 : ws.length ≤ l) : hungF ws sh row k l s = guessF ws sh (((row.take l).drop (l - ws.length)).set (k + ws.length - l) s) := by
  unfold hungF
  rw [← set_part h1 h2 h3 h4, guess_end]
  rw [List.length_take, List.length_set]
  omega
theorem hung_far {ws row : List Int} {sh k l : Nat} {s t : Int} (h2 : l ≤ row.length) (h3 : k + ws.length < l) : hungF ws sh row k l s = hungF ws sh row k l t := by
  unfold hungF
  have e : ∀ s : Int, guessF ws sh ((row.set k s).take l) = guessF ws sh ((row.take l).drop (l - ws.length)) := fun s => by
    rw [← guess_end ws sh ((row.set k s).take l) (l - ws.length) (by rw [List.length_take, List.length_set]; omega), List.take_set, List.drop_set, if_pos (by omega)]
  rw [e, e]
def lateL (n k len : Nat) : List Nat := (List.range (min (k + n) (len - 1) + 1 - max (k + 1) n)).map fun i => max (k + 1) n + i
/-- the places that hang on a sample -/
def hangL (ws : List Int) (sh : Nat) (row : List Int) (k : Nat) (lo hi : Int) : List Nat := k :: (lateL ws.length k row.length).filter fun l => decide (hungF ws sh row k l lo ≠ hungF ws sh row k l hi)
theorem mem_late {n k len l : Nat} : l ∈ lateL n k len ↔ k + 1 ≤ l ∧ n ≤ l ∧ l ≤ k + n ∧ l ≤ len - 1 := by
  unfold lateL
  rw [List.mem_map]
  constructor
  · rintro ⟨i, hi, rfl⟩
    have := List.mem_range.mp hi
    omega
  · intro h
    exact ⟨l - max (k + 1) n, List.mem_range.mpr (by omega), by omega⟩
theorem hang_up (ws : List Int) (sh : Nat) (row : List Int) (k : Nat) (lo hi : Int) : (hangL ws sh row k lo hi).Pairwise (· < ·) := by
  refine List.pairwise_cons.mpr ⟨fun l hl => ?_, ?_⟩
  · have := (mem_late.mp (List.mem_filter.mp hl).1).1
    omega
  · refine List.Pairwise.filter _ ?_
    unfold lateL
    exact List.Pairwise.map _ (fun a b h => by omega) List.pairwise_lt_range
/-- told at a place with a sample set -/
theorem rest_set {ws row : List Int} {sh k l : Nat} {s : Int} (hk : k < row.length) : restAt ws sh (row.set k s) l = (if l = k then s else row.getD l 0) - (if l < ws.length then 0 else hungF ws sh row k l s) := by
  unfold restAt hungF
  congr 1
  rw [List.getD_eq_getElem?_getD, List.getElem?_set]
  by_cases c : l = k
  · rw [if_pos c.symm, if_pos c, if_pos (by omega)]; rfl
  · rw [if_neg (fun z => c z.symm), if_neg c, List.getD_eq_getElem?_getD]
/-- unlike ones at a place -/
def dueB (ws : List Int) (sh : Nat) (row : List Int) (k : Nat) (ss : List Int) (lo : Int) (l : Nat) : Bool := ss.any fun s => decide (restAt ws sh (row.set k s) l ≠ restAt ws sh (row.set k lo) l)
theorem due_hang {ws row : List Int} {sh k : Nat} {lo hi : Int} {ss : List Int} (hk : k < row.length) (hss : ∀ s, s ∈ ss ↔ lo ≤ s ∧ s ≤ hi) (hlh : lo < hi) : (List.range row.length).filter (dueB ws sh row k ss lo) = hangL ws sh row k lo hi := by
  refine sorted_ext _ _ (List.Pairwise.filter _ List.pairwise_lt_range) (hang_up ws sh row k lo hi) fun l => ?_
  rw [List.mem_filter, List.mem_range]
  unfold hangL
  rw [List.mem_cons, List.mem_filter, mem_late, decide_eq_true_iff]
  unfold dueB
  rw [List.any_eq_true]
  constructor
  · rintro ⟨hl, s, hs, hne⟩
    have hne := of_decide_eq_true hne
    rw [rest_set hk, rest_set hk] at hne
    by_cases c : l = k
    · exact .inl c
    rw [if_neg c, if_neg c] at hne
    by_cases c2 : l < ws.length
    · rw [if_pos c2, if_pos c2] at hne; exact absurd rfl hne
    rw [if_neg c2, if_neg c2] at hne
    have hne2 : hungF ws sh row k l s ≠ hungF ws sh row k l lo := fun e => hne (by rw [e])
    have hkl : k < l := by
      rcases Nat.lt_or_ge k l with h | h
      · exact h
      · refine absurd ?_ hne2
        unfold hungF
        rw [List.take_set_of_le (by omega), List.take_set_of_le (by omega)]
    have hfar : l ≤ k + ws.length := by
      rcases Nat.lt_or_ge (k + ws.length) l with h | h
      · exact absurd (hung_far (by omega) h) hne2
      · exact h
    refine .inr ⟨⟨by omega, by omega, hfar, by omega⟩, fun e => hne2 ?_⟩
    obtain ⟨C, w, hC⟩ := guess_line ws sh ((row.take l).drop (l - ws.length)) (k + ws.length - l) (by rw [List.length_drop, List.length_take]; omega) (by rw [List.length_drop, List.length_take]; omega)
    rw [hung_part hkl (by omega) hfar (by omega), hung_part hkl (by omega) hfar (by omega), hC, hC] at e
    rw [hung_part hkl (by omega) hfar (by omega), hung_part hkl (by omega) hfar (by omega), hC, hC]
    exact line_const ((hss s).mp hs).1 ((hss s).mp hs).2 e
  · rintro (rfl | ⟨⟨h1, h2, h3, h4⟩, hne⟩)
    · refine ⟨hk, lo + 1, (hss _).mpr ⟨by omega, by omega⟩, decide_eq_true ?_⟩
      rw [rest_set hk, rest_set hk, if_pos rfl, if_pos rfl]
      have e : hungF ws sh row l l (lo + 1) = hungF ws sh row l l lo := by
        unfold hungF
        rw [List.take_set_of_le (Nat.le_refl _), List.take_set_of_le (Nat.le_refl _)]
      rw [e]
      omega
    · refine ⟨by omega, hi, (hss _).mpr ⟨by omega, Int.le_refl _⟩, decide_eq_true ?_⟩
      rw [rest_set hk, rest_set hk, if_neg (by omega), if_neg (by omega), if_neg (by omega), if_neg (by omega)]
      omega
end My

namespace My
open PySem PySem.Spec PyProof.Rows L2 Pre
/-! ### guessers refused: guessers, rests -/
def EE (H : Hp) (E : XK) (C : Addr) (v : V) : Prop := ∀ H' dd, Same H H' → H' dd = none → E (.ref C) (some dd) (upd H' dd (.xd [("value", v)]))
theorem EE.same {H H1 : Hp} {E : XK} {C : Addr} {v : V} (s : Same H H1) (h : EE H E C v) : EE H1 E C v := fun H' dd s' nd => h H' dd (s.trans s') nd
/-- an instance: isinstance of its class -/
theorem tyx_ins {K : PySem.W.Frag} {H : Hp} {a C dx : Addr} {fs : List (Str × V)} (c : C8.InsC K C) (h : H a = some (.ins C dx fs)) : TyX K H (.ref a) (.ref C) := .base (.ins h c.cl c.ha c.hn c.htk c.hm)
theorem rd_list {K : PySem.W.Frag} {H : Hp} {a : Addr} {xs : List V} (h : Rd H a (.lst xs)) : TyX K H (.ref a) (.type "list") := by
  rcases h with h | ⟨o, h⟩
  · exact .base (.lst h)
  · exact .base (.frz h)
theorem Rd.same {H H' : Hp} {a : Addr} {u : HO} (h : Rd H a u) (s : Same H H') : Rd H' a u := by
  rcases h with h | ⟨o, h⟩
  · exact .inl (s _ _ h)
  · exact .inr ⟨o, s _ _ h⟩
theorem pred_toNat {d : Nat} (h : 1 ≤ d) : ((d : Int) - 1).toNat = d - 1 := by omega
theorem pow_two {d : Nat} (h : 1 ≤ d) : (2 : Int) ^ d = 2 * 2 ^ (d - 1) := by
  obtain ⟨k, rfl⟩ : ∃ k, d = k + 1 := ⟨d - 1, by omega⟩
  rw [Nat.add_sub_cancel, Int.pow_succ, Int.mul_comm]
theorem at_ints {l : List Int} {k : Nat} (h : k < l.length) : atI (l.map V.int) (k : Int) = some (.int (l.getD k 0)) := by
  refine at_of (j := k) (by omega) ?_
  rw [List.getElem?_map, List.getElem?_eq_getElem h, List.getD_eq_getElem?_getD, List.getElem?_eq_getElem h]
  rfl
/-- a guesser of the weights ws and the shift sh -/
def GuesserAt (C : Addr) (H : Hp) (a : Addr) (ws : List Int) (sh : Nat) : Prop := Weights ws ∧ sh ≤ 15 ∧ ∃ dx p, H a = some (.ins C dx [("parts", .ref p), ("down", .int sh)]) ∧ H p = some (.lst (ws.map V.int))
theorem GuesserAt.same {C : Addr} {H H' : Hp} {a : Addr} {ws : List Int} {sh : Nat} (h : GuesserAt C H a ws sh) (s : Same H H') : GuesserAt C H' a ws sh := by
  obtain ⟨h1, h2, dx, p, h3, h4⟩ := h
  exact ⟨h1, h2, dx, p, s _ _ h3, s _ _ h4⟩
/-- a guesser that no change of g touches -/
def GuesserBut (C g : Addr) (H : Hp) (a : Addr) (ws : List Int) (sh : Nat) : Prop := ∀ H', But g H H' → GuesserAt C H' a ws sh
theorem GuesserBut.of {C g x : Addr} {H H' : Hp} {ws : List Int} {sh n : Nat} (hG : GenAt H g n) (nx : x ≠ g) (h : GuesserAt C H' x ws sh) (k : ∃ dx p, H' x = some (.ins C dx [("parts", .ref p), ("down", .int sh)]) ∧ H p = none) : GuesserBut C g H' x ws sh := by
  obtain ⟨hW, hs, dx, p, h1, h2⟩ := h
  obtain ⟨dx', p', h3, h4⟩ := k
  rw [h1] at h3
  cases h3
  exact fun H2 b => ⟨hW, hs, dx, p, b _ _ nx h1, b _ _ (hG.ne h4) h2⟩
theorem GuesserBut.but {C g x : Addr} {H H' : Hp} {ws : List Int} {sh : Nat} (h : GuesserBut C g H x ws sh) (b : But g H H') : GuesserBut C g H' x ws sh := fun H2 b2 => h H2 (b.trans b2)
/-- no guesser -/
def NoG (K : PySem.W.Frag) (H : Hp) (v : V) : Prop := ∃ T ∈ notTys, TyX K H v (.type T)
theorem NoG.same {K : PySem.W.Frag} {H H' : Hp} {v : V} (s : Same H H') (h : NoG K H v) : NoG K H' v := by
  obtain ⟨T, m, ty⟩ := h
  exact ⟨T, m, ty.same s⟩
def IsG (C : Addr) (H : Hp) (v : V) : Prop := ∃ a dx fs, v = .ref a ∧ H a = some (.ins C dx fs)
theorem IsG.same {C : Addr} {H H' : Hp} {v : V} (s : Same H H') (h : IsG C H v) : IsG C H' v := by
  obtain ⟨a, dx, fs, e, h⟩ := h
  exact ⟨a, dx, fs, e, s _ _ h⟩
local macro_rules | `(tactic| walk_at "go") => `(tactic| repeat (first | (with_reducible first | refine iteT ?_ | refine iteF ?_ | refine iteNtt ?_ | refine iteNff ?_ | refine iteET (by omega) ?_ | refine iteEF (by omega) ?_ | refine iteENT (by omega) ?_ | refine iteENF (by omega) ?_ | refine iteDT (by omega) ?_ | refine iteDF (by omega) ?_ | refine iteNT (by omega) ?_ | refine iteNF (by omega) ?_) | refine ⟨_, rfl, ?_⟩ | refine ⟨_, _, rfl, rfl, ?_⟩ | refine ⟨_, _, rfl, ?_⟩ | refine ⟨rfl, ?_⟩ | refine .inl ⟨_, rfl, ?_⟩ | refine .inr ⟨_, rfl, ?_⟩))
local macro_rules | `(tactic| walk_at "b") => `(tactic| try dsimp (config := { proj := false, iota := false, eta := false, zeta := false }) only)
section
variable {P : Program} {w : World} {K : PySem.W.Frag} {mg : Str → Option Value} {base : Heap} [pf : Sup.PF P fileS]
def sp_check_guesser (K : PySem.W.Frag) (CG CE : Addr) : Sp := fun vs H Q E => ∃ v : V, vs = [v] ∧ ((IsG CG H v ∧ Q .non H) ∨ (NoG K H v ∧ EE H E CE v))
theorem G_check_guesser (T : Top K mg) : FnOk P w K mg base (L2.CX P w) 3 T.f_check_guesser T.fd_check_guesser ["value"] (sp_check_guesser K T.C_Guesser T.C_InvalidGuesser) := by
  refine T.F_check_guesser.ok (CX := L2.CX P w) sc_check_guesser (fun vs H Q E h => by obtain ⟨v, rfl, _⟩ := h; rfl) (fun cdv A outer s H vs Q E hr h => ?_)
  obtain ⟨v, rfl, h⟩ := h
  refine ⟨_, (pss_one (ps_if (pt_not (pt_val (pe_callB (k_isi K rfl) (by rfl) T.n_isinstance (by decide +kernel) (pa_cons (pv 0) (pa_cons (pe_glob (v := .ref T.C_Guesser) rfl T.gc_Guesser rfl) pa_nil)))))
    (pss_one (ps_raise rfl (takes_of rfl rfl rfl rfl) (pmk_oex T.er_InvalidGuesser.sup.T T.er_InvalidGuesser.ini T.er_InvalidGuesser.ity (G_InvalidGuesser___init__ (P := P) (CX := CX0) T) (hr.mono (by decide)) T.er_InvalidGuesser.bnd .nil pass0 (by rfl) T.gc_InvalidGuesser (pa_cons (pv 0) pa_nil))))
    pss_nil)), ?_⟩
  rcases h with ⟨⟨a, dx, fs, rfl, ha⟩, q⟩ | ⟨⟨Ty, hT, ty⟩, q⟩
  · exact ⟨_, rfl, _, _, _, _, true, rfl, .own _, tyx_ins T.ic_Guesser ha, T.ic_Guesser.me, true, rfl, iteF q⟩
  · exact ⟨_, rfl, _, _, _, _, false, rfl, .own _, ty, T.kx_Guesser Ty hT, false, rfl, iteT ⟨_, rfl, mk_sup fun dd nd => q _ dd (Same.refl _) nd⟩⟩
theorem cut_get {bs : List Int} {i n : Nat} (h : i < n) (hn : n = bs.length) : (bs.map V.int)[n - 1 - i]? = some (.int (bs.reverse.getD i 0)) := by
  subst hn
  rw [List.getElem?_map, List.getElem?_eq_getElem (show bs.length - 1 - i < bs.length by omega)]
  have h2 : i < bs.reverse.length := by rw [List.length_reverse]; exact h
  rw [getD_of h2, List.getElem_reverse]
  rfl
def sp_sum_before (C : Addr) (K : PySem.W.Frag) : Sp := fun vs H Q _ => ∃ (a b : Addr) (ws : List Int) (sh : Nat) (bs : List Int), vs = [.ref a, .ref b] ∧ GuesserAt C H a ws sh ∧ SqL K H b (bs.map V.int) ∧ ws.length ≤ bs.length ∧ ∀ H', Same H H' → Q (.int (dot ws bs.reverse)) H'
theorem G_sum_before (T : Top K mg) : FnOk P w K mg base CX0 1 T.f_sum_before T.fd_sum_before ["guesser", "before"] (sp_sum_before T.C_Guesser K) := by
  refine T.F_sum_before.ok sc_sum_before (fun vs H Q E h => by obtain ⟨a, b, ws, sh, bs, rfl, _⟩ := h; rfl) (fun cdv A outer s H vs Q E hr h => ?_)
  obtain ⟨a, b, ws, sh, bs, rfl, hG, hB, hl, q⟩ := h
  refine ⟨_, PSs.nox (pss_cons (ps_set (i := 2) sc_sum_before.nd rfl (by first | exact Or.inl rfl | exact Or.inr rfl) pe_int)
  (pss_cons (ps_for PassesOwn.never rfl (k_piE K rfl (by rfl) T.n_enumerate (pa_cons (pe_fld (pv 0) rfl) pa_nil)) (k_pgT K rfl (by rfl) (pgs_cons (pg_name (i := 3) sc_sum_before.nd rfl (by first | exact Or.inl rfl | exact Or.inr rfl)) (pgs_cons (pg_name (i := 4) sc_sum_before.nd rfl (by first | exact Or.inl rfl | exact Or.inr rfl)) pgs_nil)))
    (pss_one (ps_set (i := 2) sc_sum_before.nd rfl (by first | exact Or.inl rfl | exact Or.inr rfl) (pe_op op_add (pv 2) (pe_op op_mul (pv 4) (pe_ix (k_ixL K rfl) (pv 1) (pe_op op_sub (pe_op op_sub (pe_callB (k_len K rfl) (by rfl) T.n_len (by decide +kernel) (pa_cons (pv 1) pa_nil)) pe_int) (pv 3)) (fun _ _ => rfl)))))))
  (pss_one (ps_ret (pv 2))))), ?_⟩
  obtain ⟨hW, _, dx, p, ha, hp⟩ := id hG
  have hP : SqL K H p (ws.map V.int) := .inl (.inl hp)
  refine ⟨_, rfl, a, T.C_Guesser, dx, _, _, rfl, ha, T.cl_Guesser, T.na_Guesser_parts, rfl, p, _, rfl, hP, ?_⟩
  refine for_it (walk_enum (K := K) (a := p) (xs := ws.map V.int)) (fun i σ H1 => ∃ v3 v4, σ = [some (.ref a), some (.ref b), some (.int (dot (ws.take i) bs.reverse)), v3, v4] ∧ Same H H1) ⟨none, none, ?_, Same.refl _⟩ (fun i σ H1 _ ⟨_, _, _, s⟩ => s.seq hP) ?_ ?_
  · show _ = [some (V.ref a), some (V.ref b), some (V.int (dot [] bs.reverse)), none, none]
    rfl
  · rintro i x σ H1 H2 hi ⟨v3, v4, rfl, s1⟩ ⟨t, y, z, rfl, nt, rfl, ey, ez⟩
    cases ey
    obtain ⟨n, hn, rfl⟩ := int_at ez
    rw [List.length_map] at hi
    have s2 : Same H1 (upd H1 t (.tup [.int (i : Nat), .int n])) := same_upd nt
    have hB2 := (s1.trans s2).seq hB
    refine ⟨t, _, rfl, .inl (.inl upd_same), rfl, _, _, rfl, _, _, rfl, rfl, ?_⟩
    have hb := hW.2 n (List.mem_of_getElem? hn)
    have en : n = ws.getD i 0 := by rw [List.getD_eq_getElem?_getD, hn]; rfl
    refine ⟨_, rfl, _, rfl, _, rfl, _, rfl, b, _, rfl, .inl hB2, _, _, rfl, rfl, _, rfl, _, _, rfl, rfl, b, _, _, .int (bs.reverse.getD i 0), rfl, rfl, hB2, at_of (j := bs.length - 1 - i) (by rw [List.length_map]; omega) (cut_get (show i < bs.length by omega) rfl), _, _, rfl, rfl, .inl ⟨by omega, by omega⟩, _, _, rfl, rfl, ?_⟩
    refine ⟨some (.int (i : Nat)), some (.int n), ?_, s1.trans s2⟩
    rw [dot_take i ws bs.reverse hi (by rw [List.length_reverse]; omega), ← en]
    rfl
  · rintro σ H1 ⟨v3, v4, rfl, s1⟩
    rw [List.length_map, List.take_length]
    exact ⟨_, rfl, q _ s1⟩
def sp_guess_behind (C : Addr) (K : PySem.W.Frag) : Sp := fun vs H Q _ => ∃ (a b : Addr) (ws : List Int) (sh : Nat) (bs : List Int), vs = [.ref a, .ref b] ∧ GuesserAt C H a ws sh ∧ SqL K H b (bs.map V.int) ∧ ws.length ≤ bs.length ∧ ∀ H', Same H H' → Q (.int (guessF ws sh bs)) H'
theorem G_guess_behind (T : Top K mg) : FnOk P w K mg base CX0 2 T.f_guess_behind T.fd_guess_behind ["guesser", "before"] (sp_guess_behind T.C_Guesser K) := by
  refine T.F_guess_behind.ok sc_guess_behind (fun vs H Q E h => by obtain ⟨a, b, ws, sh, bs, rfl, _⟩ := h; rfl) (fun cdv A outer s H vs Q E hr h => ?_)
  obtain ⟨a, b, ws, sh, bs, rfl, hG, hB, hl, q⟩ := h
  refine ⟨_, PSs.nox (pss_one (ps_ret (pe_op op_shr (pe_call (G_sum_before (P := P) T) (hr.mono (by decide)) (by rfl) T.g_sum_before T.F_sum_before.kp T.b_sum_before .nil pass0 (pa_cons (pv 0) (pa_cons (pv 1) pa_nil))) (pe_fld (pv 0) rfl)))), ?_⟩
  refine ⟨_, rfl, _, rfl, a, b, ws, sh, bs, rfl, hG, hB, hl, fun H1 s1 => ?_⟩
  obtain ⟨hW, _, dx, p, ha, hp⟩ := hG.same s1
  refine ⟨_, rfl, a, T.C_Guesser, dx, _, _, rfl, ha, T.cl_Guesser, T.na_Guesser_down, rfl, _, _, rfl, rfl, by omega, ?_⟩
  dsimp only
  rw [Int.toNat_natCast]
  exact q _ s1
theorem cut_mid (xs : List V) (i j : Nat) (h1 : i ≤ j) (h2 : j ≤ xs.length) : cutV xs (some (i : Int)) (some (j : Int)) = (xs.take j).drop i := by
  unfold cutV
  rw [HT.sIx_nat, HT.sIx_nat, Nat.min_eq_left h2, Nat.min_eq_left (Nat.le_trans h1 h2), List.drop_take]
def sp_told_rests (C : Addr) (K : PySem.W.Frag) : Sp := fun vs H Q _ => ∃ (a b : Addr) (ws : List Int) (sh : Nat) (row : List Int), vs = [.ref a, .ref b] ∧ GuesserAt C H a ws sh ∧ SqL K H b (row.map V.int) ∧ row.length ≤ 1000 ∧
  ∀ H' p, Same H H' → H p = none → H' p = some (.lst ((toldR ws sh row).map V.int)) → Q (.ref p) H'
theorem G_told_rests (T : Top K mg) : FnOk P w K mg base CX0 3 T.f_told_rests T.fd_told_rests ["guesser", "row"] (sp_told_rests T.C_Guesser K) := by
  refine T.F_told_rests.ok sc_told_rests (fun vs H Q E h => by obtain ⟨a, b, ws, sh, row, rfl, _⟩ := h; rfl) (fun cdv A outer s H vs Q E hr h => ?_)
  obtain ⟨a, b, ws, sh, row, rfl, hG, hB, hl, q⟩ := h
  refine ⟨_, PSs.nox (pss_cons (ps_set (i := 2) sc_told_rests.nd rfl (by first | exact Or.inl rfl | exact Or.inr rfl) (pe_callB (k_len K rfl) (by rfl) T.n_len (by decide +kernel) (pa_cons (pe_fld (pv 0) rfl) pa_nil)))
  (pss_cons (ps_set (i := 3) sc_told_rests.nd rfl (by first | exact Or.inl rfl | exact Or.inr rfl) (pe_callTy (k_listOf K rfl) (by rfl) T.n_list (by decide +kernel) (pa_cons (pe_slice (k_slL K rfl) (pv 1) po_none (po_some (pv 2))) pa_nil)))
  (pss_cons (ps_for PassesOwn.never rfl (pi_range2 (by rfl) T.n_range (pa_cons (pv 2) (pa_cons (pe_callB (k_len K rfl) (by rfl) T.n_len (by decide +kernel) (pa_cons (pv 1) pa_nil)) pa_nil))) (pg_name (i := 4) sc_told_rests.nd rfl (by first | exact Or.inl rfl | exact Or.inr rfl))
    (pss_one (ps_expr (pe_bm PySem.F.plainAttrs_list PySem.F.slot_list_append PySem.F.type_list_append mt_append (pv 3) (pa_cons (pe_op op_sub (pe_ix (k_ixL K rfl) (pv 1) (pv 4) (fun _ _ => rfl)) (pe_call (G_guess_behind (P := P) T) (hr.mono (by decide)) (by rfl) T.g_guess_behind T.F_guess_behind.kp T.b_guess_behind .nil pass0 (pa_cons (pv 0) (pa_cons (pe_slice (k_slL K rfl) (pv 1) (po_some (pe_op op_sub (pv 4) (pv 2))) (po_some (pv 4))) pa_nil)))) pa_nil)))))
  (pss_one (ps_ret (pv 3)))))), ?_⟩
  obtain ⟨hW, _, dx, p, ha, hp⟩ := id hG
  have hP : SqL K H p (ws.map V.int) := .inl (.inl hp)
  refine ⟨_, rfl, a, T.C_Guesser, dx, _, _, rfl, ha, T.cl_Guesser, T.na_Guesser_parts, rfl, p, _, rfl, .inl hP, ?_⟩
  rw [List.length_map]
  refine ⟨_, rfl, _, rfl, _, rfl, b, _, rfl, hB, fun c nc => ?_⟩
  rw [cut_take, ← List.map_take]
  obtain ⟨H1, e1, s1, h1⟩ := fresh (.lst ((row.take ws.length).map V.int)) nc
  rw [e1]
  refine ⟨c, _, rfl, .inl (.inl (.inl h1)), fun f nf => ?_⟩
  obtain ⟨H2, e2, s2, h2⟩ := fresh (.lst ((row.take ws.length).map V.int)) nf
  rw [e2]
  have s12 := s1.trans s2
  have hw8 := hW.1
  refine ⟨_, rfl, _, rfl, b, _, rfl, .inl (s12.seq hB), _, _, rfl, ⟨by omega, by omega, by rw [List.length_map]; omega, by rw [List.length_map]; omega⟩, ?_⟩
  rw [List.length_map]
  have nHf : H f = none := s1.free nf
  refine for_range (lo := (ws.length : Int)) (n := ((row.length : Int) - (ws.length : Int)).toNat) (fun i σ H3 => ∃ v4, σ = [some (.ref a), some (.ref b), some (.int ws.length), some (.ref f), v4] ∧ Same H H3 ∧ H3 f = some (.lst (((toldR ws sh row).take (ws.length + i)).map V.int))) ⟨none, rfl, s12, ?_⟩ ?_ ?_
  · rw [h2, Nat.add_zero, toldR_firsts ws sh row ws.length (Nat.le_refl _)]
  · rintro i σ H3 hi ⟨v4, rfl, s3, h3⟩
    have hpl : ws.length + i < row.length := by omega
    have hB3 := s3.seq hB
    have rowAt : atI (row.map V.int) ((ws.length : Int) + (i : Int)) = some (.int (row.getD (ws.length + i) 0)) := by
      refine at_of (j := ws.length + i) (by omega) ?_
      rw [List.getElem?_map, List.getElem?_eq_getElem hpl, getD_of hpl]
      rfl
    refine ⟨_, rfl, .inl ⟨rfl, _, .inl (.inl h3)⟩, _, rfl, _, rfl, b, _, _, _, rfl, rfl, hB3, rowAt, ?_⟩
    refine ⟨_, rfl, _, rfl, _, rfl, _, rfl, _, _, rfl, rfl, _, rfl, _, rfl, _, rfl, b, _, rfl, hB3, fun c2 nc2 => ?_⟩
    have ec : cutV (row.map V.int) (some ((ws.length : Int) + (i : Int) - (ws.length : Int))) (some ((ws.length : Int) + (i : Int))) = (((row.take (ws.length + i)).drop i)).map V.int := by
      rw [show (ws.length : Int) + (i : Int) - (ws.length : Int) = (i : Int) by omega, show (ws.length : Int) + (i : Int) = ((ws.length + i : Nat) : Int) by omega, cut_mid _ _ _ (by omega) (by rw [List.length_map]; omega), List.map_drop, List.map_take]
    rw [ec]
    obtain ⟨H4, e4, s4, h4⟩ := fresh (.lst (((row.take (ws.length + i)).drop i).map V.int)) nc2
    rw [e4]
    refine ⟨a, c2, ws, sh, _, rfl, (hG.same s3).same s4, .inl (.inl h4), by rw [List.length_drop, List.length_take]; omega, fun H5 s5 => ?_⟩
    rw [guess_end ws sh (row.take (ws.length + i)) i (by rw [List.length_take]; omega)]
    have h35 := s5 _ _ (s4 _ _ h3)
    refine ⟨_, _, rfl, rfl, f, _, _, rfl, rfl, h35, ?_, ?_⟩
    · rw [List.length_map, List.length_take]
      exact Nat.lt_of_le_of_lt (Nat.min_le_right _ _) (by rw [toldR_len]; exact small1000 hl)
    · refine ⟨_, rfl, ?_, ?_⟩
      · intro z o hz
        rw [upd_ne (ne_of_none hz nHf)]
        exact s5 _ _ (s4 _ _ (s3 _ _ hz))
      · rw [upd_same, ← Nat.add_assoc, toldR_next ws sh row (ws.length + i) (by omega) hpl, List.map_append]
        rfl
  · rintro σ H3 ⟨v4, rfl, s3, h3⟩
    refine ⟨_, rfl, q _ f s3 nHf ?_⟩
    rw [h3, List.take_of_length_le]
    rw [toldR_len]
    omega
def sp_law_weights : Sp := fun vs H Q _ => ∃ (g : Addr) (m : Nat) (n : Nat), vs = [.ref g, .int m] ∧ GenAt H g n ∧ n ≤ 10 ^ 9 ∧ m ≤ 8 ∧
  ∀ H' p ws, But g H H' → H p = none → H' p = some (.lst (ws.map V.int)) → GenAt H' g (n + 10000) → Weights ws → ws.length = m → Q (.ref p) H'
theorem G_law_weights (T : Top K mg) : FnOk P w K mg base CX0 3 T.f_law_weights T.fd_law_weights ["_law_generator_here", "_law_many"] sp_law_weights := by
  refine T.F_law_weights.ok sc_law_weights (fun vs H Q E h => by obtain ⟨g, m, n, rfl, _⟩ := h; rfl) (fun cdv A outer s H vs Q E hr h => ?_)
  obtain ⟨g, m, n, rfl, hG, hn, hm, q⟩ := h
  refine ⟨_, PSs.nox (pss_cons (ps_set (i := 2) sc_law_weights.nd rfl (by first | exact Or.inl rfl | exact Or.inr rfl) (pe_lst pa_nil))
  (pss_cons (ps_for PassesOwn.never rfl (pi_range1 (by rfl) T.n_range (pa_cons (pv 1) pa_nil)) (pg_name (i := 3) sc_law_weights.nd rfl (by first | exact Or.inl rfl | exact Or.inr rfl))
    (pss_cons (ps_par (by rfl) sc_law_weights.nd (i := 4) (j := 5) rfl rfl (by decide) rfl rfl (pa_cons (pe_op op_sub (pe_call (G_law_random (P := P) T) (hr.mono (by decide)) (by rfl) T.g_law_random T.F_law_random.kp T.b_law_random .nil pass0 (pa_cons (pv 0) (pa_cons (pe_op op_add (pe_op op_powW pe_int pe_int) pe_int) pa_nil))) (pe_op op_powW pe_int pe_int)) (pa_cons (pe_call (G_law_random (P := P) T) (hr.mono (by decide)) (by rfl) T.g_law_random T.F_law_random.kp T.b_law_random .nil pass0 (pa_cons (pv 0) (pa_cons pe_int pa_nil))) pa_nil)) (by rfl))
  (pss_one (ps_expr (pe_bm PySem.F.plainAttrs_list PySem.F.slot_list_append PySem.F.type_list_append mt_append (pv 2) (pa_cons (pe_ix (k_ixL K rfl) (pe_lst (pa_cons (pe_op op_sub (pe_call (G_law_random (P := P) T) (hr.mono (by decide)) (by rfl) T.g_law_random T.F_law_random.kp T.b_law_random .nil pass0 (pa_cons (pv 0) (pa_cons pe_int pa_nil))) pe_int) (pa_cons (pe_op op_sub (pe_call (G_law_random (P := P) T) (hr.mono (by decide)) (by rfl) T.g_law_random T.F_law_random.kp T.b_law_random .nil pass0 (pa_cons (pv 0) (pa_cons pe_int pa_nil))) pe_int) (pa_cons pe_int (pa_cons (pv 4) pa_nil))))) (pv 5) (fun _ _ => rfl)) pa_nil))))))
  (pss_one (ps_ret (pv 2))))), ?_⟩
  refine ⟨Nat.zero_le _, fun p np => ?_⟩
  have npg : p ≠ g := hG.ne np
  obtain ⟨H1, e1, s1, h1⟩ := fresh (.lst []) np
  rw [e1]
  refine ⟨_, rfl, _, rfl, by omega, by omega, ?_⟩
  rw [Int.toNat_natCast]
  refine for_range (lo := 0) (n := m) (fun i σ H2 => ∃ (v3 v4 v5 : Option V) (ws : List Int), σ = [some (.ref g), some (.int m), some (.ref p), v3, v4, v5] ∧ But g H H2 ∧ H2 p = some (.lst (ws.map V.int)) ∧ (∀ x ∈ ws, -32768 ≤ x ∧ x ≤ 32768) ∧ ws.length = i ∧ GenAt H2 g (n + 400 * i))
    ⟨none, none, none, [], rfl, But.of s1, h1, (fun _ h => nomatch h), rfl, hG.same s1⟩ ?_ ?_
  · rintro i σ H2 hi ⟨v3, v4, v5, ws, rfl, b2, hp2, hW, hl, g2⟩
    refine ⟨_, rfl, _, _, rfl, rfl, ⟨by decide, by decide +kernel⟩, _, _, rfl, rfl, g, _, _, rfl, g2, by omega, by decide, small_2900 (by decide), fun r1 H3 r10 r11 g3 b3 => ?_⟩
    refine ⟨_, _, rfl, rfl, ⟨by decide, by decide +kernel⟩, _, _, rfl, rfl, _, rfl, g, _, _, rfl, g3, by omega, by decide, small_2900 (by decide), fun kd H4 k0 k1 g4 b4 => ?_⟩
    refine ⟨_, _, rfl, ?_⟩
    have hp4 : H4 p = some (.lst (ws.map V.int)) := b4 _ _ npg (b3 _ _ npg hp2)
    refine ⟨_, rfl, .inl ⟨rfl, _, .inl (.inl hp4)⟩, ?_⟩
    refine ⟨_, rfl, g, _, _, rfl, g4, by omega, by decide, small_2900 (by decide), fun r2 H5 r20 r21 g5 b5 => ?_⟩
    refine ⟨_, _, rfl, rfl, _, rfl, g, _, _, rfl, g5, by omega, by decide, small_2900 (by decide), fun r3 H6 r30 r31 g6 b6 => ?_⟩
    refine ⟨_, _, rfl, rfl, _, rfl, (show 4 ≤ sizeLine by decide), fun c nc => ?_⟩
    have hp6 : H6 p = some (.lst (ws.map V.int)) := b6 _ _ npg (b5 _ _ npg hp4)
    have e16 : (2 : Int) ^ (16 : Int).toNat = 65536 := by decide
    have e15 : (2 : Int) ^ (15 : Int).toNat = 32768 := by decide
    rw [e16] at r11
    obtain ⟨H7, e7, s7, h7⟩ := fresh (.lst [V.int (r2 - 4), V.int (r3 - 2), V.int 0, V.int (r1 - 2 ^ (15 : Int).toNat)]) nc
    dsimp only
    rw [e7]
    have hx : ∃ y : Int, atI [V.int (r2 - 4), V.int (r3 - 2), V.int 0, V.int (r1 - 2 ^ (15 : Int).toNat)] kd = some (.int y) ∧ -32768 ≤ y ∧ y ≤ 32768 := by
      rw [e15]
      have hk : kd = 0 ∨ kd = 1 ∨ kd = 2 ∨ kd = 3 := by omega
      rcases hk with rfl | rfl | rfl | rfl
      · exact ⟨_, rfl, by omega, by omega⟩
      · exact ⟨_, rfl, by omega, by omega⟩
      · exact ⟨_, rfl, by omega, by omega⟩
      · exact ⟨_, rfl, by omega, by omega⟩
    obtain ⟨y, ay, y0, y1⟩ := hx
    refine ⟨_, rfl, c, _, _, _, rfl, rfl, .inl (.inl h7), ay, p, _, _, rfl, rfl, s7 _ _ hp6, by rw [List.length_map]; exact small1000 (by omega), ?_⟩
    have b27 : But g H2 H7 := ((((b3.trans b4).trans b5).trans b6).same s7)
    refine ⟨_, _, _, ws ++ [y], rfl, ?_, ?_, ?_, ?_, ?_⟩
    · intro b o z h
      rw [upd_ne (ne_of_none h np)]
      exact b27 _ _ z (b2 _ _ z h)
    · rw [upd_same, List.map_append]
      rfl
    · intro x hx
      rcases List.mem_append.mp hx with hx | hx
      · exact hW x hx
      · rw [List.mem_singleton.mp hx]
        exact ⟨y0, y1⟩
    · rw [List.length_append, hl]
      rfl
    · obtain ⟨x1, x2, x3, e, a1, a2⟩ := g6
      refine ⟨x1, x2, x3, ?_, a1, by omega⟩
      rw [upd_ne npg.symm]
      exact s7 _ _ e
  · rintro σ H2 ⟨v3, v4, v5, ws, rfl, b2, hp2, hW, hl, g2⟩
    exact ⟨_, rfl, q _ p ws b2 np hp2 (g2.mono (by omega)) ⟨by omega, hW⟩ hl⟩
def SmpI (d : Nat) (y : Int) : Prop := -(2 ^ (d - 1)) ≤ y ∧ y ≤ 2 ^ (d - 1) - 1
def sp_law_sample : Sp := fun vs H Q _ => ∃ (g : Addr) (d n : Nat), vs = [.ref g, .int d] ∧ GenAt H g n ∧ n ≤ 10 ^ 9 ∧ 1 ≤ d ∧ d ≤ 32 ∧ ∀ (y : Int) H', SmpI d y → But g H H' → GenAt H' g (n + 200) → Q (.int y) H'
theorem G_law_sample (T : Top K mg) : FnOk P w K mg base CX0 3 T.f_law_sample T.fd_law_sample ["_law_generator_here", "_law_depth"] sp_law_sample := by
  refine T.F_law_sample.ok sc_law_sample (fun vs H Q E h => by obtain ⟨g, d, n, rfl, _⟩ := h; rfl) (fun cdv A outer s H vs Q E hr h => ?_)
  obtain ⟨g, d, n, rfl, hG, hn, h0, h1, q⟩ := h
  refine ⟨_, PSs.nox (pss_cons (ps_set (i := 2) sc_law_sample.nd rfl (by first | exact Or.inl rfl | exact Or.inr rfl) (pe_un un_neg (pe_op op_shl pe_int (pe_op op_sub (pv 1) pe_int))))
  (pss_one (ps_ret (pe_ix (k_ixL K rfl) (pe_lst (pa_cons (pv 2) (pa_cons (pe_op op_sub (pe_op op_shl pe_int (pe_op op_sub (pv 1) pe_int)) pe_int) (pa_cons pe_int (pa_cons (pe_op op_add (pv 2) (pe_call (G_law_random (P := P) T) (hr.mono (by decide)) (by rfl) T.g_law_random T.F_law_random.kp T.b_law_random .nil pass0 (pa_cons (pv 0) (pa_cons (pe_op op_shl pe_int (pv 1)) pa_nil)))) pa_nil))))) (pe_call (G_law_random (P := P) T) (hr.mono (by decide)) (by rfl) T.g_law_random T.F_law_random.kp T.b_law_random .nil pass0 (pa_cons (pv 0) (pa_cons pe_int pa_nil))) (fun _ _ => rfl))))), ?_⟩
  have hp := pow_pos' (d - 1)
  have hpd := pow_two h0
  have h32 : (2 : Int) ^ d ≤ 2 ^ 32 := pow2_le h1
  refine ⟨_, rfl, _, _, rfl, rfl, _, _, rfl, rfl, ⟨by omega, by omega, by decide⟩, _, rfl, ?_⟩
  dsimp only
  rw [Int.one_mul, pred_toNat h0]
  refine ⟨_, rfl, _, rfl, _, _, rfl, rfl, _, _, rfl, rfl, ⟨by omega, by omega, by decide⟩, _, _, rfl, rfl, ?_⟩
  dsimp only
  rw [Int.one_mul, pred_toNat h0]
  refine ⟨_, rfl, _, rfl, _, rfl, _, _, rfl, rfl, ⟨by omega, by omega, by decide⟩, ?_⟩
  dsimp only
  rw [Int.one_mul, Int.toNat_natCast]
  refine ⟨g, _, _, rfl, hG, by omega, by omega, small_2900 (by omega), fun r1 H1 r10 r11 g1 b1 => ?_⟩
  refine ⟨_, _, rfl, rfl, (show 4 ≤ sizeLine by decide), fun c nc => ?_⟩
  dsimp only
  obtain ⟨H2, e2, s2, h2⟩ := fresh (.lst [V.int (-(2 ^ (d - 1))), V.int (2 ^ (d - 1) - 1), V.int 0, V.int (-(2 ^ (d - 1)) + r1)]) nc
  rw [e2]
  refine ⟨_, rfl, g, _, _, rfl, g1.same s2, by omega, by decide, small_2900 (by decide), fun kd H3 k0 k1 g3 b3 => ?_⟩
  have h3 : H3 c = some (.lst [V.int (-(2 ^ (d - 1))), V.int (2 ^ (d - 1) - 1), V.int 0, V.int (-(2 ^ (d - 1)) + r1)]) := b3 _ _ (g1.ne nc) h2
  have hx : ∃ y : Int, atI [V.int (-(2 ^ (d - 1))), V.int (2 ^ (d - 1) - 1), V.int 0, V.int (-(2 ^ (d - 1)) + r1)] kd = some (.int y) ∧ SmpI d y := by
    have hk : kd = 0 ∨ kd = 1 ∨ kd = 2 ∨ kd = 3 := by omega
    rcases hk with rfl | rfl | rfl | rfl
    · exact ⟨_, rfl, by omega, by omega⟩
    · exact ⟨_, rfl, by omega, by omega⟩
    · exact ⟨_, rfl, by omega, by omega⟩
    · exact ⟨_, rfl, by omega, by omega⟩
  obtain ⟨y, ay, hy⟩ := hx
  exact ⟨c, _, _, _, rfl, rfl, .inl (.inl h3), ay, q y _ hy ((b1.same s2).trans b3) (g3.mono (by omega))⟩
def sp_law_row : Sp := fun vs H Q _ => ∃ (g : Addr) (d m n : Nat), vs = [.ref g, .int d, .int m] ∧ GenAt H g n ∧ n ≤ 10 ^ 8 ∧ 1 ≤ d ∧ d ≤ 32 ∧ m ≤ 100 ∧
  ∀ H' p (ys : List Int), H p = none → But g H H' → GenAt H' g (n + 100000) → H' p = some (.lst (ys.map V.int)) → ys.length = m → Samples d ys → Q (.ref p) H'
theorem G_law_row (T : Top K mg) : FnOk P w K mg base CX0 4 T.f_law_row T.fd_law_row ["_law_generator_here", "_law_depth", "_law_many"] sp_law_row := by
  refine T.F_law_row.ok sc_law_row (fun vs H Q E h => by obtain ⟨g, d, m, n, rfl, _⟩ := h; rfl) (fun cdv A outer s H vs Q E hr h => ?_)
  obtain ⟨g, d, m, n, rfl, hG, hn, h0, h1, hm, q⟩ := h
  refine ⟨_, PSs.nox (pss_one (ps_ret (pe_lc (own := [("_law_place", 3)]) (g := gName 3) (tt := tYes) (by rfl) sc_law_row.nd (pi_range1 (by rfl) T.n_range (pa_cons (pv 2) pa_nil)) (blkOk_by (own := [("_law_place", 3)]) (N := N_law_row) (sc := defScope s_law_row) (by decide +kernel)) (fun _ _ _ _ _ => (pg_name (i := 3) sc_law_row.nd rfl (by first | exact Or.inl rfl | exact Or.inr rfl))) (fun _ _ _ _ _ => pts_nil) (fun _ _ _ _ _ => (pe_call (G_law_sample (P := P) T) (hr.mono (by decide)) (by rfl) T.g_law_sample T.F_law_sample.kp T.b_law_sample .nil pass0 (pa_cons (pv 0) (pa_cons (pv 1) pa_nil))))))), ?_⟩
  refine ⟨_, rfl, _, rfl, by omega, by omega, fun D nD => ?_⟩
  rw [Int.toNat_natCast]
  refine lc_drawR (lo := 0) (n := m) g n 200 (SmpI d) nD hG (small1000 (by omega)) (fun x => rfl) ?_ ?_
  · intro i H' hi b hg Qt qt
    exact ⟨_, rfl, _, rfl, g, d, _, rfl, hg, by omega, h0, h1, fun y H2 hy b2 g2 => qt y H2 hy b2 (by rw [Nat.mul_succ, ← Nat.add_assoc]; exact g2)⟩
  · intro H' ys b hg hD hl hP
    exact q _ D ys nD b (hg.mono (by omega)) hD hl hP
def sp_law_guess (K : PySem.W.Frag) : Sp := fun vs H Q _ => ∃ (a b : Addr) (ws : List Int) (sh : Nat) (bs : List Int), vs = [.ref a, .int sh, .ref b] ∧ SqL K H a (ws.map V.int) ∧ SqL K H b (bs.map V.int) ∧ Weights ws ∧ ws.length ≤ bs.length ∧ bs.length ≤ 1000 ∧ sh ≤ 15 ∧ Q (.int (guessF ws sh bs)) H
theorem G_law_guess (T : Top K mg) : FnOk P w K mg base CX0 1 T.f_law_guess T.fd_law_guess ["_law_weights_here", "_law_shift", "_law_before"] (sp_law_guess K) := by
  refine T.F_law_guess.ok sc_law_guess (fun vs H Q E h => by obtain ⟨a, b, ws, sh, bs, rfl, _⟩ := h; rfl) (fun cdv A outer s H vs Q E hr h => ?_)
  obtain ⟨a, b, ws, sh, bs, rfl, hA, hB, hW, hl, hb, hsh, q⟩ := h
  refine ⟨_, PSs.nox (pss_cons (ps_set (i := 3) sc_law_guess.nd rfl (by first | exact Or.inl rfl | exact Or.inr rfl) pe_int)
  (pss_cons (ps_for PassesOwn.never rfl (pi_range1 (by rfl) T.n_range (pa_cons (pe_callB (k_len K rfl) (by rfl) T.n_len (by decide +kernel) (pa_cons (pv 0) pa_nil)) pa_nil)) (pg_name (i := 4) sc_law_guess.nd rfl (by first | exact Or.inl rfl | exact Or.inr rfl))
    (pss_one (ps_set (i := 3) sc_law_guess.nd rfl (by first | exact Or.inl rfl | exact Or.inr rfl) (pe_op op_add (pv 3) (pe_op op_mul (pe_ix (k_ixL K rfl) (pv 0) (pv 4) (fun _ _ => rfl)) (pe_ix (k_ixL K rfl) (pv 2) (pe_op op_sub (pe_op op_sub (pe_callB (k_len K rfl) (by rfl) T.n_len (by decide +kernel) (pa_cons (pv 2) pa_nil)) pe_int) (pv 4)) (fun _ _ => rfl)))))))
  (pss_one (ps_ret (pe_op op_fdivW (pv 3) (pe_op op_shl pe_int (pv 1))))))), ?_⟩
  have hw8 := hW.1
  refine ⟨_, rfl, a, _, rfl, .inl hA, _, rfl, by omega, by rw [List.length_map]; omega, ?_⟩
  rw [List.length_map, Int.toNat_natCast]
  refine for_range (lo := 0) (n := ws.length) (fun i σ H1 => ∃ v4, σ = [some (.ref a), some (.int sh), some (.ref b), some (.int (dot (ws.take i) bs.reverse)), v4] ∧ H1 = H) ⟨none, rfl, rfl⟩ ?_ ?_
  · rintro i σ H1 hi ⟨v4, rfl, rfl⟩
    have hwb := hW.2 _ (List.getElem_mem hi)
    have ewi : ws.getD i 0 = ws[i] := getD_of hi
    refine ⟨_, rfl, _, rfl, _, rfl, a, _, _, .int (ws.getD i 0), rfl, rfl, hA, ?_, _, rfl, _, rfl, b, _, rfl, .inl hB, _, _, rfl, rfl, _, rfl, _, _, rfl, rfl, b, _, _, .int (bs.reverse.getD i 0), rfl, rfl, hB, ?_, _, _, rfl, rfl, .inl ⟨by omega, by omega⟩, _, _, rfl, rfl, ?_⟩
    · rw [Int.zero_add]
      exact at_ints hi
    · refine at_of (j := bs.length - 1 - i) (by rw [List.length_map]; omega) (cut_get (by omega) rfl)
    refine ⟨some (.int (0 + (i : Int))), ?_, rfl⟩
    rw [dot_take i ws bs.reverse hi (by rw [List.length_reverse]; omega)]
    rfl
  · rintro σ H1 ⟨v4, rfl, rfl⟩
    have hp := pow_pos' sh
    rw [List.take_length]
    refine ⟨_, rfl, _, rfl, _, _, rfl, rfl, ⟨by omega, by omega, by decide⟩, _, _, rfl, rfl, ?_, ?_⟩
    · have h15 : (2 : Int) ^ sh ≤ 2 ^ 15 := pow2_le hsh
      show CDivW _ (1 * 2 ^ ((sh : Int)).toNat)
      rw [Int.one_mul, Int.toNat_natCast]
      exact wide_div (b := 60) hp (by omega) (by decide) (by decide)
    dsimp only
    rw [Int.one_mul, Int.toNat_natCast]
    exact q
def sp_law_plain (K : PySem.W.Frag) : Sp := fun vs H Q _ => ∃ (a b : Addr) (ws : List Int) (sh : Nat) (row : List Int), vs = [.ref a, .int sh, .ref b] ∧ SqL K H a (ws.map V.int) ∧ SqL K H b (row.map V.int) ∧ Weights ws ∧ row.length ≤ 1000 ∧ sh ≤ 15 ∧
  ∀ p H', H p = none → Same H H' → H' p = some (.lst ((toldR ws sh row).map V.int)) → Q (.ref p) H'
theorem G_law_plain (T : Top K mg) : FnOk P w K mg base CX0 2 T.f_law_plain T.fd_law_plain ["_law_weights_here", "_law_shift", "_law_row_here"] (sp_law_plain K) := by
  refine T.F_law_plain.ok sc_law_plain (fun vs H Q E h => by obtain ⟨a, b, ws, sh, row, rfl, _⟩ := h; rfl) (fun cdv A outer s H vs Q E hr h => ?_)
  obtain ⟨a, b, ws, sh, row, rfl, hA, hB, hW, hl, hsh, q⟩ := h
  refine ⟨_, PSs.nox (pss_cons (ps_set (i := 3) sc_law_plain.nd rfl (by first | exact Or.inl rfl | exact Or.inr rfl) (pe_lst pa_nil))
  (pss_cons (ps_for PassesOwn.never rfl (pi_range1 (by rfl) T.n_range (pa_cons (pe_callB (k_len K rfl) (by rfl) T.n_len (by decide +kernel) (pa_cons (pv 2) pa_nil)) pa_nil)) (pg_name (i := 4) sc_law_plain.nd rfl (by first | exact Or.inl rfl | exact Or.inr rfl))
    (pss_one (ps_expr (pe_bm PySem.F.plainAttrs_list PySem.F.slot_list_append PySem.F.type_list_append mt_append (pv 3) (pa_cons (pe_op op_sub (pe_ix (k_ixL K rfl) (pv 2) (pv 4) (fun _ _ => rfl)) (pe_ifExp (pt_cmpR op_lt (pv 4) (pe_callB (k_len K rfl) (by rfl) T.n_len (by decide +kernel) (pa_cons (pv 0) pa_nil)) (nomark _)) pe_int (pe_call (G_law_guess (P := P) T) (hr.mono (by decide)) (by rfl) T.g_law_guess T.F_law_guess.kp T.b_law_guess .nil pass0 (pa_cons (pv 0) (pa_cons (pv 1) (pa_cons (pe_slice (k_slL K rfl) (pv 2) po_none (po_some (pv 4))) pa_nil)))))) pa_nil)))))
  (pss_one (ps_ret (pv 3))))), ?_⟩
  have hw8 := hW.1
  refine ⟨Nat.zero_le _, fun f nf => ?_⟩
  obtain ⟨H1, e1, s1, h1⟩ := fresh (.lst []) nf
  rw [e1]
  refine ⟨_, rfl, b, _, rfl, .inl (s1.seq hB), _, rfl, by omega, by rw [List.length_map]; omega, ?_⟩
  rw [List.length_map, Int.toNat_natCast]
  refine for_range (lo := 0) (n := row.length) (fun i σ H2 => ∃ v4, σ = [some (.ref a), some (.int sh), some (.ref b), some (.ref f), v4] ∧ Same H H2 ∧ H2 f = some (.lst (((toldR ws sh row).take i).map V.int))) ⟨none, rfl, s1, h1⟩ ?_ ?_
  · rintro i σ H2 hi ⟨v4, rfl, s2, h2⟩
    have hB2 := s2.seq hB
    have hA2 := s2.seq hA
    have at0 : atI (row.map V.int) (0 + (i : Int)) = some (.int (row.getD i 0)) := by
      rw [Int.zero_add]
      exact at_ints hi
    have hz : (((toldR ws sh row).take i).map V.int).length < sizeLine := by
      rw [List.length_map, List.length_take]
      exact Nat.lt_of_le_of_lt (Nat.min_le_left _ _) (small1000 (by omega))
    have step : (toldR ws sh row).take (i + 1) = (toldR ws sh row).take i ++ [row.getD i 0 - (if i < ws.length then 0 else guessF ws sh (row.take i))] := by
      rw [List.take_add_one]
      congr 1
      unfold toldR
      rw [List.getElem?_map, List.getElem?_range hi]
      rfl
    refine ⟨_, rfl, .inl ⟨rfl, _, .inl (.inl h2)⟩, _, rfl, _, rfl, b, _, _, _, rfl, rfl, hB2, at0, _, rfl, _, rfl, a, _, rfl, .inl hA2, _, _, rfl, rfl, _, rfl, ?_⟩
    rw [List.length_map]
    by_cases hc : i < ws.length
    · refine iteDT (by omega) ?_
      refine ⟨_, _, rfl, rfl, f, _, _, rfl, rfl, h2, hz, ?_⟩
      refine ⟨_, rfl, same_over nf s2, ?_⟩
      rw [upd_same, step, if_pos hc, List.map_append]
      rfl
    · refine iteDF (by omega) ?_
      refine ⟨_, rfl, _, rfl, _, rfl, _, rfl, _, rfl, b, _, rfl, hB2, fun c nc => ?_⟩
      rw [Int.zero_add, cut_take, ← List.map_take]
      obtain ⟨H3, e3, s3, h3⟩ := fresh (.lst ((row.take i).map V.int)) nc
      rw [e3]
      refine ⟨a, c, ws, sh, row.take i, rfl, s3.seq hA2, .inl (.inl h3), hW, by rw [List.length_take]; omega, by rw [List.length_take]; omega, hsh, ?_⟩
      refine ⟨_, _, rfl, rfl, f, _, _, rfl, rfl, s3 _ _ h2, hz, ?_⟩
      refine ⟨_, rfl, same_over nf (s2.trans s3), ?_⟩
      rw [upd_same, step, if_neg hc, List.map_append]
      rfl
  · rintro σ H2 ⟨v4, rfl, s2, h2⟩
    refine ⟨_, rfl, q f _ nf s2 ?_⟩
    rw [h2, List.take_of_length_le (by rw [toldR_len]; exact Nat.le_refl _)]
end
end My

namespace My
open PySem PySem.Spec PyProof.Rows L2 Pre
/-! ### guessers refused: what is wrong -/
/-- the error's class: 0 list, 1 item, 2 number, 3 guesser, 4 depth, 5 row -/
def csT {K : PySem.W.Frag} {mg : Str → Option Value} (T : Top K mg) : Nat → Addr
  | 0 => T.C_InvalidList
  | 1 => T.C_InvalidItem
  | 2 => T.C_InvalidNumber
  | 3 => T.C_InvalidGuesser
  | 4 => T.C_InvalidDepth
  | _ => T.C_InvalidRow
/-- no list of whole numbers, or one of fewer than n -/
def BadB (K : PySem.W.Frag) (H : Hp) (n : Nat) (v : V) : Prop := NoL K H v ∨ ∃ (a : Addr) (xs : List V), v = .ref a ∧ H a = some (.lst xs) ∧ xs.length ≤ 1000 ∧ (∀ x ∈ xs, Item K H x) ∧ (xs.all isI = false ∨ ∃ ns : List Int, xs = ns.map V.int ∧ ns.length < n)
theorem BadB.same {K : PySem.W.Frag} {H H' : Hp} {n : Nat} {v : V} (s : Same H H') (h : BadB K H n v) : BadB K H' n v := by
  rcases h with h | ⟨a, xs, e, h, l, r, k⟩
  · exact .inl (h.same s)
  · exact .inr ⟨a, xs, e, s _ _ h, l, fun x hx => (r x hx).same s, k⟩
theorem dok32 {K : PySem.W.Frag} {H : Hp} {d : Nat} (d1 : 1 ≤ d) (d2 : d ≤ 32) : NumV K H (.int (d : Int)) 1 (some 32) true := .inl ⟨_, rfl, (decide_eq_true ⟨by omega, fun j e => by cases e; omega⟩).symm⟩
theorem GuesserAt.isG {C : Addr} {H : Hp} {a : Addr} {ws : List Int} {sh : Nat} (h : GuesserAt C H a ws sh) : IsG C H (.ref a) := by
  obtain ⟨_, _, dx, p, h, _⟩ := h
  exact ⟨a, dx, _, rfl, h⟩
local macro_rules | `(tactic| walk_at "go") => `(tactic| repeat (first | (with_reducible first | refine iteT ?_ | refine iteF ?_ | refine iteNtt ?_ | refine iteNff ?_ | refine iteET (by omega) ?_ | refine iteEF (by omega) ?_ | refine iteENT (by omega) ?_ | refine iteENF (by omega) ?_ | refine iteDT (by omega) ?_ | refine iteDF (by omega) ?_ | refine iteNT (by omega) ?_ | refine iteNF (by omega) ?_) | refine ⟨_, rfl, ?_⟩ | refine ⟨_, _, rfl, rfl, ?_⟩ | refine ⟨_, _, rfl, ?_⟩ | refine ⟨rfl, ?_⟩ | refine .inl ⟨_, rfl, ?_⟩ | refine .inr ⟨_, rfl, ?_⟩))
local macro_rules | `(tactic| walk_at "b") => `(tactic| try dsimp (config := { proj := false, iota := false, eta := false, zeta := false }) only)
section
variable {P : Program} {w : World} {K : PySem.W.Frag} {mg : Str → Option Value} {base : Heap} [pf : Sup.PF P fileS]
theorem G_times_sum (T : Top K mg) : FnOk P w K mg base CX0 1 T.f_times_sum T.fd_times_sum ["one", "other"] sp_no := ⟨fun _ _ _ _ h => h.elim, fun _ _ _ _ _ _ _ _ _ _ _ _ _ h => h.elim⟩
theorem G_quotient (T : Top K mg) : FnOk P w K mg base CX0 3 T.f_quotient T.fd_quotient ["guesser", "number"] sp_no := ⟨fun _ _ _ _ h => h.elim, fun _ _ _ _ _ _ _ _ _ _ _ _ _ h => h.elim⟩
theorem G_fraction (T : Top K mg) : FnOk P w K mg base CX0 2 T.f_fraction T.fd_fraction ["top", "under"] sp_no := ⟨fun _ _ _ _ h => h.elim, fun _ _ _ _ _ _ _ _ _ _ _ _ _ h => h.elim⟩
theorem G_common_divisor (T : Top K mg) : FnOk P w K mg base CX0 1 T.f_common_divisor T.fd_common_divisor ["one", "other"] sp_no := ⟨fun _ _ _ _ h => h.elim, fun _ _ _ _ _ _ _ _ _ _ _ _ _ h => h.elim⟩
theorem G_simplest (T : Top K mg) : FnOk P w K mg base CX0 3 T.f_simplest T.fd_simplest ["low", "high"] sp_no := ⟨fun _ _ _ _ h => h.elim, fun _ _ _ _ _ _ _ _ _ _ _ _ _ h => h.elim⟩
theorem G_parting_sample (T : Top K mg) : FnOk P w K mg base CX0 4 T.f_parting_sample T.fd_parting_sample ["one", "other"] sp_no := ⟨fun _ _ _ _ h => h.elim, fun _ _ _ _ _ _ _ _ _ _ _ _ _ h => h.elim⟩
theorem G_ends (T : Top K mg) : FnOk P w K mg base CX0 1 T.f_ends T.fd_ends ["guesser", "depth", "sign"] sp_no := ⟨fun _ _ _ _ h => h.elim, fun _ _ _ _ _ _ _ _ _ _ _ _ _ h => h.elim⟩
def sp_Guesser___init__ (C : Addr) (K : PySem.W.Frag) (cs : Nat → Addr) : Sp := fun vs H Q E => ∃ (x dx : Addr) (v u : V), vs = [.ref x, v, u] ∧ H x = some (.ins C dx []) ∧
  ((∃ (a : Addr) (ws : List Int) (sh : Nat), v = .ref a ∧ u = .int sh ∧ H a = some (.lst (ws.map V.int)) ∧ Weights ws ∧ sh ≤ 15 ∧
    ∀ H', (∀ b o, b ≠ x → H b = some o → H' b = some o) → GuesserAt C H' x ws sh → (∃ dx p, H' x = some (.ins C dx [("parts", .ref p), ("down", .int sh)]) ∧ H p = none) → Q .non H') ∨
   ((NoL K H v ∨ ∃ (a : Addr) (xs : List V), v = .ref a ∧ H a = some (.lst xs) ∧ 8 < xs.length ∧ xs.length ≤ 1000) ∧ EE H E (cs 0) v) ∨
   (∃ (a : Addr) (ks : List Int) (y : V) (r : List V), v = .ref a ∧ H a = some (.lst (ks.map V.int ++ y :: r)) ∧ ks.length + r.length < 8 ∧ (∀ n ∈ ks, -32768 ≤ n ∧ n ≤ 32768) ∧ NumV K H y (-32768) (some 32768) false ∧ EE H E (cs 1) y) ∨
   (∃ (a : Addr) (ws : List Int), v = .ref a ∧ H a = some (.lst (ws.map V.int)) ∧ Weights ws ∧ NumV K H u 0 (some 15) false ∧ EE H E (cs 2) u))
theorem G_Guesser___init__ (T : Top K mg) : FnOk P w K mg base (L2.CX P w) 3 T.f_Guesser___init__ T.fd_Guesser___init__ ["self", "weights", "shift"] (sp_Guesser___init__ T.C_Guesser K (csT T)) := by
  refine T.F_Guesser___init__.ok (CX := L2.CX P w) sc_Guesser___init__ (fun vs H Q E h => by obtain ⟨x, dx, v, u, rfl, _⟩ := h; rfl) (fun cdv A outer s H vs Q E hr h => ?_)
  obtain ⟨x, dx, v, u, rfl, hx, h⟩ := h
  refine ⟨_, (pss_cons (ps_if (PW.pt (pw_or (pt_not (pt_val (pe_callB (k_isi K rfl) (by rfl) T.n_isinstance (by decide +kernel) (pa_cons (pv 1) (pa_cons (pe_bltn (v := .ty "list") (by rfl) T.n_list (by decide +kernel) rfl) pa_nil))))) (pw_or1 (pt_cmpR op_gt (pe_callB (k_len K rfl) (by rfl) T.n_len (by decide +kernel) (pa_cons (pv 1) pa_nil)) (pe_glob (v := .int 8) rfl T.m_MOST_ORDER ⟨_, rfl⟩) (nomark _)))))
    (pss_one (ps_raise rfl (takes_of rfl rfl rfl rfl) (pmk_oex T.er_InvalidList.sup.T T.er_InvalidList.ini T.er_InvalidList.ity (G_InvalidList___init__ (P := P) (CX := CX0) T) (hr.mono (by decide)) T.er_InvalidList.bnd .nil pass0 (by rfl) T.gc_InvalidList (pa_cons (pv 1) pa_nil))))
    pss_nil)
  (pss_cons (ps_for (passes_of rfl) rfl (k_piL K rfl (pv 1)) (pg_name (i := 3) sc_Guesser___init__.nd rfl (by first | exact Or.inl rfl | exact Or.inr rfl))
    (pss_one (ps_if (pt_not (pt_val (pe_call (G_is_between (P := P) T) (hr.mono (by decide)) (by rfl) T.g_is_between T.F_is_between.kp T.b_is_between .nil pass0 (pa_cons (pv 3) (pa_cons (pe_un un_neg (pe_glob (v := .int 32768) rfl T.m_MOST_WEIGHT ⟨_, rfl⟩)) (pa_cons (pe_glob (v := .int 32768) rfl T.m_MOST_WEIGHT ⟨_, rfl⟩) pa_nil))))))
    (pss_one (ps_raise rfl (takes_of rfl rfl rfl rfl) (pmk_oex T.er_InvalidItem.sup.T T.er_InvalidItem.ini T.er_InvalidItem.ity (G_InvalidItem___init__ (P := P) (CX := CX0) T) (hr.mono (by decide)) T.er_InvalidItem.bnd .nil pass0 (by rfl) T.gc_InvalidItem (pa_cons (pv 3) pa_nil))))
    pss_nil)))
  (pss_cons (ps_if (pt_not (pt_val (pe_call (G_is_between (P := P) T) (hr.mono (by decide)) (by rfl) T.g_is_between T.F_is_between.kp T.b_is_between .nil pass0 (pa_cons (pv 2) (pa_cons pe_int (pa_cons (pe_glob (v := .int 15) rfl T.m_MOST_SHIFT ⟨_, rfl⟩) pa_nil))))))
    (pss_one (ps_raise rfl (takes_of rfl rfl rfl rfl) (pmk_oex T.er_InvalidNumber.sup.T T.er_InvalidNumber.ini T.er_InvalidNumber.ity (G_InvalidNumber___init__ (P := P) (CX := CX0) T) (hr.mono (by decide)) T.er_InvalidNumber.bnd .nil pass0 (by rfl) T.gc_InvalidNumber (pa_cons (pv 2) pa_nil))))
    pss_nil)
  (pss_cons (ps_fld (pv 0) (pe_callTy (k_listOf K rfl) (by rfl) T.n_list (by decide +kernel) (pa_cons (pv 1) pa_nil)) rfl)
  (pss_one (ps_fld (pv 0) (pv 2) rfl)))))), ?_⟩
  rcases h with ⟨a, ws, sh, rfl, rfl, hA, hW, hsh, q⟩ | ⟨⟨Ty, ty, hTy⟩ | ⟨a, xs, rfl, hA, h8, hz⟩, q⟩ | ⟨a, ks, y, r, rfl, hA, hl, hks, hy, q⟩ | ⟨a, ws, rfl, hA, hW, hu, q⟩
  · have hS : SqL K H a (ws.map V.int) := .inl (.inl hA)
    refine ⟨_, rfl, _, _, _, _, true, rfl, .ty _, .base (.lst hA), kit_ty (by decide +kernel), true, rfl, iteF ?_⟩
    refine ⟨_, rfl, a, _, rfl, .inl hS, _, _, rfl, rfl, _, rfl, ?_⟩
    rw [List.length_map, decide_eq_false (show ¬ (ws.length : Int) > 8 by have := hW.1; omega)]
    refine iteF ?_
    refine ⟨_, rfl, a, rfl, ⟨_, hS⟩, for_list (K := K) (a := a) (xs := ws.map V.int) (fun i σ H1 => ∃ v, σ = [some (.ref x), some (.ref a), some (.int sh), v] ∧ H1 = H) ⟨none, rfl, rfl⟩ (fun i σ H1 _ ⟨_, _, e⟩ => by rw [e]; exact hS) ?_ ?_⟩
    · rintro i v σ H1 hv ⟨v3, rfl, rfl⟩
      obtain ⟨n, hn, rfl⟩ := int_at hv
      have hb := hW.2 n (List.mem_of_getElem? hn)
      exact ⟨_, rfl, _, rfl, .int n, -32768, some 32768, true, rfl, .inl ⟨n, rfl, (decide_eq_true ⟨hb.1, fun j h => by cases h; exact hb.2⟩).symm⟩, _, rfl, iteF ⟨_, rfl, rfl⟩⟩
    · rintro σ H1 ⟨v3, rfl, rfl⟩
      refine ⟨_, rfl, .int (sh : Int), 0, some 15, true, rfl, .inl ⟨_, rfl, (decide_eq_true ⟨by omega, fun j h => by cases h; omega⟩).symm⟩, _, rfl, iteF ?_⟩
      refine ⟨_, rfl, a, _, rfl, .inl hS, fun p np => ?_⟩
      have npx : p ≠ x := (ne_of_none hx np).symm
      have hx1 : (upd H1 p (.lst (ws.map V.int))) x = some (.ins T.C_Guesser dx []) := same_upd np _ _ hx
      refine ⟨_, rfl, x, T.C_Guesser, dx, [], rfl, hx1, T.cl_Guesser, T.na_Guesser_parts, by decide, ?_⟩
      refine ⟨_, rfl, _, rfl, x, T.C_Guesser, dx, _, rfl, upd_same, T.cl_Guesser, T.na_Guesser_down, (by show 1 < 1000; decide), ?_⟩
      refine q _ (fun b o nb hb => ?_) ⟨hW, hsh, dx, p, ?_, ?_⟩ ⟨dx, p, ?_, np⟩
      · rw [upd_ne nb, upd_ne nb]
        exact same_upd np _ _ hb
      · rw [upd_same]
        rfl
      · rw [upd_ne npx, upd_ne npx, upd_same]
      · rw [upd_same]
        rfl
  · exact ⟨_, rfl, _, _, _, _, false, rfl, .ty _, ty, kit_ty hTy, false, rfl, iteT ⟨_, rfl, mk_sup fun e nd => q _ e (Same.refl _) nd⟩⟩
  · refine ⟨_, rfl, _, _, _, _, true, rfl, .ty _, .base (.lst hA), kit_ty (by decide +kernel), true, rfl, iteF ?_⟩
    exact ⟨_, rfl, a, _, rfl, .inl (.inl (.inl hA)), _, _, rfl, rfl, _, rfl, iteDT (by omega) ⟨_, rfl, mk_sup fun e nd => q _ e (Same.refl _) nd⟩⟩
  · have hS : SqL K H a (ks.map V.int ++ y :: r) := .inl (.inl hA)
    refine ⟨_, rfl, _, _, _, _, true, rfl, .ty _, .base (.lst hA), kit_ty (by decide +kernel), true, rfl, iteF ?_⟩
    refine ⟨_, rfl, a, _, rfl, .inl hS, _, _, rfl, rfl, _, rfl, iteDF (by rw [List.length_append, List.length_map, List.length_cons]; omega) ?_⟩
    refine ⟨_, rfl, a, rfl, ⟨_, hS⟩, for_list (K := K) (a := a) (xs := ks.map V.int ++ y :: r) (fun i σ H1 => i ≤ ks.length ∧ ∃ v, σ = [some (.ref x), some (.ref a), some u, v] ∧ H1 = H) ⟨Nat.zero_le _, none, rfl, rfl⟩ (fun i σ H1 _ ⟨_, _, _, e⟩ => by rw [e]; exact hS) ?_ ?_⟩
    · rintro i v σ H1 hv ⟨hi, v3, rfl, rfl⟩
      by_cases c : i < ks.length
      · rw [List.getElem?_append_left (by rw [List.length_map]; exact c)] at hv
        obtain ⟨n, hn, rfl⟩ := int_at hv
        have hb := hks n (List.mem_of_getElem? hn)
        exact ⟨_, rfl, _, rfl, .int n, -32768, some 32768, true, rfl, .inl ⟨n, rfl, (decide_eq_true ⟨hb.1, fun j h => by cases h; exact hb.2⟩).symm⟩, _, rfl, iteF ⟨by omega, _, rfl, rfl⟩⟩
      · obtain rfl : i = ks.length := by omega
        rw [List.getElem?_append_right (by rw [List.length_map]; exact Nat.le_refl _), List.length_map, Nat.sub_self] at hv
        cases hv
        exact ⟨_, rfl, _, rfl, y, -32768, some 32768, false, rfl, hy, _, rfl, iteT ⟨_, rfl, mk_sup fun e nd => q _ e (Same.refl _) nd⟩⟩
    · rintro σ H1 ⟨hi, _⟩
      rw [List.length_append, List.length_map, List.length_cons] at hi
      omega
  · have hS : SqL K H a (ws.map V.int) := .inl (.inl hA)
    refine ⟨_, rfl, _, _, _, _, true, rfl, .ty _, .base (.lst hA), kit_ty (by decide +kernel), true, rfl, iteF ?_⟩
    refine ⟨_, rfl, a, _, rfl, .inl hS, _, _, rfl, rfl, _, rfl, ?_⟩
    rw [List.length_map, decide_eq_false (show ¬ (ws.length : Int) > 8 by have := hW.1; omega)]
    refine iteF ?_
    refine ⟨_, rfl, a, rfl, ⟨_, hS⟩, for_list (K := K) (a := a) (xs := ws.map V.int) (fun i σ H1 => ∃ v, σ = [some (.ref x), some (.ref a), some u, v] ∧ H1 = H) ⟨none, rfl, rfl⟩ (fun i σ H1 _ ⟨_, _, e⟩ => by rw [e]; exact hS) ?_ ?_⟩
    · rintro i v σ H1 hv ⟨v3, rfl, rfl⟩
      obtain ⟨n, hn, rfl⟩ := int_at hv
      have hb := hW.2 n (List.mem_of_getElem? hn)
      exact ⟨_, rfl, _, rfl, .int n, -32768, some 32768, true, rfl, .inl ⟨n, rfl, (decide_eq_true ⟨hb.1, fun j h => by cases h; exact hb.2⟩).symm⟩, _, rfl, iteF ⟨_, rfl, rfl⟩⟩
    · rintro σ H1 ⟨v3, rfl, rfl⟩
      exact ⟨_, rfl, u, 0, some 15, false, rfl, hu, _, rfl, iteT ⟨_, rfl, mk_sup fun e nd => q _ e (Same.refl _) nd⟩⟩
def sp_check_row (K : PySem.W.Frag) (C : Addr) : Sp := fun vs H Q E => ∃ (d : Nat) (v : V), vs = [.int d, v] ∧ 1 ≤ d ∧ d ≤ 24 ∧
  ((∃ (a : Addr) (fs : List Int), v = .ref a ∧ H a = some (.lst (fs.map V.int)) ∧ Smp d fs ∧ fs.length ≤ 1000 ∧ ∀ H', Same H H' → Q .non H') ∨ (BadS K H d v ∧ EE H E C v))
theorem G_check_row (T : Top K mg) : FnOk P w K mg base (L2.CX P w) 5 T.f_check_row T.fd_check_row ["depth", "value"] (sp_check_row K T.C_InvalidRow) := by
  refine T.F_check_row.ok (CX := L2.CX P w) sc_check_row (fun vs H Q E h => by obtain ⟨d, v, rfl, _⟩ := h; rfl) (fun cdv A outer s H vs Q E hr h => ?_)
  obtain ⟨d, v, rfl, d1, d2, h⟩ := h
  refine ⟨_, (pss_one (ps_if (pt_not (pt_val (pe_call (G_are_samples (P := P) T) (hr.mono (by decide)) (by rfl) T.g_are_samples T.F_are_samples.kp T.b_are_samples .nil pass0 (pa_cons (pv 1) (pa_cons (pv 0) pa_nil)))))
    (pss_one (ps_raise rfl (takes_of rfl rfl rfl rfl) (pmk_oex T.er_InvalidRow.sup.T T.er_InvalidRow.ini T.er_InvalidRow.ity (G_InvalidRow___init__ (P := P) (CX := CX0) T) (hr.mono (by decide)) T.er_InvalidRow.bnd .nil pass0 (by rfl) T.gc_InvalidRow (pa_cons (pv 1) pa_nil))))
    pss_nil)), ?_⟩
  rcases h with ⟨a, fs, rfl, ha, hs, hz, q⟩ | ⟨hv | ⟨a, xs, rfl, ha, hz, hi, hbad⟩, q⟩
  · refine ⟨_, rfl, _, rfl, _, d, rfl, d1, d2, .inr ⟨a, _, rfl, ha, by rw [List.length_map]; exact hz, simple_ints fs, fun H1 s1 => ?_⟩⟩
    rw [all_smp hs]
    exact ⟨_, rfl, iteF (q _ s1)⟩
  · exact ⟨_, rfl, _, rfl, v, d, rfl, d1, d2, .inl ⟨hv, ⟨_, rfl, iteT ⟨_, rfl, mk_sup fun e nd => q _ e (Same.refl _) nd⟩⟩⟩⟩
  · refine ⟨_, rfl, _, rfl, _, d, rfl, d1, d2, .inr ⟨a, xs, rfl, ha, hz, hi, fun H1 s1 => ?_⟩⟩
    rw [hbad]
    exact ⟨_, rfl, iteT ⟨_, rfl, mk_sup fun e nd => q _ e s1 nd⟩⟩
def sp_guess (C : Addr) (K : PySem.W.Frag) (cs : Nat → Addr) : Sp := fun vs H Q E => ∃ g b : V, vs = [g, b] ∧ ((NoG K H g ∧ EE H E (cs 3) g) ∨ ∃ (a : Addr) (ws : List Int) (sh : Nat), g = .ref a ∧ GuesserAt C H a ws sh ∧ BadB K H ws.length b ∧ EE H E (cs 5) b)
theorem G_guess (T : Top K mg) : FnOk P w K mg base (L2.CX P w) 4 T.f_guess T.fd_guess ["guesser", "before"] (sp_guess T.C_Guesser K (csT T)) := by
  refine T.F_guess.ok (CX := L2.CX P w) sc_guess (fun vs H Q E h => by obtain ⟨g, b, rfl, _⟩ := h; rfl) (fun cdv A outer s H vs Q E hr h => ?_)
  obtain ⟨g, b, rfl, h⟩ := h
  refine ⟨_, (pss_cons (ps_expr (pe_call (G_check_guesser (P := P) T) (hr.mono (by decide)) (by rfl) T.g_check_guesser T.F_check_guesser.kp T.b_check_guesser .nil (passes_call (takes_of rfl rfl rfl rfl) (fun _ _ _ _ h => h)) (pa_cons (pv 0) pa_nil)))
  (pss_cons (ps_if (PW.pt (pw_or (pt_not (pt_val (pe_call (G_are_wholes (P := P) T) (hr.mono (by decide)) (by rfl) T.g_are_wholes T.F_are_wholes.kp T.b_are_wholes .nil pass0 (pa_cons (pv 1) pa_nil)))) (pw_or1 (pt_cmpR op_lt (pe_callB (k_len K rfl) (by rfl) T.n_len (by decide +kernel) (pa_cons (pv 1) pa_nil)) (pe_callB (k_len K rfl) (by rfl) T.n_len (by decide +kernel) (pa_cons (pe_fld (pv 0) rfl) pa_nil)) (nomark _)))))
    (pss_one (ps_raise rfl (takes_of rfl rfl rfl rfl) (pmk_oex T.er_InvalidRow.sup.T T.er_InvalidRow.ini T.er_InvalidRow.ity (G_InvalidRow___init__ (P := P) (CX := CX0) T) (hr.mono (by decide)) T.er_InvalidRow.bnd .nil pass0 (by rfl) T.gc_InvalidRow (pa_cons (pv 1) pa_nil))))
    pss_nil)
  (pss_one (ps_ret (pe_call (G_guess_behind (P := P) T) (hr.mono (by decide)) (by rfl) T.g_guess_behind T.F_guess_behind.kp T.b_guess_behind .nil pass0 (pa_cons (pv 0) (pa_cons (pv 1) pa_nil))))))), ?_⟩
  rcases h with h | ⟨a, ws, sh, rfl, hG, hB, q⟩
  · exact ⟨_, rfl, _, rfl, .inr h⟩
  · refine ⟨_, rfl, _, rfl, .inl ⟨hG.isG, ?_⟩⟩
    rcases hB with hv | ⟨c, xs, rfl, hc, hz, hi, hb | ⟨ns, rfl, hn⟩⟩
    · exact ⟨_, rfl, b, rfl, .inl ⟨hv, ⟨_, rfl, iteT (iteT ⟨_, rfl, mk_sup fun e nd => q _ e (Same.refl _) nd⟩)⟩⟩⟩
    · refine ⟨_, rfl, _, rfl, .inr ⟨c, xs, rfl, hc, hz, hi, fun H1 s1 => ?_⟩⟩
      rw [hb]
      exact ⟨_, rfl, iteT (iteT ⟨_, rfl, mk_sup fun e nd => q _ e s1 nd⟩)⟩
    · refine ⟨_, rfl, _, rfl, .inr ⟨c, _, rfl, hc, hz, hi, fun H1 s1 => ?_⟩⟩
      rw [all_ints]
      obtain ⟨hW, _, dx, p, ha, hp⟩ := hG.same s1
      refine ⟨_, rfl, iteF ⟨_, rfl, c, _, rfl, .inl (.inl (.inl (s1 _ _ hc))), _, rfl, a, T.C_Guesser, dx, _, _, rfl, ha, T.cl_Guesser, T.na_Guesser_parts, rfl, p, _, rfl, .inl (.inl (.inl hp)), _, _, rfl, rfl, _, rfl, iteDT (by rw [List.length_map, List.length_map]; omega) ⟨_, rfl, mk_sup fun e nd => q _ e s1 nd⟩⟩⟩
/-- of rests: a guesser, a depth, a row -/
def BadGDR (K : PySem.W.Frag) (C : Addr) (H : Hp) (g d r : V) (kind : Nat) (x : V) : Prop := (NoG K H g ∧ kind = 3 ∧ x = g) ∨ (IsG C H g ∧ ((NumV K H d 1 (some 32) false ∧ kind = 4 ∧ x = d) ∨ ∃ dd : Nat, d = .int dd ∧ 1 ≤ dd ∧ dd ≤ 24 ∧ BadS K H dd r ∧ kind = 5 ∧ x = r))
theorem BadGDR.same {K : PySem.W.Frag} {C : Addr} {H H' : Hp} {g d r : V} {kind : Nat} {x : V} (s : Same H H') (h : BadGDR K C H g d r kind x) : BadGDR K C H' g d r kind x := by
  rcases h with ⟨h, e⟩ | ⟨h, ⟨k, e⟩ | ⟨dd, a, b, c, k, e⟩⟩
  · exact .inl ⟨h.same s, e⟩
  · exact .inr ⟨h.same s, .inl ⟨k.same s, e⟩⟩
  · exact .inr ⟨h.same s, .inr ⟨dd, a, b, c, k.same s, e⟩⟩
def sp_bad3 (K : PySem.W.Frag) (C : Addr) (cs : Nat → Addr) : Sp := fun vs H Q E => ∃ g d r : V, vs = [g, d, r] ∧ ∃ kind x, BadGDR K C H g d r kind x ∧ EE H E (cs kind) x
theorem G_rests (T : Top K mg) : FnOk P w K mg base (L2.CX P w) 6 T.f_rests T.fd_rests ["guesser", "depth", "row"] (sp_bad3 K T.C_Guesser (csT T)) := by
  refine T.F_rests.ok (CX := L2.CX P w) sc_rests (fun vs H Q E h => by obtain ⟨g, d, r, rfl, _⟩ := h; rfl) (fun cdv A outer s H vs Q E hr h => ?_)
  obtain ⟨g, d, r, rfl, kind, x, h, q⟩ := h
  refine ⟨_, (pss_cons (ps_expr (pe_call (G_check_guesser (P := P) T) (hr.mono (by decide)) (by rfl) T.g_check_guesser T.F_check_guesser.kp T.b_check_guesser .nil (passes_call (takes_of rfl rfl rfl rfl) (fun _ _ _ _ h => h)) (pa_cons (pv 0) pa_nil)))
  (pss_cons (ps_expr (pe_call (G_check_depth (P := P) T) (hr.mono (by decide)) (by rfl) T.g_check_depth T.F_check_depth.kp T.b_check_depth .nil (passes_call (takes_of rfl rfl rfl rfl) (fun _ _ _ _ h => h)) (pa_cons (pv 1) (pa_cons (pe_glob (v := .int 32) rfl T.m_MOST_DEPTH_guessers ⟨_, rfl⟩) pa_nil))))
  (pss_cons (ps_expr (pe_call (G_check_row (P := P) T) (hr.mono (by decide)) (by rfl) T.g_check_row T.F_check_row.kp T.b_check_row .nil (passes_call (takes_of rfl rfl rfl rfl) (fun _ _ _ _ h => h)) (pa_cons (pv 1) (pa_cons (pv 2) pa_nil))))
  (pss_one (ps_ret (pe_lc (own := [("item", 3)]) (g := gName 3) (tt := tYes) (by rfl) sc_rests.nd (k_piL K rfl (pe_call (G_told_rests (P := P) T) (hr.mono (by decide)) (by rfl) T.g_told_rests T.F_told_rests.kp T.b_told_rests .nil pass0 (pa_cons (pv 0) (pa_cons (pv 2) pa_nil)))) (blkOk_by (own := [("item", 3)]) (N := N_rests) (sc := defScope s_rests) (by decide +kernel)) (fun _ _ _ _ _ => (pg_name (i := 3) sc_rests.nd rfl (by first | exact Or.inl rfl | exact Or.inr rfl))) (fun _ _ _ _ _ => pts_nil) (fun _ _ _ _ _ => (pe_call (G_wrapped (P := P) T) (hr.mono (by decide)) (by rfl) T.g_wrapped T.F_wrapped.kp T.b_wrapped .nil pass0 (pa_cons (pv 3) (pa_cons (pv 1) pa_nil)))))))))), ?_⟩
  rcases h with ⟨h, rfl, rfl⟩ | ⟨hG, ⟨h, rfl, rfl⟩ | ⟨dd, rfl, d1, d2, h, rfl, rfl⟩⟩
  · exact ⟨_, rfl, _, rfl, .inr ⟨h, q⟩⟩
  · refine ⟨_, rfl, _, rfl, .inl ⟨hG, ?_⟩⟩
    exact ⟨_, rfl, _, 32, false, rfl, h, (fun z => nomatch z), fun _ e nd => q H e (Same.refl _) nd⟩
  · refine ⟨_, rfl, _, rfl, .inl ⟨hG, ?_⟩⟩
    refine ⟨_, rfl, _, 32, true, rfl, dok32 d1 (by omega), fun _ => ?_, fun z => nomatch z⟩
    exact ⟨_, rfl, _, rfl, dd, _, rfl, d1, d2, .inr ⟨h, q⟩⟩
theorem G_row_of (T : Top K mg) : FnOk P w K mg base (L2.CX P w) 6 T.f_row_of T.fd_row_of ["guesser", "depth", "rests"] (sp_bad3 K T.C_Guesser (csT T)) := by
  refine T.F_row_of.ok (CX := L2.CX P w) sc_row_of (fun vs H Q E h => by obtain ⟨g, d, r, rfl, _⟩ := h; rfl) (fun cdv A outer s H vs Q E hr h => ?_)
  obtain ⟨g, d, r, rfl, kind, x, h, q⟩ := h
  refine ⟨_, (pss_cons (ps_expr (pe_call (G_check_guesser (P := P) T) (hr.mono (by decide)) (by rfl) T.g_check_guesser T.F_check_guesser.kp T.b_check_guesser .nil (passes_call (takes_of rfl rfl rfl rfl) (fun _ _ _ _ h => h)) (pa_cons (pv 0) pa_nil)))
  (pss_cons (ps_expr (pe_call (G_check_depth (P := P) T) (hr.mono (by decide)) (by rfl) T.g_check_depth T.F_check_depth.kp T.b_check_depth .nil (passes_call (takes_of rfl rfl rfl rfl) (fun _ _ _ _ h => h)) (pa_cons (pv 1) (pa_cons (pe_glob (v := .int 32) rfl T.m_MOST_DEPTH_guessers ⟨_, rfl⟩) pa_nil))))
  (pss_cons (ps_expr (pe_call (G_check_row (P := P) T) (hr.mono (by decide)) (by rfl) T.g_check_row T.F_check_row.kp T.b_check_row .nil (passes_call (takes_of rfl rfl rfl rfl) (fun _ _ _ _ h => h)) (pa_cons (pv 1) (pa_cons (pv 2) pa_nil))))
  (pss_cons (ps_set (i := 3) sc_row_of.nd rfl (by first | exact Or.inl rfl | exact Or.inr rfl) (pe_callB (k_len K rfl) (by rfl) T.n_len (by decide +kernel) (pa_cons (pe_fld (pv 0) rfl) pa_nil)))
  (pss_cons (ps_set (i := 4) sc_row_of.nd rfl (by first | exact Or.inl rfl | exact Or.inr rfl) (pe_callTy (k_listOf K rfl) (by rfl) T.n_list (by decide +kernel) (pa_cons (pe_slice (k_slL K rfl) (pv 2) po_none (po_some (pv 3))) pa_nil)))
  (pss_cons (ps_for (passes_of rfl) rfl (k_piL K rfl (pe_slice (k_slL K rfl) (pv 2) (po_some (pv 3)) po_none)) (pg_name (i := 5) sc_row_of.nd rfl (by first | exact Or.inl rfl | exact Or.inr rfl))
    (pss_one (ps_expr (pe_bm PySem.F.plainAttrs_list PySem.F.slot_list_append PySem.F.type_list_append mt_append (pv 4) (pa_cons (pe_call (G_wrapped (P := P) T) (hr.mono (by decide)) (by rfl) T.g_wrapped T.F_wrapped.kp T.b_wrapped .nil pass0 (pa_cons (pe_op op_add (pv 5) (pe_call (G_guess_behind (P := P) T) (hr.mono (by decide)) (by rfl) T.g_guess_behind T.F_guess_behind.kp T.b_guess_behind .nil pass0 (pa_cons (pv 0) (pa_cons (pe_slice (k_slL K rfl) (pv 4) (po_some (pe_op op_sub (pe_callB (k_len K rfl) (by rfl) T.n_len (by decide +kernel) (pa_cons (pv 4) pa_nil)) (pv 3))) po_none) pa_nil)))) (pa_cons (pv 1) pa_nil))) pa_nil)))))
  (pss_one (ps_ret (pv 4))))))))), ?_⟩
  rcases h with ⟨h, rfl, rfl⟩ | ⟨hG, ⟨h, rfl, rfl⟩ | ⟨dd, rfl, d1, d2, h, rfl, rfl⟩⟩
  · exact ⟨_, rfl, _, rfl, .inr ⟨h, q⟩⟩
  · refine ⟨_, rfl, _, rfl, .inl ⟨hG, ?_⟩⟩
    exact ⟨_, rfl, _, 32, false, rfl, h, (fun z => nomatch z), fun _ e nd => q H e (Same.refl _) nd⟩
  · refine ⟨_, rfl, _, rfl, .inl ⟨hG, ?_⟩⟩
    refine ⟨_, rfl, _, 32, true, rfl, dok32 d1 (by omega), fun _ => ?_, fun z => nomatch z⟩
    exact ⟨_, rfl, _, rfl, dd, _, rfl, d1, d2, .inr ⟨h, q⟩⟩
def sp_plain_rests (C : Addr) (K : PySem.W.Frag) (cs : Nat → Addr) : Sp := fun vs H Q E => ∃ g r : V, vs = [g, r] ∧ ((NoG K H g ∧ EE H E (cs 3) g) ∨ (IsG C H g ∧ BadB K H 0 r ∧ EE H E (cs 5) r) ∨
  ∃ (a b : Addr) (ws : List Int) (sh : Nat) (row : List Int), g = .ref a ∧ r = .ref b ∧ GuesserAt C H a ws sh ∧ H b = some (.lst (row.map V.int)) ∧ row.length ≤ 1000 ∧ ∀ H' p, Same H H' → H p = none → H' p = some (.lst ((toldR ws sh row).map V.int)) → Q (.ref p) H')
theorem G_plain_rests (T : Top K mg) : FnOk P w K mg base (L2.CX P w) 4 T.f_plain_rests T.fd_plain_rests ["guesser", "row"] (sp_plain_rests T.C_Guesser K (csT T)) := by
  refine T.F_plain_rests.ok (CX := L2.CX P w) sc_plain_rests (fun vs H Q E h => by obtain ⟨g, r, rfl, _⟩ := h; rfl) (fun cdv A outer s H vs Q E hr h => ?_)
  obtain ⟨g, r, rfl, h⟩ := h
  refine ⟨_, (pss_cons (ps_expr (pe_call (G_check_guesser (P := P) T) (hr.mono (by decide)) (by rfl) T.g_check_guesser T.F_check_guesser.kp T.b_check_guesser .nil (passes_call (takes_of rfl rfl rfl rfl) (fun _ _ _ _ h => h)) (pa_cons (pv 0) pa_nil)))
  (pss_cons (ps_if (pt_not (pt_val (pe_call (G_are_wholes (P := P) T) (hr.mono (by decide)) (by rfl) T.g_are_wholes T.F_are_wholes.kp T.b_are_wholes .nil pass0 (pa_cons (pv 1) pa_nil))))
    (pss_one (ps_raise rfl (takes_of rfl rfl rfl rfl) (pmk_oex T.er_InvalidRow.sup.T T.er_InvalidRow.ini T.er_InvalidRow.ity (G_InvalidRow___init__ (P := P) (CX := CX0) T) (hr.mono (by decide)) T.er_InvalidRow.bnd .nil pass0 (by rfl) T.gc_InvalidRow (pa_cons (pv 1) pa_nil))))
    pss_nil)
  (pss_one (ps_ret (pe_call (G_told_rests (P := P) T) (hr.mono (by decide)) (by rfl) T.g_told_rests T.F_told_rests.kp T.b_told_rests .nil pass0 (pa_cons (pv 0) (pa_cons (pv 1) pa_nil))))))), ?_⟩
  rcases h with h | ⟨hG, hB, q⟩ | ⟨a, b, ws, sh, row, rfl, rfl, hG, hb, hl, q⟩
  · exact ⟨_, rfl, _, rfl, .inr h⟩
  · refine ⟨_, rfl, _, rfl, .inl ⟨hG, ?_⟩⟩
    rcases hB with hv | ⟨c, xs, rfl, hc, hz, hi, hb | ⟨ns, rfl, hn⟩⟩
    · exact ⟨_, rfl, r, rfl, .inl ⟨hv, ⟨_, rfl, iteT ⟨_, rfl, mk_sup fun e nd => q _ e (Same.refl _) nd⟩⟩⟩⟩
    · refine ⟨_, rfl, _, rfl, .inr ⟨c, xs, rfl, hc, hz, hi, fun H1 s1 => ?_⟩⟩
      rw [hb]
      exact ⟨_, rfl, iteT ⟨_, rfl, mk_sup fun e nd => q _ e s1 nd⟩⟩
    · exact absurd hn (Nat.not_lt_zero _)
  · refine ⟨_, rfl, _, rfl, .inl ⟨hG.isG, ?_⟩⟩
    refine ⟨_, rfl, _, rfl, .inr ⟨b, _, rfl, hb, by rw [List.length_map]; exact hl, simple_ints row, fun H1 s1 => ?_⟩⟩
    rw [all_ints]
    refine ⟨_, rfl, iteF ?_⟩
    exact ⟨_, rfl, _, rfl, a, b, ws, sh, row, rfl, hG.same s1, .inl (.inl (s1 _ _ hb)), hl, fun H2 p s2 np hp => q _ p (s1.trans s2) (s1.free np) hp⟩
def sp_bad2 (K : PySem.W.Frag) (C : Addr) (cs : Nat → Addr) : Sp := fun vs H Q E => ∃ g o : V, vs = [g, o] ∧ ((NoG K H g ∧ EE H E (cs 3) g) ∨ (IsG C H g ∧ NoG K H o ∧ EE H E (cs 3) o))
theorem G_same_guess (T : Top K mg) : FnOk P w K mg base (L2.CX P w) 4 T.f_same_guess T.fd_same_guess ["one", "other"] (sp_bad2 K T.C_Guesser (csT T)) := by
  refine T.F_same_guess.ok (CX := L2.CX P w) sc_same_guess (fun vs H Q E h => by obtain ⟨g, o, rfl, _⟩ := h; rfl) (fun cdv A outer s H vs Q E hr h => ?_)
  obtain ⟨g, o, rfl, h⟩ := h
  refine ⟨_, (pss_cons (ps_expr (pe_call (G_check_guesser (P := P) T) (hr.mono (by decide)) (by rfl) T.g_check_guesser T.F_check_guesser.kp T.b_check_guesser .nil (passes_call (takes_of rfl rfl rfl rfl) (fun _ _ _ _ h => h)) (pa_cons (pv 0) pa_nil)))
  (pss_cons (ps_expr (pe_call (G_check_guesser (P := P) T) (hr.mono (by decide)) (by rfl) T.g_check_guesser T.F_check_guesser.kp T.b_check_guesser .nil (passes_call (takes_of rfl rfl rfl rfl) (fun _ _ _ _ h => h)) (pa_cons (pv 1) pa_nil)))
  (pss_cons (ps_set (i := 2) sc_same_guess.nd rfl (by first | exact Or.inl rfl | exact Or.inr rfl) (pe_callB (call_max2 rfl) (by rfl) T.n_max (by decide +kernel) (pa_cons (pe_callB (k_len K rfl) (by rfl) T.n_len (by decide +kernel) (pa_cons (pe_fld (pv 0) rfl) pa_nil)) (pa_cons (pe_callB (k_len K rfl) (by rfl) T.n_len (by decide +kernel) (pa_cons (pe_fld (pv 1) rfl) pa_nil)) pa_nil))))
  (pss_one (ps_ret (pe_cmpR (k_eqD K rfl hr.units) (pe_lc (own := [("number", 3)]) (g := gName 3) (by rfl) sc_same_guess.nd (pi_range1 (by rfl) T.n_range (pa_cons (pv 2) pa_nil)) (blkOk_by (own := [("number", 3)]) (N := N_same_guess) (sc := defScope s_same_guess) (by decide +kernel)) (fun _ _ _ _ _ => (pg_name (i := 3) sc_same_guess.nd rfl (by first | exact Or.inl rfl | exact Or.inr rfl))) (fun _ _ _ _ _ => (pts_one (pt_cmpR (k_neD K rfl hr.units) (pe_call (G_quotient (P := P) T) (hr.mono (by decide)) (by rfl) T.g_quotient T.F_quotient.kp T.b_quotient .nil pass0 (pa_cons (pv 0) (pa_cons (pv 3) pa_nil))) (pe_call (G_quotient (P := P) T) (hr.mono (by decide)) (by rfl) T.g_quotient T.F_quotient.kp T.b_quotient .nil pass0 (pa_cons (pv 1) (pa_cons (pv 3) pa_nil))) (nomark _)))) (fun _ _ _ _ _ => (pv 3))) (pe_lst pa_nil) (nomark _))))))), ?_⟩
  rcases h with h | ⟨hG, h⟩
  · exact ⟨_, rfl, _, rfl, .inr h⟩
  · exact ⟨_, rfl, _, rfl, .inl ⟨hG, ⟨_, rfl, _, rfl, .inr h⟩⟩⟩
theorem G_parting_row (T : Top K mg) : FnOk P w K mg base (L2.CX P w) 5 T.f_parting_row T.fd_parting_row ["one", "other"] (sp_bad2 K T.C_Guesser (csT T)) := by
  refine T.F_parting_row.ok (CX := L2.CX P w) sc_parting_row (fun vs H Q E h => by obtain ⟨g, o, rfl, _⟩ := h; rfl) (fun cdv A outer s H vs Q E hr h => ?_)
  obtain ⟨g, o, rfl, h⟩ := h
  refine ⟨_, (pss_cons (ps_expr (pe_call (G_check_guesser (P := P) T) (hr.mono (by decide)) (by rfl) T.g_check_guesser T.F_check_guesser.kp T.b_check_guesser .nil (passes_call (takes_of rfl rfl rfl rfl) (fun _ _ _ _ h => h)) (pa_cons (pv 0) pa_nil)))
  (pss_cons (ps_expr (pe_call (G_check_guesser (P := P) T) (hr.mono (by decide)) (by rfl) T.g_check_guesser T.F_check_guesser.kp T.b_check_guesser .nil (passes_call (takes_of rfl rfl rfl rfl) (fun _ _ _ _ h => h)) (pa_cons (pv 1) pa_nil)))
  (pss_cons (ps_asg (pe_tup (pa_cons (pe_callB (call_max2 rfl) (by rfl) T.n_max (by decide +kernel) (pa_cons (pe_callB (k_len K rfl) (by rfl) T.n_len (by decide +kernel) (pa_cons (pe_fld (pv 0) rfl) pa_nil)) (pa_cons (pe_callB (k_len K rfl) (by rfl) T.n_len (by decide +kernel) (pa_cons (pe_fld (pv 1) rfl) pa_nil)) pa_nil))) (pa_cons pe_non pa_nil))) (k_pgT K rfl (by rfl) (pgs_cons (pg_name (i := 3) sc_parting_row.nd rfl (by first | exact Or.inl rfl | exact Or.inr rfl)) (pgs_cons (pg_name (i := 4) sc_parting_row.nd rfl (by first | exact Or.inl rfl | exact Or.inr rfl)) pgs_nil))))
  (pss_cons (ps_for (passes_of rfl) rfl (pi_range1 (by rfl) T.n_range (pa_cons (pv 3) pa_nil)) (pg_name (i := 2) sc_parting_row.nd rfl (by first | exact Or.inl rfl | exact Or.inr rfl))
    (pss_cons (ps_par (by rfl) sc_parting_row.nd (i := 5) (j := 6) rfl rfl (by decide) rfl rfl (pa_cons (pe_call (G_quotient (P := P) T) (hr.mono (by decide)) (by rfl) T.g_quotient T.F_quotient.kp T.b_quotient .nil pass0 (pa_cons (pv 0) (pa_cons (pv 2) pa_nil))) (pa_cons (pe_call (G_quotient (P := P) T) (hr.mono (by decide)) (by rfl) T.g_quotient T.F_quotient.kp T.b_quotient .nil pass0 (pa_cons (pv 1) (pa_cons (pv 2) pa_nil))) pa_nil)) (by rfl))
  (pss_one (ps_if (pt_cmpR (k_neD K rfl hr.units) (pv 5) (pv 6) (nomark _))
    (pss_cons (ps_set (i := 7) sc_parting_row.nd rfl (by first | exact Or.inl rfl | exact Or.inr rfl) (pe_call (G_parting_sample (P := P) T) (hr.mono (by decide)) (by rfl) T.g_parting_sample T.F_parting_sample.kp T.b_parting_sample .nil pass0 (pa_cons (pv 5) (pa_cons (pv 6) pa_nil))))
  (pss_one (ps_if (PW.pt (pw_or (pt_cmpR op_isN (pv 4) pe_non (nomark _)) (pw_or1 (pt_cmpR op_lt (pe_callB call_abs (by rfl) T.n_abs (by decide +kernel) (pa_cons (pv 7) pa_nil)) (pe_callB call_abs (by rfl) T.n_abs (by decide +kernel) (pa_cons (pe_ix (k_ixL K rfl) (pv 4) pe_int (fun _ _ => rfl)) pa_nil)) (nomark _)))))
    (pss_one (ps_set (i := 4) sc_parting_row.nd rfl (by first | exact Or.inl rfl | exact Or.inr rfl) (pe_tup (pa_cons (pv 2) (pa_cons (pv 7) pa_nil)))))
    pss_nil)))
    pss_nil))))
  (pss_cons (ps_if (pt_cmpR op_isN (pv 4) pe_non (nomark _))
    (pss_one (ps_ret pe_non))
    pss_nil)
  (pss_one (ps_ret (pe_lc (own := [("place", 8)]) (g := gName 8) (tt := tYes) (by rfl) sc_parting_row.nd (pi_range1 (by rfl) T.n_range (pa_cons (pv 3) pa_nil)) (blkOk_by (own := [("place", 8)]) (N := N_parting_row) (sc := defScope s_parting_row) (by decide +kernel)) (fun _ _ _ _ _ => (pg_name (i := 8) sc_parting_row.nd rfl (by first | exact Or.inl rfl | exact Or.inr rfl))) (fun _ _ _ _ _ => pts_nil) (fun _ _ _ _ _ => (pe_ifExp (pt_cmpR op_eq (pv 8) (pe_op op_sub (pe_op op_sub (pv 3) pe_int) (pe_ix (k_ixL K rfl) (pv 4) pe_int (fun _ _ => rfl))) (nomark _)) (pe_ix (k_ixL K rfl) (pv 4) pe_int (fun _ _ => rfl)) pe_int)))))))))), ?_⟩
  rcases h with h | ⟨hG, h⟩
  · exact ⟨_, rfl, _, rfl, .inr h⟩
  · exact ⟨_, rfl, _, rfl, .inl ⟨hG, ⟨_, rfl, _, rfl, .inr h⟩⟩⟩
def sp_badGD (K : PySem.W.Frag) (C : Addr) (cs : Nat → Addr) : Sp := fun vs H Q E => ∃ g d : V, vs = [g, d] ∧ ((NoG K H g ∧ EE H E (cs 3) g) ∨ (IsG C H g ∧ NumV K H d 1 (some 32) false ∧ EE H E (cs 4) d))
theorem G_bound_rows (T : Top K mg) : FnOk P w K mg base (L2.CX P w) 4 T.f_bound_rows T.fd_bound_rows ["guesser", "depth"] (sp_badGD K T.C_Guesser (csT T)) := by
  refine T.F_bound_rows.ok (CX := L2.CX P w) sc_bound_rows (fun vs H Q E h => by obtain ⟨g, d, rfl, _⟩ := h; rfl) (fun cdv A outer s H vs Q E hr h => ?_)
  obtain ⟨g, d, rfl, h⟩ := h
  refine ⟨_, (pss_cons (ps_expr (pe_call (G_check_guesser (P := P) T) (hr.mono (by decide)) (by rfl) T.g_check_guesser T.F_check_guesser.kp T.b_check_guesser .nil (passes_call (takes_of rfl rfl rfl rfl) (fun _ _ _ _ h => h)) (pa_cons (pv 0) pa_nil)))
  (pss_cons (ps_expr (pe_call (G_check_depth (P := P) T) (hr.mono (by decide)) (by rfl) T.g_check_depth T.F_check_depth.kp T.b_check_depth .nil (passes_call (takes_of rfl rfl rfl rfl) (fun _ _ _ _ h => h)) (pa_cons (pv 1) (pa_cons (pe_glob (v := .int 32) rfl T.m_MOST_DEPTH_guessers ⟨_, rfl⟩) pa_nil))))
  (pss_cons (ps_par (by rfl) sc_bound_rows.nd (i := 2) (j := 3) rfl rfl (by decide) rfl rfl (pa_cons (pe_un un_neg (pe_op op_shl pe_int (pe_op op_sub (pv 1) pe_int))) (pa_cons (pe_op op_sub (pe_op op_shl pe_int (pe_op op_sub (pv 1) pe_int)) pe_int) pa_nil)) (by rfl))
  (pss_one (ps_ret (pe_tup (pa_cons (pe_lst (StX.pa_star (pe_call (G_ends (P := P) T) (hr.mono (by decide)) (by rfl) T.g_ends T.F_ends.kp T.b_ends .nil pass0 (pa_cons (pv 0) (pa_cons (pv 1) (pa_cons pe_int pa_nil)))) (pa_cons (pv 2) pa_nil))) (pa_cons (pe_lst (StX.pa_star (pe_call (G_ends (P := P) T) (hr.mono (by decide)) (by rfl) T.g_ends T.F_ends.kp T.b_ends .nil pass0 (pa_cons (pv 0) (pa_cons (pv 1) (pa_cons (pe_un un_neg pe_int) pa_nil)))) (pa_cons (pv 3) pa_nil))) pa_nil)))))))), ?_⟩
  rcases h with h | ⟨hG, h, q⟩
  · exact ⟨_, rfl, _, rfl, .inr h⟩
  · refine ⟨_, rfl, _, rfl, .inl ⟨hG, ?_⟩⟩
    exact ⟨_, rfl, _, 32, false, rfl, h, (fun z => nomatch z), fun _ e nd => q H e (Same.refl _) nd⟩
theorem G_bounds (T : Top K mg) : FnOk P w K mg base (L2.CX P w) 5 T.f_bounds T.fd_bounds ["guesser", "depth"] (sp_badGD K T.C_Guesser (csT T)) := by
  refine T.F_bounds.ok (CX := L2.CX P w) sc_bounds (fun vs H Q E h => by obtain ⟨g, d, rfl, _⟩ := h; rfl) (fun cdv A outer s H vs Q E hr h => ?_)
  obtain ⟨g, d, rfl, h⟩ := h
  refine ⟨_, (pss_cons (ps_asg (pe_call (G_bound_rows (P := P) T) (hr.mono (by decide)) (by rfl) T.g_bound_rows T.F_bound_rows.kp T.b_bound_rows .nil (passes_call (takes_of rfl rfl rfl rfl) (fun _ _ _ _ h => h)) (pa_cons (pv 0) (pa_cons (pv 1) pa_nil))) (k_pgT K rfl (by rfl) (pgs_cons (pg_name (i := 2) sc_bounds.nd rfl (by first | exact Or.inl rfl | exact Or.inr rfl)) (pgs_cons (pg_name (i := 3) sc_bounds.nd rfl (by first | exact Or.inl rfl | exact Or.inr rfl)) pgs_nil))))
  (pss_one (ps_ret (pe_tup (pa_cons (pe_ix (k_ixL K rfl) (pe_call (G_told_rests (P := P) T) (hr.mono (by decide)) (by rfl) T.g_told_rests T.F_told_rests.kp T.b_told_rests .nil pass0 (pa_cons (pv 0) (pa_cons (pv 2) pa_nil))) (pe_un un_neg pe_int) (fun _ _ => rfl)) (pa_cons (pe_ix (k_ixL K rfl) (pe_call (G_told_rests (P := P) T) (hr.mono (by decide)) (by rfl) T.g_told_rests T.F_told_rests.kp T.b_told_rests .nil pass0 (pa_cons (pv 0) (pa_cons (pv 3) pa_nil))) (pe_un un_neg pe_int) (fun _ _ => rfl)) pa_nil)))))), ?_⟩
  exact ⟨_, rfl, _, rfl, _, _, rfl, h⟩
theorem G_bits_enough (T : Top K mg) : FnOk P w K mg base (L2.CX P w) 6 T.f_bits_enough T.fd_bits_enough ["guesser", "depth"] (sp_badGD K T.C_Guesser (csT T)) := by
  refine T.F_bits_enough.ok (CX := L2.CX P w) sc_bits_enough (fun vs H Q E h => by obtain ⟨g, d, rfl, _⟩ := h; rfl) (fun cdv A outer s H vs Q E hr h => ?_)
  obtain ⟨g, d, rfl, h⟩ := h
  refine ⟨_, (pss_cons (ps_asg (pe_call (G_bounds (P := P) T) (hr.mono (by decide)) (by rfl) T.g_bounds T.F_bounds.kp T.b_bounds .nil (passes_call (takes_of rfl rfl rfl rfl) (fun _ _ _ _ h => h)) (pa_cons (pv 0) (pa_cons (pv 1) pa_nil))) (k_pgT K rfl (by rfl) (pgs_cons (pg_name (i := 3) sc_bits_enough.nd rfl (by first | exact Or.inl rfl | exact Or.inr rfl)) (pgs_cons (pg_name (i := 4) sc_bits_enough.nd rfl (by first | exact Or.inl rfl | exact Or.inr rfl)) pgs_nil))))
  (pss_cons (ps_set (i := 2) sc_bits_enough.nd rfl (by first | exact Or.inl rfl | exact Or.inr rfl) pe_int)
  (pss_cons (ps_while (passes_of rfl) (PW.pt (pw_or (pt_cmpR op_lt (pv 3) (pe_un un_neg (pe_op op_shl pe_int (pe_op op_sub (pv 2) pe_int))) (nomark _)) (pw_or1 (pt_cmpR op_ge (pv 4) (pe_op op_shl pe_int (pe_op op_sub (pv 2) pe_int)) (nomark _)))))
    (pss_one (ps_set (i := 2) sc_bits_enough.nd rfl (by first | exact Or.inl rfl | exact Or.inr rfl) (pe_op op_add (pv 2) pe_int))))
  (pss_one (ps_ret (pv 2)))))), ?_⟩
  exact ⟨_, rfl, _, rfl, _, _, rfl, h⟩
def sp_normal (K : PySem.W.Frag) (cs : Nat → Addr) : Sp := fun vs H Q E => ∃ g : V, vs = [g] ∧ NoG K H g ∧ EE H E (cs 3) g
theorem G_normal (T : Top K mg) : FnOk P w K mg base (L2.CX P w) 5 T.f_normal T.fd_normal ["guesser"] (sp_normal K (csT T)) := by
  refine T.F_normal.ok (CX := L2.CX P w) sc_normal (fun vs H Q E h => by obtain ⟨g, rfl, _⟩ := h; rfl) (fun cdv A outer s H vs Q E hr h => ?_)
  obtain ⟨g, rfl, h⟩ := h
  refine ⟨_, (pss_cons (ps_expr (pe_call (G_check_guesser (P := P) T) (hr.mono (by decide)) (by rfl) T.g_check_guesser T.F_check_guesser.kp T.b_check_guesser .nil (passes_call (takes_of rfl rfl rfl rfl) (fun _ _ _ _ h => h)) (pa_cons (pv 0) pa_nil)))
  (pss_cons (ps_par (by rfl) sc_normal.nd (i := 1) (j := 2) rfl rfl (by decide) rfl rfl (pa_cons (pe_callTy (k_listOf K rfl) (by rfl) T.n_list (by decide +kernel) (pa_cons (pe_fld (pv 0) rfl) pa_nil)) (pa_cons (pe_fld (pv 0) rfl) pa_nil)) (by rfl))
  (pss_cons (ps_while (passes_of rfl) (PW.pt (pw_and (pt_cmpR (k_neD K rfl hr.units) (pv 1) (pe_lst pa_nil) (nomark _)) (pw_and1 (pt_cmpR op_eq (pe_ix (k_ixL K rfl) (pv 1) (pe_un un_neg pe_int) (fun _ _ => rfl)) pe_int (nomark _)))))
    (pss_one (ps_expr (pe_bm0 PySem.F.plainAttrs_list PySem.F.slot_list_pop PySem.F.type_list_pop mt_pop (pv 1)))))
  (pss_cons (ps_while (passes_of rfl) (PW.pt (pw_and (pt_cmpR op_gt (pv 2) pe_int (nomark _)) (pw_and1 (pt_cmpR (k_eqD K rfl hr.units) (pe_lc (own := [("weight", 3)]) (g := gName 3) (by rfl) sc_normal.nd (k_piL K rfl (pv 1)) (blkOk_by (own := [("weight", 3)]) (N := N_normal) (sc := defScope s_normal) (by decide +kernel)) (fun _ _ _ _ _ => (pg_name (i := 3) sc_normal.nd rfl (by first | exact Or.inl rfl | exact Or.inr rfl))) (fun _ _ _ _ _ => (pts_one (pt_cmpR op_eq (pe_op op_mod (pv 3) pe_int) pe_int (nomark _)))) (fun _ _ _ _ _ => (pv 3))) (pe_lst pa_nil) (nomark _)))))
    (pss_cons (ps_setLc (i := 1) (own := [("weight", 3)]) (g := gName 3) (tt := tYes) (by rfl) sc_normal.nd rfl rfl (sw_true rfl rfl rfl (by decide +kernel)) (k_piL K rfl (pv 1)) (blkOk_by (own := [("weight", 3)]) (N := N_normal) (sc := defScope s_normal) (by decide +kernel)) (fun _ _ _ _ _ => (pg_name (i := 3) sc_normal.nd rfl (by first | exact Or.inl rfl | exact Or.inr rfl))) (fun _ _ _ _ _ => pts_nil) (fun _ _ _ _ _ => (pe_op op_fdivW (pv 3) pe_int)))
  (pss_one (ps_set (i := 2) sc_normal.nd rfl (by first | exact Or.inl rfl | exact Or.inr rfl) (pe_op op_sub (pv 2) pe_int)))))
  (pss_one (ps_ret (pe_make T.mk_Guesser (G_Guesser___init__ (P := P) T) (hr.mono (by decide)) (by rfl) T.gc_Guesser T.b_Guesser___init__ .nil (passes_call (takes_of rfl rfl rfl rfl) (fun _ _ _ _ h => h)) (pa_cons (pv 1) (pa_cons (pv 2) pa_nil))))))))), ?_⟩
  exact ⟨_, rfl, _, rfl, .inr h⟩
def sp_steps (K : PySem.W.Frag) (cs : Nat → Addr) : Sp := fun vs H Q E => ∃ v : V, vs = [v] ∧ NumV K H v 0 (some 8) false ∧ EE H E (cs 2) v
theorem G_steps (T : Top K mg) : FnOk P w K mg base (L2.CX P w) 5 T.f_steps T.fd_steps ["order"] (sp_steps K (csT T)) := by
  refine T.F_steps.ok (CX := L2.CX P w) sc_steps (fun vs H Q E h => by obtain ⟨v, rfl, _⟩ := h; rfl) (fun cdv A outer s H vs Q E hr h => ?_)
  obtain ⟨v, rfl, h, q⟩ := h
  refine ⟨_, (pss_cons (ps_if (pt_not (pt_val (pe_call (G_is_between (P := P) T) (hr.mono (by decide)) (by rfl) T.g_is_between T.F_is_between.kp T.b_is_between .nil pass0 (pa_cons (pv 0) (pa_cons pe_int (pa_cons (pe_glob (v := .int 8) rfl T.m_MOST_ORDER ⟨_, rfl⟩) pa_nil))))))
    (pss_one (ps_raise rfl (takes_of rfl rfl rfl rfl) (pmk_oex T.er_InvalidNumber.sup.T T.er_InvalidNumber.ini T.er_InvalidNumber.ity (G_InvalidNumber___init__ (P := P) (CX := CX0) T) (hr.mono (by decide)) T.er_InvalidNumber.bnd .nil pass0 (by rfl) T.gc_InvalidNumber (pa_cons (pv 0) pa_nil))))
    pss_nil)
  (pss_cons (ps_set (i := 1) sc_steps.nd rfl (by first | exact Or.inl rfl | exact Or.inr rfl) (pe_lst (pa_cons pe_int pa_nil)))
  (pss_cons (ps_for (passes_of rfl) rfl (pi_range1 (by rfl) T.n_range (pa_cons (pv 0) pa_nil)) (pg_name (i := 2) sc_steps.nd rfl (by first | exact Or.inl rfl | exact Or.inr rfl))
    (pss_one (ps_set (i := 1) sc_steps.nd rfl (by first | exact Or.inl rfl | exact Or.inr rfl) (pe_call (G_times_sum (P := P) T) (hr.mono (by decide)) (by rfl) T.g_times_sum T.F_times_sum.kp T.b_times_sum .nil pass0 (pa_cons (pv 1) (pa_cons (pe_lst (pa_cons pe_int (pa_cons (pe_un un_neg pe_int) pa_nil))) pa_nil))))))
  (pss_one (ps_ret (pe_make T.mk_Guesser (G_Guesser___init__ (P := P) T) (hr.mono (by decide)) (by rfl) T.gc_Guesser T.b_Guesser___init__ .nil (passes_call (takes_of rfl rfl rfl rfl) (fun _ _ _ _ h => h)) (pa_cons (pe_lc (own := [("item", 3)]) (g := gName 3) (tt := tYes) (by rfl) sc_steps.nd (k_piL K rfl (pe_slice (k_slL K rfl) (pv 1) (po_some pe_int) po_none)) (blkOk_by (own := [("item", 3)]) (N := N_steps) (sc := defScope s_steps) (by decide +kernel)) (fun _ _ _ _ _ => (pg_name (i := 3) sc_steps.nd rfl (by first | exact Or.inl rfl | exact Or.inr rfl))) (fun _ _ _ _ _ => pts_nil) (fun _ _ _ _ _ => (pe_un un_neg (pv 3)))) (pa_cons pe_int pa_nil)))))))), ?_⟩
  exact ⟨_, rfl, v, 0, some 8, false, rfl, h, _, rfl, iteT ⟨_, rfl, mk_sup fun e nd => q _ e (Same.refl _) nd⟩⟩
end
end My

namespace My
open PySem PySem.Spec PyProof.Rows L2 Pre
/-! ### what hangs, what is told -/
def tellB (ws : List Int) (sh : Nat) (row : List Int) : Bool := ((toldR ws sh row).drop ws.length).all fun x => decide (x = 0)
theorem sel_if {α β : Type} (l : List α) (p : α → Bool) (f : α → β) : (l.map fun x => if p x = true then some (f x) else none).filterMap id = (l.filter p).map f := by
  induction l with
  | nil => rfl
  | cons x r ih =>
    rw [List.map_cons, List.filterMap_cons, List.filter_cons]
    by_cases c : p x = true
    · rw [if_pos c, if_pos c, List.map_cons, ← ih]; rfl
    · rw [if_neg c, if_neg c, ← ih]; rfl
def nV (l : List Nat) : List V := l.map fun i : Nat => V.int (i : Int)
theorem nV_len (l : List Nat) : (nV l).length = l.length := List.length_map _
theorem late_len (n k len : Nat) : (lateL n k len).length = min (k + n) (len - 1) + 1 - max (k + 1) n := by unfold lateL; rw [List.length_map, List.length_range]
theorem late_at {n k len i : Nat} (h : i < min (k + n) (len - 1) + 1 - max (k + 1) n) : (lateL n k len)[i]? = some (max (k + 1) n + i) := by
  unfold lateL
  rw [List.getElem?_map, List.getElem?_range h]
  rfl
theorem take_filter {l : List Nat} {p : Nat → Bool} {i x : Nat} (h : l[i]? = some x) : (l.take (i + 1)).filter p = (l.take i).filter p ++ if p x = true then [x] else [] := by
  rw [List.take_add_one, h, List.filter_append]
  show _ ++ List.filter p [x] = _
  rw [List.filter_cons]
  split <;> rfl
local macro_rules | `(tactic| walk_at "go") => `(tactic| repeat (first | (with_reducible first | refine iteT ?_ | refine iteF ?_ | refine iteNtt ?_ | refine iteNff ?_ | refine iteET (by omega) ?_ | refine iteEF (by omega) ?_ | refine iteENT (by omega) ?_ | refine iteENF (by omega) ?_ | refine iteDT (by omega) ?_ | refine iteDF (by omega) ?_ | refine iteNT (by omega) ?_ | refine iteNF (by omega) ?_) | refine ⟨_, rfl, ?_⟩ | refine ⟨_, _, rfl, rfl, ?_⟩ | refine ⟨_, _, rfl, ?_⟩ | refine ⟨rfl, ?_⟩ | refine .inl ⟨_, rfl, ?_⟩ | refine .inr ⟨_, rfl, ?_⟩))
local macro_rules | `(tactic| walk_at "b") => `(tactic| try dsimp (config := { proj := false, iota := false, eta := false, zeta := false }) only)
section
variable {P : Program} {w : World} {K : PySem.W.Frag} {mg : Str → Option Value} {base : Heap} [pf : Sup.PF P fileS]
def sp_tells (C : Addr) (K : PySem.W.Frag) (cs : Nat → Addr) : Sp := fun vs H Q E => ∃ g r : V, vs = [g, r] ∧ ((NoG K H g ∧ EE H E (cs 3) g) ∨ (IsG C H g ∧ BadB K H 0 r ∧ EE H E (cs 5) r) ∨
  ∃ (a b : Addr) (ws : List Int) (sh : Nat) (row : List Int), g = .ref a ∧ r = .ref b ∧ GuesserAt C H a ws sh ∧ H b = some (.lst (row.map V.int)) ∧ row.length ≤ 1000 ∧ ∀ H', Same H H' → Q (.bl (tellB ws sh row)) H')
theorem G_tells (T : Top K mg) : FnOk P w K mg base (L2.CX P w) 5 T.f_tells T.fd_tells ["guesser", "row"] (sp_tells T.C_Guesser K (csT T)) := by
  refine T.F_tells.ok (CX := L2.CX P w) sc_tells (fun vs H Q E h => by obtain ⟨g, r, rfl, _⟩ := h; rfl) (fun cdv A outer s H vs Q E hr h => ?_)
  obtain ⟨g, r, rfl, h⟩ := h
  refine ⟨_, (pss_cons (ps_set (i := 2) sc_tells.nd rfl (by first | exact Or.inl rfl | exact Or.inr rfl) (pe_call (G_plain_rests (P := P) T) (hr.mono (by decide)) (by rfl) T.g_plain_rests T.F_plain_rests.kp T.b_plain_rests .nil (passes_call (takes_of rfl rfl rfl rfl) (fun _ _ _ _ h => h)) (pa_cons (pv 0) (pa_cons (pv 1) pa_nil))))
  (pss_one (ps_ret (pe_cmpR (k_eqD K rfl hr.units) (pe_lc (own := [("rest", 3)]) (g := gName 3) (by rfl) sc_tells.nd (k_piL K rfl (pe_slice (k_slL K rfl) (pv 2) (po_some (pe_callB (k_len K rfl) (by rfl) T.n_len (by decide +kernel) (pa_cons (pe_fld (pv 0) rfl) pa_nil))) po_none)) (blkOk_by (own := [("rest", 3)]) (N := N_tells) (sc := defScope s_tells) (by decide +kernel)) (fun _ _ _ _ _ => (pg_name (i := 3) sc_tells.nd rfl (by first | exact Or.inl rfl | exact Or.inr rfl))) (fun _ _ _ _ _ => (pts_one (pt_cmpR op_ne (pv 3) pe_int (nomark _)))) (fun _ _ _ _ _ => (pv 3))) (pe_lst pa_nil) (nomark _))))), ?_⟩
  rcases h with h | h | ⟨a, b, ws, sh, row, rfl, rfl, hG, hb, hl, q⟩
  · exact ⟨_, rfl, _, rfl, _, _, rfl, .inl h⟩
  · exact ⟨_, rfl, _, rfl, _, _, rfl, .inr (.inl h)⟩
  · refine ⟨_, rfl, _, rfl, _, _, rfl, .inr (.inr ⟨a, b, ws, sh, row, rfl, rfl, hG, hb, hl, fun H1 f s1 nf hf => ?_⟩)⟩
    obtain ⟨hW, _, dx, p, ha, hp⟩ := hG.same s1
    refine ⟨_, rfl, _, rfl, a, T.C_Guesser, dx, _, _, rfl, ha, T.cl_Guesser, T.na_Guesser_parts, rfl, p, _, rfl, .inl (.inl (.inl hp)), _, rfl, f, _, rfl, .inl (.inl hf), fun c nc => ?_⟩
    rw [List.length_map, cut_drop, ← List.map_drop]
    obtain ⟨H2, e2, s2, hc⟩ := fresh (.lst (((toldR ws sh row).drop ws.length).map V.int)) nc
    rw [e2]
    refine ⟨c, rfl, ⟨_, .inl (.inl hc)⟩, fun D nD => ?_⟩
    have hfin := q
    unfold tellB at hfin
    have hlen : ((toldR ws sh row).drop ws.length).length ≤ 1000 := by rw [List.length_drop, toldR_len]; omega
    generalize (toldR ws sh row).drop ws.length = xs at *
    refine lc_selL (K := K) (xs := xs.map V.int) (xs.map fun x => if decide (x ≠ 0) = true then some (V.int x) else none) nD (.inl (.inl hc)) (by rw [List.length_map, List.length_map]) (by rw [List.length_map]; exact small1000 hlen) (fun x => rfl) ?_ ?_
    · intro i x o H' hx ho s Qt qt
      obtain ⟨n, hn, rfl⟩ := int_at hx
      rw [List.getElem?_map, hn] at ho
      cases ho
      dsimp only at qt
      refine ⟨_, rfl, rfl, _, rfl, ?_⟩
      by_cases c0 : n = 0
      · rw [decide_eq_false (fun z => z c0)] at qt
        exact iteENF c0 (qt _ (Same.refl _))
      · rw [decide_eq_true c0] at qt
        exact iteENT c0 ⟨_, rfl, qt _ (Same.refl _)⟩
    · intro H3 s3 hD
      rw [sel_if] at hD
      refine ⟨Nat.zero_le _, fun em nem => ?_⟩
      have hfin := hfin _ (((s1.trans s2).trans s3).trans (same_upd (o := .lst []) nem))
      refine eqD_lst (ms := []) (.inl (.inl (same_upd nem _ _ hD))) (.inl (.inl upd_same)) ?_
      have e : decide ((xs.filter fun x => decide (x ≠ 0)) = []) = xs.all fun x => decide (x = 0) := by
        rw [Bool.eq_iff_iff, decide_eq_true_iff, List.filter_eq_nil_iff, List.all_eq_true]
        exact ⟨fun h x hx => decide_eq_true (Classical.byContradiction fun z => h x hx (decide_eq_true z)), fun h x hx z => (of_decide_eq_true z) (of_decide_eq_true (h x hx))⟩
      rw [e]
      exact hfin
def sp_hangs (C : Addr) (K : PySem.W.Frag) (cs : Nat → Addr) : Sp := fun vs H Q E => ∃ g d r x : V, vs = [g, d, r, x] ∧ ((∃ kind y, BadGDR K C H g d r kind y ∧ EE H E (cs kind) y) ∨
  ∃ (a b : Addr) (ws : List Int) (sh dd : Nat) (row : List Int), g = .ref a ∧ d = .int dd ∧ r = .ref b ∧ GuesserAt C H a ws sh ∧ H b = some (.lst (row.map V.int)) ∧ 1 ≤ dd ∧ dd ≤ 24 ∧ Smp dd row ∧ row.length ≤ 100 ∧
    ((NumV K H x 0 (some ((row.length : Int) - 1)) false ∧ EE H E (cs 2) x) ∨ ∃ k : Nat, x = .int k ∧ k < row.length ∧ ∀ H' p, Same H H' → H p = none → H' p = some (.lst (nV (hangL ws sh row k (-(2 ^ (dd - 1))) (2 ^ (dd - 1) - 1)))) → Q (.ref p) H'))
theorem G_hangs (T : Top K mg) : FnOk P w K mg base (L2.CX P w) 6 T.f_hangs T.fd_hangs ["guesser", "depth", "row", "place"] (sp_hangs T.C_Guesser K (csT T)) := by
  refine T.F_hangs.ok (CX := L2.CX P w) sc_hangs (fun vs H Q E h => by obtain ⟨g, d, r, x, rfl, _⟩ := h; rfl) (fun cdv A outer s H vs Q E hr h => ?_)
  obtain ⟨g, d, r, x, rfl, h⟩ := h
  refine ⟨_, (pss_cons (ps_expr (pe_call (G_check_guesser (P := P) T) (hr.mono (by decide)) (by rfl) T.g_check_guesser T.F_check_guesser.kp T.b_check_guesser .nil (passes_call (takes_of rfl rfl rfl rfl) (fun _ _ _ _ h => h)) (pa_cons (pv 0) pa_nil)))
  (pss_cons (ps_expr (pe_call (G_check_depth (P := P) T) (hr.mono (by decide)) (by rfl) T.g_check_depth T.F_check_depth.kp T.b_check_depth .nil (passes_call (takes_of rfl rfl rfl rfl) (fun _ _ _ _ h => h)) (pa_cons (pv 1) (pa_cons (pe_glob (v := .int 32) rfl T.m_MOST_DEPTH_guessers ⟨_, rfl⟩) pa_nil))))
  (pss_cons (ps_expr (pe_call (G_check_row (P := P) T) (hr.mono (by decide)) (by rfl) T.g_check_row T.F_check_row.kp T.b_check_row .nil (passes_call (takes_of rfl rfl rfl rfl) (fun _ _ _ _ h => h)) (pa_cons (pv 1) (pa_cons (pv 2) pa_nil))))
  (pss_cons (ps_if (pt_not (pt_val (pe_call (G_is_between (P := P) T) (hr.mono (by decide)) (by rfl) T.g_is_between T.F_is_between.kp T.b_is_between .nil pass0 (pa_cons (pv 3) (pa_cons pe_int (pa_cons (pe_op op_sub (pe_callB (k_len K rfl) (by rfl) T.n_len (by decide +kernel) (pa_cons (pv 2) pa_nil)) pe_int) pa_nil))))))
    (pss_one (ps_raise rfl (takes_of rfl rfl rfl rfl) (pmk_oex T.er_InvalidNumber.sup.T T.er_InvalidNumber.ini T.er_InvalidNumber.ity (G_InvalidNumber___init__ (P := P) (CX := CX0) T) (hr.mono (by decide)) T.er_InvalidNumber.bnd .nil pass0 (by rfl) T.gc_InvalidNumber (pa_cons (pv 3) pa_nil))))
    pss_nil)
  (pss_cons (ps_par (by rfl) sc_hangs.nd (i := 5) (j := 6) rfl rfl (by decide) rfl rfl (pa_cons (pe_callB (k_len K rfl) (by rfl) T.n_len (by decide +kernel) (pa_cons (pe_fld (pv 0) rfl) pa_nil)) (pa_cons (pe_lst (pa_cons (pv 3) pa_nil)) pa_nil)) (by rfl))
  (pss_cons (ps_for (passes_of rfl) rfl (pi_range2 (by rfl) T.n_range (pa_cons (pe_callB (call_max2 rfl) (by rfl) T.n_max (by decide +kernel) (pa_cons (pe_op op_add (pv 3) pe_int) (pa_cons (pv 5) pa_nil))) (pa_cons (pe_op op_add (pe_callB (call_min2 rfl) (by rfl) T.n_min (by decide +kernel) (pa_cons (pe_op op_add (pv 3) (pv 5)) (pa_cons (pe_op op_sub (pe_callB (k_len K rfl) (by rfl) T.n_len (by decide +kernel) (pa_cons (pv 2) pa_nil)) pe_int) pa_nil))) pe_int) pa_nil))) (pg_name (i := 4) sc_hangs.nd rfl (by first | exact Or.inl rfl | exact Or.inr rfl))
    (pss_cons (ps_set (i := 7) sc_hangs.nd rfl (by first | exact Or.inl rfl | exact Or.inr rfl) (pe_lst pa_nil))
  (pss_cons (ps_for (passes_of rfl) rfl (k_piL K rfl (pe_lst (pa_cons (pe_un un_neg (pe_op op_shl pe_int (pe_op op_sub (pv 1) pe_int))) (pa_cons (pe_op op_sub (pe_op op_shl pe_int (pe_op op_sub (pv 1) pe_int)) pe_int) pa_nil)))) (pg_name (i := 8) sc_hangs.nd rfl (by first | exact Or.inl rfl | exact Or.inr rfl))
    (pss_cons (ps_set (i := 9) sc_hangs.nd rfl (by first | exact Or.inl rfl | exact Or.inr rfl) (pe_callTy (k_listOf K rfl) (by rfl) T.n_list (by decide +kernel) (pa_cons (pe_slice (k_slL K rfl) (pv 2) (po_some (pe_op op_sub (pv 4) (pv 5))) (po_some (pv 4))) pa_nil)))
  (pss_cons (ps_asg (pv 8) (pg_sub (pv 9) (pe_op op_add (pe_op op_sub (pv 3) (pv 4)) (pv 5)) set_list))
  (pss_one (ps_expr (pe_bm PySem.F.plainAttrs_list PySem.F.slot_list_append PySem.F.type_list_append mt_append (pv 7) (pa_cons (pe_call (G_guess_behind (P := P) T) (hr.mono (by decide)) (by rfl) T.g_guess_behind T.F_guess_behind.kp T.b_guess_behind .nil pass0 (pa_cons (pv 0) (pa_cons (pv 9) pa_nil))) pa_nil)))))))
  (pss_one (ps_if (pt_cmpR op_ne (pe_ix (k_ixL K rfl) (pv 7) pe_int (fun _ _ => rfl)) (pe_ix (k_ixL K rfl) (pv 7) pe_int (fun _ _ => rfl)) (nomark _))
    (pss_one (ps_expr (pe_bm PySem.F.plainAttrs_list PySem.F.slot_list_append PySem.F.type_list_append mt_append (pv 6) (pa_cons (pv 4) pa_nil))))
    pss_nil)))))
  (pss_one (ps_ret (pv 6))))))))), ?_⟩
  rcases h with ⟨kind, y, ⟨h, rfl, rfl⟩ | ⟨hG, ⟨h, rfl, rfl⟩ | ⟨dd, rfl, d1, d2, h, rfl, rfl⟩⟩, q⟩ | ⟨a, b, ws, sh, dd, row, rfl, rfl, rfl, hG, hb, d1, d2, hs, hl, h⟩
  · exact ⟨_, rfl, _, rfl, .inr ⟨h, q⟩⟩
  · refine ⟨_, rfl, _, rfl, .inl ⟨hG, ?_⟩⟩
    exact ⟨_, rfl, _, 32, false, rfl, h, (fun z => nomatch z), fun _ e nd => q H e (Same.refl _) nd⟩
  · refine ⟨_, rfl, _, rfl, .inl ⟨hG, ?_⟩⟩
    refine ⟨_, rfl, _, 32, true, rfl, dok32 d1 (by omega), fun _ => ?_, fun z => nomatch z⟩
    exact ⟨_, rfl, _, rfl, dd, _, rfl, d1, d2, .inr ⟨h, q⟩⟩
  · refine ⟨_, rfl, _, rfl, .inl ⟨hG.isG, ?_⟩⟩
    refine ⟨_, rfl, _, 32, true, rfl, dok32 d1 (by omega), fun _ => ?_, fun z => nomatch z⟩
    refine ⟨_, rfl, _, rfl, dd, _, rfl, d1, d2, .inl ⟨b, row, rfl, hb, hs, by omega, fun H1 s1 => ?_⟩⟩
    have hb1 := s1 _ _ hb
    rcases h with ⟨hN, q⟩ | ⟨k, rfl, hk, q⟩
    · refine ⟨_, rfl, _, rfl, b, _, rfl, .inl (.inl (.inl hb1)), _, _, rfl, rfl, x, 0, some ((row.length : Int) - 1), false, by rw [List.length_map]; rfl, hN.same s1, _, rfl, iteT ⟨_, rfl, mk_sup fun e nd => q _ e s1 nd⟩⟩
    refine ⟨_, rfl, _, rfl, b, _, rfl, .inl (.inl (.inl hb1)), _, _, rfl, rfl, _, 0, some ((row.length : Int) - 1), true, by rw [List.length_map]; rfl, .inl ⟨_, rfl, (decide_eq_true ⟨by omega, fun j e => by cases e; omega⟩).symm⟩, _, rfl, iteF ?_⟩
    have hG1 := hG.same s1
    obtain ⟨hW, _, dx, p, ha, hp⟩ := id hG1
    refine ⟨_, rfl, a, T.C_Guesser, dx, _, _, rfl, ha, T.cl_Guesser, T.na_Guesser_parts, rfl, p, _, rfl, .inl (.inl (.inl hp)), _, rfl, (by show 1 ≤ sizeLine; decide), fun F nF => ?_⟩
    obtain ⟨H2, e2, s2, hF⟩ := fresh (.lst [V.int (k : Int)]) nF
    rw [e2]
    refine ⟨_, _, rfl, ?_⟩
    have hb2 := s2 _ _ hb1
    have s02 := s1.trans s2
    have hw8 := hW.1
    rw [List.length_map]
    refine ⟨_, rfl, _, _, rfl, rfl, _, rfl, _, _, rfl, _, rfl, _, rfl, _, _, rfl, rfl, _, rfl, b, _, rfl, .inl (.inl (.inl hb2)), _, _, rfl, rfl, _, _, rfl, _, _, rfl, rfl, ?_⟩
    have eL := late_len ws.length k row.length
    refine ⟨((max (k + 1) ws.length : Nat) : Int), ((min (k + ws.length) (row.length - 1) + 1 : Nat) : Int), ?_, ⟨by omega, by omega, by omega, by omega⟩, ?_⟩
    · simp only [List.cons.injEq, V.int.injEq, and_true, List.length_map]
      constructor
      · split <;> omega
      · split <;> omega
    rw [show (((min (k + ws.length) (row.length - 1) + 1 : Nat) : Int) - ((max (k + 1) ws.length : Nat) : Int)).toNat = min (k + ws.length) (row.length - 1) + 1 - max (k + 1) ws.length by omega]
    have hp2 := half_pos dd
    have hpl := pow_le_pow2 (show dd - 1 ≤ 24 by omega)
    generalize eLo : max (k + 1) ws.length = lo at *
    generalize eCt : min (k + ws.length) (row.length - 1) + 1 - lo = ct at *
    have eZ1 : ((dd : Int) - 1).toNat = dd - 1 := by omega
    refine for_range (lo := (lo : Int)) (n := ct) (fun i σ HA => ∃ v4 v7 v8 v9 : Option V, σ = [some (.ref a), some (.int dd), some (.ref b), some (.int k), v4, some (.int ws.length), some (.ref F), v7, v8, v9] ∧ Same H HA ∧ HA F = some (.lst (nV (k :: ((lateL ws.length k row.length).take i).filter fun l => decide (hungF ws sh row k l (-(2 ^ (dd - 1))) ≠ hungF ws sh row k l (2 ^ (dd - 1) - 1)))))) ⟨none, none, none, none, rfl, s02, hF⟩ ?_ ?_
    · rintro i σ HA hi ⟨v4, v7, v8, v9, rfl, sA, hFA⟩
      rw [← Int.natCast_add]
      have hla : (lateL ws.length k row.length)[i]? = some (lo + i) := by rw [late_at (by omega), eLo]
      obtain ⟨m1, m2, m3, m4⟩ := mem_late.mp (List.mem_of_getElem? hla)
      generalize lo + i = l at *
      refine ⟨Nat.zero_le _, fun tl ntl => ?_⟩
      obtain ⟨HB, eB, sB, htl⟩ := fresh (.lst ([] : List V)) ntl
      rw [eB]
      have nF' : H F = none := s1.free nF
      have Ftl : F ≠ tl := ne_of_none hFA ntl
      refine ⟨_, rfl, _, _, rfl, rfl, _, _, rfl, rfl, ⟨by omega, by omega, by decide⟩, _, rfl, _, rfl, _, _, rfl, rfl, _, _, rfl, rfl, ⟨by omega, by omega, by decide⟩, _, _, rfl, rfl, (by show 2 ≤ sizeLine; decide), fun sl nsl => ?_⟩
      walk_at "b"
      rw [eZ1, Int.one_mul]
      obtain ⟨HC, eC, sC, hsl⟩ := fresh (.lst [V.int (-(2 ^ (dd - 1))), .int (2 ^ (dd - 1) - 1)]) nsl
      rw [eC]
      have sAC := (sA.trans sB).trans sC
      have tlC : HC tl = some (.lst ([] : List V)) := sC _ _ htl
      generalize hlo : -((2 : Int) ^ (dd - 1)) = z1 at *
      generalize hhi : (2 : Int) ^ (dd - 1) - 1 = z2 at *
      have hFC := sC _ _ (sB _ _ hFA)
      have sltl : sl ≠ tl := (ne_of_none htl nsl).symm
      have Hn : ∀ c, H c = none → True := fun _ _ => trivial
      refine ⟨sl, rfl, ⟨_, .inl (.inl hsl)⟩, for_list (K := K) (a := sl) (xs := [V.int z1, .int z2]) (fun j σ HD => ∃ v8 v9 : Option V, σ = [some (.ref a), some (.int dd), some (.ref b), some (.int k), some (.int l), some (.int ws.length), some (.ref F), some (.ref tl), v8, v9] ∧ (∀ c o, c ≠ tl → HC c = some o → HD c = some o) ∧ HD tl = some (.lst (([V.int (hungF ws sh row k l z1), .int (hungF ws sh row k l z2)] : List V).take j))) ⟨v8, v9, rfl, fun _ _ _ h => h, tlC⟩ (fun j σ HD _ ⟨_, _, _, s, _⟩ => .inl (.inl (s _ _ sltl hsl))) ?_ ?_⟩
      · rintro j x σ HD hx ⟨v8, v9, rfl, keep, hT⟩
        have hj : j < 2 := (List.getElem?_eq_some_iff.mp hx).1
        obtain ⟨z, rfl, hz⟩ : ∃ z : Int, x = .int z ∧ ([V.int (hungF ws sh row k l z1), .int (hungF ws sh row k l z2)] : List V)[j]? = some (.int (hungF ws sh row k l z)) := by
          rcases j with _ | _ | j
          · cases hx; exact ⟨z1, rfl, rfl⟩
          · cases hx; exact ⟨z2, rfl, rfl⟩
          · omega
        have sAD : Same HA HD := fun c o h => keep c o (ne_of_none h ntl) (sC _ _ (sB _ _ h))
        have hbD := sAD _ _ (sA _ _ hb)
        refine ⟨_, rfl, _, rfl, _, rfl, _, _, rfl, rfl, _, rfl, _, rfl, _, rfl, b, _, rfl, .inl (.inl hbD), fun c nc => ?_⟩
        rw [show ((l : Int) - (ws.length : Int)) = ((l - ws.length : Nat) : Int) by omega, cut_mid _ _ _ (by omega) (by rw [List.length_map]; omega), ← List.map_take, ← List.map_drop]
        have lB : ((row.take l).drop (l - ws.length)).length = ws.length := by rw [List.length_drop, List.length_take]; omega
        have hp3 := hung_part (ws := ws) (row := row) (sh := sh) (k := k) (l := l) (s := z) (by omega) (by omega) (by omega) (by omega)
        generalize (row.take l).drop (l - ws.length) = B at *
        obtain ⟨HE, eE, sE, hc⟩ := fresh (.lst (B.map V.int)) nc
        rw [eE]
        refine ⟨c, _, rfl, .inl (.inl (.inl hc)), fun bf nbf => ?_⟩
        obtain ⟨HF, eF, sF, hbf⟩ := fresh (.lst (B.map V.int)) nbf
        rw [eF]
        have sDE := sE
        refine ⟨_, rfl, _, rfl, _, rfl, _, rfl, _, _, rfl, rfl, _, rfl, _, _, rfl, rfl, bf, _, _, k + ws.length - l, rfl, rfl, hbf, ?_, ?_⟩
        · unfold ixN
          rw [if_pos (by omega), if_pos (by rw [List.length_map]; omega)]
          exact congrArg some (by omega)
        have kG : ∀ c o, HE c = some o → upd HF bf (.lst ((B.map V.int).set (k + ws.length - l) (.int z))) c = some o := fun c o h => by
          rw [upd_ne (ne_of_none h nbf)]
          exact sF _ _ h
        have hbG : upd HF bf (.lst ((B.map V.int).set (k + ws.length - l) (.int z))) bf = some (.lst ((B.set (k + ws.length - l) z).map V.int)) := by
          rw [upd_same, List.map_set]
        generalize upd HF bf (.lst ((B.map V.int).set (k + ws.length - l) (.int z))) = HG at *
        have sAG : Same HA HG := fun c o h => kG c o (sE _ _ (sAD _ _ h))
        have hTG := kG _ _ (sE _ _ hT)
        refine ⟨_, rfl, .inl ⟨rfl, _, .inl (.inl hTG)⟩, _, rfl, _, rfl, a, bf, ws, sh, _, rfl, (hG.same sA).same sAG, .inl (.inl hbG), by rw [List.length_set]; omega, fun HI sI => ?_⟩
        refine ⟨tl, _, _, rfl, rfl, sI _ _ hTG, by rw [List.length_take]; exact Nat.lt_of_le_of_lt (Nat.min_le_right _ _) (by show 2 < sizeLine; decide), ?_⟩
        refine ⟨_, _, rfl, fun c o nc' h => ?_, ?_⟩
        · rw [upd_ne nc']
          exact sI _ _ (kG _ _ (sE _ _ (keep c o nc' h)))
        · rw [upd_same, List.take_add_one, hz, ← hp3]
          rfl
      · rintro σ HD ⟨v8, v9, rfl, keep, hT⟩
        have sAD : Same HA HD := fun c o h => keep c o (ne_of_none h ntl) (sC _ _ (sB _ _ h))
        have hT2 : HD tl = some (.lst [V.int (hungF ws sh row k l z1), .int (hungF ws sh row k l z2)]) := hT
        have hFD := sAD _ _ hFA
        refine ⟨_, rfl, tl, _, _, _, rfl, rfl, .inl (.inl hT2), atI_nat (j := 0) rfl, _, rfl, tl, _, _, _, rfl, rfl, .inl (.inl hT2), atI_nat (j := 1) rfl, rfl, _, rfl, ?_⟩
        by_cases c : hungF ws sh row k l z1 = hungF ws sh row k l z2
        · refine iteENF c ⟨_, _, _, _, rfl, sA.trans sAD, ?_⟩
          rw [hFD, take_filter hla, decide_eq_false (fun z => z c), if_neg Bool.false_ne_true, List.append_nil]
        · refine iteENT c ⟨_, rfl, .inl ⟨rfl, _, .inl (.inl hFD)⟩, _, rfl, F, _, _, rfl, rfl, hFD, ?_, _, _, _, _, rfl, same_over nF' (sA.trans sAD), ?_⟩
          · rw [nV_len, List.length_cons]
            exact small1000 (by have h1 := List.length_filter_le (fun l => decide (hungF ws sh row k l z1 ≠ hungF ws sh row k l z2)) ((lateL ws.length k row.length).take i); rw [List.length_take, eL] at h1; omega)
          · rw [upd_same, take_filter hla, decide_eq_true c, if_pos rfl]
            unfold nV
            rw [← List.cons_append, List.map_append]
            rfl
    · rintro σ HA ⟨v4, v7, v8, v9, rfl, sA, hFA⟩
      rw [List.take_of_length_le (by rw [eL]; omega)] at hFA
      exact ⟨_, rfl, q _ F sA (s1.free nF) hFA⟩
end
end My

namespace My
open PySem PySem.Spec PyProof.Rows L2 Pre
/-! ### guessers refused: doors -/
/-- what is shown of a thing, an empty dict, too -/
def ShwX (K : PySem.W.Frag) (H : Hp) (x : V) (t : Str) : Prop := Shw K H x t ∨ ∃ a : Addr, x = .ref a ∧ H a = some (.dK []) ∧ t = (PyData.dict []).shown
theorem ShwX.same {K : PySem.W.Frag} {H H' : Hp} {x : V} {t : Str} (s : Same H H') (h : ShwX K H x t) : ShwX K H' x t := by
  rcases h with h | ⟨a, e, ha, k⟩
  · exact .inl (h.same s)
  · exact .inr ⟨a, e, s _ _ ha, k⟩
theorem ShwX.repr {K : PySem.W.Frag} {H : Hp} {x : V} {t : Str} {Q : VK} (h : ShwX K H x t) (q : Q (.str t) H) : rReprX K [x] H Q := by
  rcases h with h | ⟨a, rfl, ha, rfl⟩
  · exact h.repr q
  · exact .inr ⟨a, rfl, ha, q⟩
theorem shx_ok {K : PySem.W.Frag} {H : Hp} {x : V} {d : PyData} (hd : Dp K H x d) (h : (d.showable && SeqAt.shaped d && decide (d.shown.length ≤ sizeLine) && PyData.strOk d.shown) = true) : ∃ t, ShwX K H x t ∧ PyData.strOk t = true := by
  obtain ⟨t, h1, h2⟩ := shw_ok hd h
  exact ⟨t, .inl h1, h2⟩
theorem shx_dict {K : PySem.W.Frag} {H : Hp} {a : Addr} (h : H a = some (.dK [])) : ∃ t, ShwX K H (.ref a) t ∧ PyData.strOk t = true := ⟨_, .inr ⟨a, rfl, h, rfl⟩, by decide +kernel⟩
def BadI (K : PySem.W.Frag) (H : Hp) (o t : V) (kind : Nat) (x : V) : Prop :=
  ((NoL K H o ∨ ∃ (a : Addr) (xs : List V), o = .ref a ∧ H a = some (.lst xs) ∧ 8 < xs.length ∧ xs.length ≤ 1000) ∧ kind = 0 ∧ x = o) ∨
  (∃ (a : Addr) (ks : List Int) (y : V) (r : List V), o = .ref a ∧ H a = some (.lst (ks.map V.int ++ y :: r)) ∧ ks.length + r.length < 8 ∧ (∀ n ∈ ks, -32768 ≤ n ∧ n ≤ 32768) ∧ NumV K H y (-32768) (some 32768) false ∧ kind = 1 ∧ x = y) ∨
  (∃ (a : Addr) (ws : List Int), o = .ref a ∧ H a = some (.lst (ws.map V.int)) ∧ Weights ws ∧ NumV K H t 0 (some 15) false ∧ kind = 2 ∧ x = t)
theorem BadI.same {K : PySem.W.Frag} {H H' : Hp} {o t : V} {kind : Nat} {x : V} (s : Same H H') (h : BadI K H o t kind x) : BadI K H' o t kind x := by
  rcases h with ⟨h | ⟨a, xs, e, h, k⟩, r⟩ | ⟨a, ks, y, r, e, h, hl, hk, hy, z⟩ | ⟨a, ws, e, h, hW, hu, z⟩
  · exact .inl ⟨.inl (h.same s), r⟩
  · exact .inl ⟨.inr ⟨a, xs, e, s _ _ h, k⟩, r⟩
  · exact .inr (.inl ⟨a, ks, y, r, e, s _ _ h, hl, hk, hy.same s, z⟩)
  · exact .inr (.inr ⟨a, ws, e, s _ _ h, hW, hu.same s, z⟩)
def BadT (K : PySem.W.Frag) (C : Addr) (H : Hp) (o t : V) (kind : Nat) (x : V) : Prop := (NoG K H o ∧ kind = 3 ∧ x = o) ∨ (IsG C H o ∧ BadB K H 0 t ∧ kind = 5 ∧ x = t)
theorem BadT.same {K : PySem.W.Frag} {C : Addr} {H H' : Hp} {o t : V} {kind : Nat} {x : V} (s : Same H H') (h : BadT K C H o t kind x) : BadT K C H' o t kind x := by
  rcases h with ⟨h, e⟩ | ⟨h, k, e⟩
  · exact .inl ⟨h.same s, e⟩
  · exact .inr ⟨h.same s, k.same s, e⟩
def BadGG (K : PySem.W.Frag) (C : Addr) (H : Hp) (o t : V) (kind : Nat) (x : V) : Prop := (NoG K H o ∧ kind = 3 ∧ x = o) ∨ (IsG C H o ∧ NoG K H t ∧ kind = 3 ∧ x = t)
theorem BadGG.same {K : PySem.W.Frag} {C : Addr} {H H' : Hp} {o t : V} {kind : Nat} {x : V} (s : Same H H') (h : BadGG K C H o t kind x) : BadGG K C H' o t kind x := by
  rcases h with ⟨h, e⟩ | ⟨h, k, e⟩
  · exact .inl ⟨h.same s, e⟩
  · exact .inr ⟨h.same s, k.same s, e⟩
def BadGD (K : PySem.W.Frag) (C : Addr) (H : Hp) (o t : V) (kind : Nat) (x : V) : Prop := (NoG K H o ∧ kind = 3 ∧ x = o) ∨ (IsG C H o ∧ NumV K H t 1 (some 32) false ∧ kind = 4 ∧ x = t)
theorem BadGD.same {K : PySem.W.Frag} {C : Addr} {H H' : Hp} {o t : V} {kind : Nat} {x : V} (s : Same H H') (h : BadGD K C H o t kind x) : BadGD K C H' o t kind x := by
  rcases h with ⟨h, e⟩ | ⟨h, k, e⟩
  · exact .inl ⟨h.same s, e⟩
  · exact .inr ⟨h.same s, k.same s, e⟩
def BadQ (K : PySem.W.Frag) (C : Addr) (H : Hp) (o t : V) (kind : Nat) (x : V) : Prop := (NoG K H o ∧ kind = 3 ∧ x = o) ∨ ∃ (a : Addr) (ws : List Int) (sh : Nat), o = .ref a ∧ GuesserAt C H a ws sh ∧ BadB K H ws.length t ∧ kind = 5 ∧ x = t
theorem BadQ.same {K : PySem.W.Frag} {C : Addr} {H H' : Hp} {o t : V} {kind : Nat} {x : V} (s : Same H H') (h : BadQ K C H o t kind x) : BadQ K C H' o t kind x := by
  rcases h with ⟨h, e⟩ | ⟨a, ws, sh, e, h, k, r⟩
  · exact .inl ⟨h.same s, e⟩
  · exact .inr ⟨a, ws, sh, e, h.same s, k.same s, r⟩
def BadH (K : PySem.W.Frag) (C : Addr) (H : Hp) (o t r f : V) (kind : Nat) (x : V) : Prop := BadGDR K C H o t r kind x ∨ ∃ (a b : Addr) (ws : List Int) (sh dd : Nat) (row : List Int), o = .ref a ∧ t = .int dd ∧ r = .ref b ∧ GuesserAt C H a ws sh ∧ H b = some (.lst (row.map V.int)) ∧ 1 ≤ dd ∧ dd ≤ 24 ∧ Smp dd row ∧ row.length ≤ 100 ∧ NumV K H f 0 (some ((row.length : Int) - 1)) false ∧ kind = 2 ∧ x = f
theorem BadH.same {K : PySem.W.Frag} {C : Addr} {H H' : Hp} {o t r f : V} {kind : Nat} {x : V} (s : Same H H') (h : BadH K C H o t r f kind x) : BadH K C H' o t r f kind x := by
  rcases h with h | ⟨a, b, ws, sh, dd, row, e1, e2, e3, hG, hb, d1, d2, hs, hl, hN, k⟩
  · exact .inl (h.same s)
  · exact .inr ⟨a, b, ws, sh, dd, row, e1, e2, e3, hG.same s, s _ _ hb, d1, d2, hs, hl, hN.same s, k⟩
/-- what a door refuses -/
def Refuse (K : PySem.W.Frag) (C : Addr) (H : Hp) (k : Nat) (o t r f : V) (kind : Nat) (x : V) : Prop :=
  (k = 0 ∧ BadI K H o t kind x) ∨ (k = 1 ∧ BadQ K C H o t kind x) ∨ (k = 2 ∧ BadGDR K C H o t r kind x) ∨ (k = 3 ∧ BadGDR K C H o t r kind x) ∨ (k = 4 ∧ BadT K C H o t kind x) ∨ (k = 5 ∧ BadGG K C H o t kind x) ∨ (k = 6 ∧ BadGG K C H o t kind x) ∨
  (k = 7 ∧ BadGD K C H o t kind x) ∨ (k = 8 ∧ BadGD K C H o t kind x) ∨ (k = 9 ∧ BadGD K C H o t kind x) ∨ (k = 10 ∧ BadT K C H o t kind x) ∨ (k = 11 ∧ BadH K C H o t r f kind x) ∨ (k = 12 ∧ NoG K H o ∧ kind = 3 ∧ x = o) ∨ (k = 13 ∧ NumV K H o 0 (some 8) false ∧ kind = 2 ∧ x = o)
theorem Refuse.same {K : PySem.W.Frag} {C : Addr} {H H' : Hp} {k : Nat} {o t r f : V} {kind : Nat} {x : V} (s : Same H H') (h : Refuse K C H k o t r f kind x) : Refuse K C H' k o t r f kind x := by
  unfold Refuse at h ⊢
  rcases h with ⟨e, h⟩ | ⟨e, h⟩ | ⟨e, h⟩ | ⟨e, h⟩ | ⟨e, h⟩ | ⟨e, h⟩ | ⟨e, h⟩ | ⟨e, h⟩ | ⟨e, h⟩ | ⟨e, h⟩ | ⟨e, h⟩ | ⟨e, h⟩ | ⟨e, h, z⟩ | ⟨e, h, z⟩
  · exact .inl ⟨e, h.same s⟩
  · exact .inr (.inl ⟨e, h.same s⟩)
  · exact .inr (.inr (.inl ⟨e, h.same s⟩))
  · exact .inr (.inr (.inr (.inl ⟨e, h.same s⟩)))
  · exact .inr (.inr (.inr (.inr (.inl ⟨e, h.same s⟩))))
  · exact .inr (.inr (.inr (.inr (.inr (.inl ⟨e, h.same s⟩)))))
  · exact .inr (.inr (.inr (.inr (.inr (.inr (.inl ⟨e, h.same s⟩))))))
  · exact .inr (.inr (.inr (.inr (.inr (.inr (.inr (.inl ⟨e, h.same s⟩)))))))
  · exact .inr (.inr (.inr (.inr (.inr (.inr (.inr (.inr (.inl ⟨e, h.same s⟩))))))))
  · exact .inr (.inr (.inr (.inr (.inr (.inr (.inr (.inr (.inr (.inl ⟨e, h.same s⟩)))))))))
  · exact .inr (.inr (.inr (.inr (.inr (.inr (.inr (.inr (.inr (.inr (.inl ⟨e, h.same s⟩))))))))))
  · exact .inr (.inr (.inr (.inr (.inr (.inr (.inr (.inr (.inr (.inr (.inr (.inl ⟨e, h.same s⟩)))))))))))
  · exact .inr (.inr (.inr (.inr (.inr (.inr (.inr (.inr (.inr (.inr (.inr (.inr (.inl ⟨e, h.same s, z⟩))))))))))))
  · exact .inr (.inr (.inr (.inr (.inr (.inr (.inr (.inr (.inr (.inr (.inr (.inr (.inr (⟨e, h.same s, z⟩)))))))))))))
local macro_rules | `(tactic| walk_at "go") => `(tactic| repeat (first | (with_reducible first | refine iteT ?_ | refine iteF ?_ | refine iteNtt ?_ | refine iteNff ?_ | refine iteET (by omega) ?_ | refine iteEF (by omega) ?_ | refine iteENT (by omega) ?_ | refine iteENF (by omega) ?_ | refine iteDT (by omega) ?_ | refine iteDF (by omega) ?_ | refine iteNT (by omega) ?_ | refine iteNF (by omega) ?_) | refine ⟨_, rfl, ?_⟩ | refine ⟨_, _, rfl, rfl, ?_⟩ | refine ⟨_, _, rfl, ?_⟩ | refine ⟨rfl, ?_⟩ | refine .inl ⟨_, rfl, ?_⟩ | refine .inr ⟨_, rfl, ?_⟩))
local macro_rules | `(tactic| walk_at "b") => `(tactic| try dsimp (config := { proj := false, iota := false, eta := false, zeta := false }) only)
section
variable {P : Program} {w : World} {K : PySem.W.Frag} {mg : Str → Option Value} {base : Heap} [pf : Sup.PF P fileS]
def sp_law_caught (K : PySem.W.Frag) (C : Addr) : Sp := fun vs H Q _ => ∃ (k : Nat) (o t r f : V) (kind : Nat) (x : V) (tt : Str), vs = [.int k, o, t, r, f] ∧ Refuse K C H k o t r f kind x ∧ ShwX K H x tt ∧ ∀ H' p, Same H H' → H p = none → H' p = some (.lst [.int kind, .str tt]) → Q (.ref p) H'
theorem G_law_caught (T : Top K mg) : FnG P w K mg base CX0 14 T.f_law_caught T.fd_law_caught ["_law_door", "_law_one", "_law_two", "_law_three", "_law_four"] (sp_law_caught K T.C_Guesser) := by
  refine FnG.body T.F_law_caught sc_law_caught (fun vs H Q E h => by obtain ⟨k, o, t, r, f, kind, x, tt, rfl, _⟩ := h; rfl) (fun cdv A outer s H vs Q E gd hr h => ?_)
  obtain ⟨k, o, t, r, f, kind, x, tt, rfl, h, hS, q⟩ := h
  refine ⟨_, PSs.nox (pss_cons (ps_set (i := 5) sc_law_caught.nd rfl (by first | exact Or.inl rfl | exact Or.inr rfl) pe_non)
  (pss_cons (ps_try_keep (i := 6) rfl rfl rfl sc_law_caught.nd rfl rfl takes_none5 (fun W pn xe tk po => (pss_one (ps_if (pt_cmpR op_eq (pv 0) pe_int (nomark _))
    (pss_one (ps_expr (pe_makeU T.mk_Guesser (G_Guesser___init__ (P := P) T) (hr.mono (by decide)) (by rfl) T.gc_Guesser T.b_Guesser___init__ (fun σ => passAt tk σ) (pa_cons (pv 1) (pa_cons (pv 2) pa_nil)))))
    (pss_one (ps_if (pt_cmpR op_eq (pv 0) pe_int (nomark _))
    (pss_one (ps_expr (pe_callS (G_guess (P := P) T) (hr.mono (by decide)) (by rfl) T.g_guess T.F_guess.kp T.b_guess (fun σ => passAt tk σ) (pa_cons (pv 1) (pa_cons (pv 2) pa_nil)))))
    (pss_one (ps_if (pt_cmpR op_lt (pv 0) pe_int (nomark _))
    (pss_one (ps_expr (pe_callU P w K mg base rfl rfl rfl rfl rfl (k := 12) (hr.mono (by decide)) (pe_ix (k_ixL K rfl) (pe_lst (pa_cons (pe_glob (v := .ref T.f_rests) (by rfl) T.g_rests rfl) (pa_cons (pe_glob (v := .ref T.f_row_of) (by rfl) T.g_row_of rfl) pa_nil))) (pe_op op_sub (pv 0) pe_int) (fun _ _ => rfl)) (fun σ => passAt tk σ) (pa_cons (pv 1) (pa_cons (pv 2) (pa_cons (pv 3) pa_nil))))))
    (pss_one (ps_if (pt_cmpR op_eq (pv 0) pe_int (nomark _))
    (pss_one (ps_expr (pe_callS (G_plain_rests (P := P) T) (hr.mono (by decide)) (by rfl) T.g_plain_rests T.F_plain_rests.kp T.b_plain_rests (fun σ => passAt tk σ) (pa_cons (pv 1) (pa_cons (pv 2) pa_nil)))))
    (pss_one (ps_if (pt_cmpR op_lt (pv 0) pe_int (nomark _))
    (pss_one (ps_expr (pe_callU P w K mg base rfl rfl rfl rfl rfl (k := 12) (hr.mono (by decide)) (pe_ix (k_ixL K rfl) (pe_lst (pa_cons (pe_glob (v := .ref T.f_same_guess) (by rfl) T.g_same_guess rfl) (pa_cons (pe_glob (v := .ref T.f_parting_row) (by rfl) T.g_parting_row rfl) pa_nil))) (pe_op op_sub (pv 0) pe_int) (fun _ _ => rfl)) (fun σ => passAt tk σ) (pa_cons (pv 1) (pa_cons (pv 2) pa_nil)))))
    (pss_one (ps_if (pt_cmpR op_lt (pv 0) pe_int (nomark _))
    (pss_one (ps_expr (pe_callU P w K mg base rfl rfl rfl rfl rfl (k := 12) (hr.mono (by decide)) (pe_ix (k_ixL K rfl) (pe_lst (pa_cons (pe_glob (v := .ref T.f_bounds) (by rfl) T.g_bounds rfl) (pa_cons (pe_glob (v := .ref T.f_bound_rows) (by rfl) T.g_bound_rows rfl) (pa_cons (pe_glob (v := .ref T.f_bits_enough) (by rfl) T.g_bits_enough rfl) pa_nil)))) (pe_op op_sub (pv 0) pe_int) (fun _ _ => rfl)) (fun σ => passAt tk σ) (pa_cons (pv 1) (pa_cons (pv 2) pa_nil)))))
    (pss_one (ps_if (pt_cmpR op_eq (pv 0) pe_int (nomark _))
    (pss_one (ps_expr (pe_callS (G_tells (P := P) T) (hr.mono (by decide)) (by rfl) T.g_tells T.F_tells.kp T.b_tells (fun σ => passAt tk σ) (pa_cons (pv 1) (pa_cons (pv 2) pa_nil)))))
    (pss_one (ps_if (pt_cmpR op_eq (pv 0) pe_int (nomark _))
    (pss_one (ps_expr (pe_callS (G_hangs (P := P) T) (hr.mono (by decide)) (by rfl) T.g_hangs T.F_hangs.kp T.b_hangs (fun σ => passAt tk σ) (pa_cons (pv 1) (pa_cons (pv 2) (pa_cons (pv 3) (pa_cons (pv 4) pa_nil)))))))
    (pss_one (ps_expr (pe_callU P w K mg base rfl rfl rfl rfl rfl (k := 12) (hr.mono (by decide)) (pe_ix (k_ixL K rfl) (pe_lst (pa_cons (pe_glob (v := .ref T.f_normal) (by rfl) T.g_normal rfl) (pa_cons (pe_glob (v := .ref T.f_steps) (by rfl) T.g_steps rfl) pa_nil))) (pe_op op_sub (pv 0) pe_int) (fun _ _ => rfl)) (fun σ => passAt tk σ) (pa_cons (pv 1) pa_nil)))))))))))))))))))))
    (HdsAs.cons ⟨by rfl, by decide, .inl T.gc_SoundError⟩ (fun a oe cls d pn hz hf => (pss_one (ps_set (i := 5) sc_law_caught.nd rfl (by first | exact Or.inl rfl | exact Or.inr rfl) (pv 6)))) HdsAs.nil))
  (pss_cons (ps_if (pt_cmpR op_isN (pv 5) pe_non (nomark _))
    (pss_one (ps_ret pe_non))
    pss_nil)
  (pss_cons (ps_set (i := 7) sc_law_caught.nd rfl (by first | exact Or.inl rfl | exact Or.inr rfl) (pe_lst (pa_cons (pe_callB (k_isiE K rfl) (by rfl) T.n_isinstance (by decide +kernel) (pa_cons (pv 5) (pa_cons (pe_glob (v := .ref T.C_InvalidList) rfl T.gc_InvalidList rfl) pa_nil))) (pa_cons (pe_callB (k_isiE K rfl) (by rfl) T.n_isinstance (by decide +kernel) (pa_cons (pv 5) (pa_cons (pe_glob (v := .ref T.C_InvalidItem) rfl T.gc_InvalidItem rfl) pa_nil))) (pa_cons (pe_callB (k_isiE K rfl) (by rfl) T.n_isinstance (by decide +kernel) (pa_cons (pv 5) (pa_cons (pe_glob (v := .ref T.C_InvalidNumber) rfl T.gc_InvalidNumber rfl) pa_nil))) pa_nil)))))
  (pss_cons (ps_set (i := 7) sc_law_caught.nd rfl (by first | exact Or.inl rfl | exact Or.inr rfl) (pe_op op_cat (pv 7) (pe_lst (pa_cons (pe_callB (k_isiE K rfl) (by rfl) T.n_isinstance (by decide +kernel) (pa_cons (pv 5) (pa_cons (pe_glob (v := .ref T.C_InvalidGuesser) rfl T.gc_InvalidGuesser rfl) pa_nil))) (pa_cons (pe_callB (k_isiE K rfl) (by rfl) T.n_isinstance (by decide +kernel) (pa_cons (pv 5) (pa_cons (pe_glob (v := .ref T.C_InvalidDepth) rfl T.gc_InvalidDepth rfl) pa_nil))) (pa_cons (pe_callB (k_isiE K rfl) (by rfl) T.n_isinstance (by decide +kernel) (pa_cons (pv 5) (pa_cons (pe_glob (v := .ref T.C_InvalidRow) rfl T.gc_InvalidRow rfl) pa_nil))) pa_nil))))))
  (pss_one (ps_ret (pe_lst (pa_cons (pe_bm PySem.F.plainAttrs_list PySem.F.slot_list_index PySem.F.type_list_index (k_index K rfl) (pv 7) (pa_cons pe_bl pa_nil)) (pa_cons (pe_callB (k_reprX K rfl gd (hu65 hr)) (by rfl) T.n_repr (by decide +kernel) (pa_cons (pe_xfK (pv 5)) pa_nil)) pa_nil)))))))))), ?_⟩
  have no0 : ∀ (m : Nat) (z' : V), m < 0 → [V.bl true, .bl false, .bl false, .bl false, .bl false, .bl false][m]? = some z' → eqV z' (.bl true) = false := fun m z' h e =>
    match m, h, e with
    | m + 0, h, _ => absurd h (by omega)
  have no1 : ∀ (m : Nat) (z' : V), m < 1 → [V.bl false, .bl true, .bl false, .bl false, .bl false, .bl false][m]? = some z' → eqV z' (.bl true) = false := fun m z' h e =>
    match m, h, e with
    | 0, _, e => by cases e; rfl
    | m + 1, h, _ => absurd h (by omega)
  have no2 : ∀ (m : Nat) (z' : V), m < 2 → [V.bl false, .bl false, .bl true, .bl false, .bl false, .bl false][m]? = some z' → eqV z' (.bl true) = false := fun m z' h e =>
    match m, h, e with
    | 0, _, e => by cases e; rfl
    | 1, _, e => by cases e; rfl
    | m + 2, h, _ => absurd h (by omega)
  have no3 : ∀ (m : Nat) (z' : V), m < 3 → [V.bl false, .bl false, .bl false, .bl true, .bl false, .bl false][m]? = some z' → eqV z' (.bl true) = false := fun m z' h e =>
    match m, h, e with
    | 0, _, e => by cases e; rfl
    | 1, _, e => by cases e; rfl
    | 2, _, e => by cases e; rfl
    | m + 3, h, _ => absurd h (by omega)
  have no4 : ∀ (m : Nat) (z' : V), m < 4 → [V.bl false, .bl false, .bl false, .bl false, .bl true, .bl false][m]? = some z' → eqV z' (.bl true) = false := fun m z' h e =>
    match m, h, e with
    | 0, _, e => by cases e; rfl
    | 1, _, e => by cases e; rfl
    | 2, _, e => by cases e; rfl
    | 3, _, e => by cases e; rfl
    | m + 4, h, _ => absurd h (by omega)
  have no5 : ∀ (m : Nat) (z' : V), m < 5 → [V.bl false, .bl false, .bl false, .bl false, .bl false, .bl true][m]? = some z' → eqV z' (.bl true) = false := fun m z' h e =>
    match m, h, e with
    | 0, _, e => by cases e; rfl
    | 1, _, e => by cases e; rfl
    | 2, _, e => by cases e; rfl
    | 3, _, e => by cases e; rfl
    | 4, _, e => by cases e; rfl
    | m + 5, h, _ => absurd h (by omega)
  rcases h with ⟨rfl, h⟩ | ⟨rfl, h⟩ | ⟨rfl, h⟩ | ⟨rfl, h⟩ | ⟨rfl, h⟩ | ⟨rfl, h⟩ | ⟨rfl, h⟩ | ⟨rfl, h⟩ | ⟨rfl, h⟩ | ⟨rfl, h⟩ | ⟨rfl, h⟩ | ⟨rfl, h⟩ | ⟨rfl, h⟩ | ⟨rfl, h⟩
  · refine ⟨_, rfl, rfl, _, rfl, iteET (by decide) ?_⟩
    rcases h with ⟨hN | ⟨a, xs, rfl, ha, h8, hz⟩, rfl, rfl⟩ | ⟨a, ks, y, r, rfl, ha, hl, hks, hy, rfl, e0⟩ | ⟨a, ws, rfl, ha, hW, hu, rfl, rfl⟩
    · refine ⟨_, rfl, _, rfl, ?_⟩
      intro z0 dz0 nz0 ndz0 nez
      have s1 : Same H (upd (upd H dz0 (.own z0)) z0 (.ins T.C_Guesser dz0 [])) := fun b o e => by
        rw [upd_ne (ne_of_none e nz0), upd_ne (ne_of_none e ndz0)]
        exact e
      refine ⟨z0, dz0, _, _, rfl, upd_same, .inr (.inl ⟨.inl (hN.same s1), fun H2 dd s2 nd => ?_⟩)⟩
      have s2 := s1.trans s2
      refine ⟨true, T.em_InvalidList_SoundError, fun _ ae nae => ?_, fun z => nomatch z⟩
      have hdd : upd (upd H2 dd (.xd [(Str.ofString "value", x)])) ae (ExK (.ref T.C_InvalidList) (some dd) ae) dd = some (.xd [(Str.ofString "value", x)]) := by
        rw [upd_ne (ne_of_none upd_same nae), upd_same]
      have hae : upd (upd H2 dd (.xd [(Str.ofString "value", x)])) ae (ExK (.ref T.C_InvalidList) (some dd) ae) ae = some (ExK (.ref T.C_InvalidList) (some dd) ae) := upd_same
      have s3 := (s2.trans (same_upd (o := .xd [(Str.ofString "value", x)]) nd)).trans (same_upd (o := ExK (.ref T.C_InvalidList) (some dd) ae) nae)
      refine ⟨_, rfl, _, rfl, rfl, _, rfl, iteDF (fun z => nomatch z) ⟨_, rfl, .inr ⟨ae, _, dd, _, _, _, _, rfl, hae, hdd, T.ei_InvalidList, .own _, T.ki_InvalidList_InvalidList, _, rfl, .inr ⟨ae, _, dd, _, _, _, _, rfl, hae, hdd, T.ei_InvalidList, .own _, T.ki_InvalidList_InvalidItem, _, rfl, .inr ⟨ae, _, dd, _, _, _, _, rfl, hae, hdd, T.ei_InvalidList, .own _, T.ki_InvalidList_InvalidNumber, (by show 3 ≤ sizeLine; decide), fun L nL => ?_⟩⟩⟩⟩⟩
      obtain ⟨H3, e3, s4, hL⟩ := fresh (.lst [V.bl true, .bl false, .bl false]) nL
      rw [e3]
      refine ⟨_, rfl, _, rfl, .inr ⟨ae, _, dd, _, _, _, _, rfl, s4 _ _ hae, s4 _ _ hdd, T.ei_InvalidList, .own _, T.ki_InvalidList_InvalidGuesser, _, rfl, .inr ⟨ae, _, dd, _, _, _, _, rfl, s4 _ _ hae, s4 _ _ hdd, T.ei_InvalidList, .own _, T.ki_InvalidList_InvalidDepth, _, rfl, .inr ⟨ae, _, dd, _, _, _, _, rfl, s4 _ _ hae, s4 _ _ hdd, T.ei_InvalidList, .own _, T.ki_InvalidList_InvalidRow, (by show 3 ≤ sizeLine; decide), fun L2 nL2 => ?_⟩⟩⟩⟩
      obtain ⟨H4, e4, s5, hL2⟩ := fresh (.lst [V.bl false, .bl false, .bl false]) nL2
      rw [e4]
      refine ⟨L, L2, _, _, rfl, rfl, s5 _ _ hL, hL2, by decide, fun L3 nL3 => ?_⟩
      obtain ⟨H5, e5, s6, hL3⟩ := fresh (.lst [V.bl true, .bl false, .bl false, .bl false, .bl false, .bl false]) nL3
      rw [show upd H4 L3 (.lst ([V.bl true, .bl false, .bl false] ++ [V.bl false, .bl false, .bl false])) = H5 from e5]
      have s36 := (s4.trans s5).trans s6
      have s06 := s3.trans s36
      refine ⟨_, rfl, .inl ⟨rfl, _, .inl (.inl hL3)⟩, L3, _, .bl true, 0, .bl true, rfl, rfl, .inl (.inl hL3), rfl, rfl, rfl, rfl, no0, _, rfl, ae, _, dd, _, x, rfl, s36 _ _ hae, s36 _ _ hdd, T.er_InvalidList.xf, T.er_InvalidList.sup.nov, rfl, (hS.same s06).repr ⟨(by show 2 ≤ sizeLine; decide), fun p np => ?_⟩⟩
      exact q _ p (s06.trans (same_upd np)) (s06.free np) upd_same
    · refine ⟨_, rfl, _, rfl, ?_⟩
      intro z0 dz0 nz0 ndz0 nez
      have s1 : Same H (upd (upd H dz0 (.own z0)) z0 (.ins T.C_Guesser dz0 [])) := fun b o e => by
        rw [upd_ne (ne_of_none e nz0), upd_ne (ne_of_none e ndz0)]
        exact e
      refine ⟨z0, dz0, _, _, rfl, upd_same, .inr (.inl ⟨.inr ⟨a, xs, rfl, s1 _ _ ha, h8, hz⟩, fun H2 dd s2 nd => ?_⟩)⟩
      have s2 := s1.trans s2
      refine ⟨true, T.em_InvalidList_SoundError, fun _ ae nae => ?_, fun z => nomatch z⟩
      have hdd : upd (upd H2 dd (.xd [(Str.ofString "value", V.ref a)])) ae (ExK (.ref T.C_InvalidList) (some dd) ae) dd = some (.xd [(Str.ofString "value", V.ref a)]) := by
        rw [upd_ne (ne_of_none upd_same nae), upd_same]
      have hae : upd (upd H2 dd (.xd [(Str.ofString "value", V.ref a)])) ae (ExK (.ref T.C_InvalidList) (some dd) ae) ae = some (ExK (.ref T.C_InvalidList) (some dd) ae) := upd_same
      have s3 := (s2.trans (same_upd (o := .xd [(Str.ofString "value", V.ref a)]) nd)).trans (same_upd (o := ExK (.ref T.C_InvalidList) (some dd) ae) nae)
      refine ⟨_, rfl, _, rfl, rfl, _, rfl, iteDF (fun z => nomatch z) ⟨_, rfl, .inr ⟨ae, _, dd, _, _, _, _, rfl, hae, hdd, T.ei_InvalidList, .own _, T.ki_InvalidList_InvalidList, _, rfl, .inr ⟨ae, _, dd, _, _, _, _, rfl, hae, hdd, T.ei_InvalidList, .own _, T.ki_InvalidList_InvalidItem, _, rfl, .inr ⟨ae, _, dd, _, _, _, _, rfl, hae, hdd, T.ei_InvalidList, .own _, T.ki_InvalidList_InvalidNumber, (by show 3 ≤ sizeLine; decide), fun L nL => ?_⟩⟩⟩⟩⟩
      obtain ⟨H3, e3, s4, hL⟩ := fresh (.lst [V.bl true, .bl false, .bl false]) nL
      rw [e3]
      refine ⟨_, rfl, _, rfl, .inr ⟨ae, _, dd, _, _, _, _, rfl, s4 _ _ hae, s4 _ _ hdd, T.ei_InvalidList, .own _, T.ki_InvalidList_InvalidGuesser, _, rfl, .inr ⟨ae, _, dd, _, _, _, _, rfl, s4 _ _ hae, s4 _ _ hdd, T.ei_InvalidList, .own _, T.ki_InvalidList_InvalidDepth, _, rfl, .inr ⟨ae, _, dd, _, _, _, _, rfl, s4 _ _ hae, s4 _ _ hdd, T.ei_InvalidList, .own _, T.ki_InvalidList_InvalidRow, (by show 3 ≤ sizeLine; decide), fun L2 nL2 => ?_⟩⟩⟩⟩
      obtain ⟨H4, e4, s5, hL2⟩ := fresh (.lst [V.bl false, .bl false, .bl false]) nL2
      rw [e4]
      refine ⟨L, L2, _, _, rfl, rfl, s5 _ _ hL, hL2, by decide, fun L3 nL3 => ?_⟩
      obtain ⟨H5, e5, s6, hL3⟩ := fresh (.lst [V.bl true, .bl false, .bl false, .bl false, .bl false, .bl false]) nL3
      rw [show upd H4 L3 (.lst ([V.bl true, .bl false, .bl false] ++ [V.bl false, .bl false, .bl false])) = H5 from e5]
      have s36 := (s4.trans s5).trans s6
      have s06 := s3.trans s36
      refine ⟨_, rfl, .inl ⟨rfl, _, .inl (.inl hL3)⟩, L3, _, .bl true, 0, .bl true, rfl, rfl, .inl (.inl hL3), rfl, rfl, rfl, rfl, no0, _, rfl, ae, _, dd, _, .ref a, rfl, s36 _ _ hae, s36 _ _ hdd, T.er_InvalidList.xf, T.er_InvalidList.sup.nov, rfl, (hS.same s06).repr ⟨(by show 2 ≤ sizeLine; decide), fun p np => ?_⟩⟩
      exact q _ p (s06.trans (same_upd np)) (s06.free np) upd_same
    · subst e0
      refine ⟨_, rfl, _, rfl, ?_⟩
      intro z0 dz0 nz0 ndz0 nez
      have s1 : Same H (upd (upd H dz0 (.own z0)) z0 (.ins T.C_Guesser dz0 [])) := fun b o e => by
        rw [upd_ne (ne_of_none e nz0), upd_ne (ne_of_none e ndz0)]
        exact e
      refine ⟨z0, dz0, _, _, rfl, upd_same, .inr (.inr (.inl ⟨a, ks, _, r, rfl, s1 _ _ ha, hl, hks, hy.same s1, fun H2 dd s2 nd => ?_⟩))⟩
      have s2 := s1.trans s2
      refine ⟨true, T.em_InvalidItem_SoundError, fun _ ae nae => ?_, fun z => nomatch z⟩
      have hdd : upd (upd H2 dd (.xd [(Str.ofString "value", x)])) ae (ExK (.ref T.C_InvalidItem) (some dd) ae) dd = some (.xd [(Str.ofString "value", x)]) := by
        rw [upd_ne (ne_of_none upd_same nae), upd_same]
      have hae : upd (upd H2 dd (.xd [(Str.ofString "value", x)])) ae (ExK (.ref T.C_InvalidItem) (some dd) ae) ae = some (ExK (.ref T.C_InvalidItem) (some dd) ae) := upd_same
      have s3 := (s2.trans (same_upd (o := .xd [(Str.ofString "value", x)]) nd)).trans (same_upd (o := ExK (.ref T.C_InvalidItem) (some dd) ae) nae)
      refine ⟨_, rfl, _, rfl, rfl, _, rfl, iteDF (fun z => nomatch z) ⟨_, rfl, .inr ⟨ae, _, dd, _, _, _, _, rfl, hae, hdd, T.ei_InvalidItem, .own _, T.ki_InvalidItem_InvalidList, _, rfl, .inr ⟨ae, _, dd, _, _, _, _, rfl, hae, hdd, T.ei_InvalidItem, .own _, T.ki_InvalidItem_InvalidItem, _, rfl, .inr ⟨ae, _, dd, _, _, _, _, rfl, hae, hdd, T.ei_InvalidItem, .own _, T.ki_InvalidItem_InvalidNumber, (by show 3 ≤ sizeLine; decide), fun L nL => ?_⟩⟩⟩⟩⟩
      obtain ⟨H3, e3, s4, hL⟩ := fresh (.lst [V.bl false, .bl true, .bl false]) nL
      rw [e3]
      refine ⟨_, rfl, _, rfl, .inr ⟨ae, _, dd, _, _, _, _, rfl, s4 _ _ hae, s4 _ _ hdd, T.ei_InvalidItem, .own _, T.ki_InvalidItem_InvalidGuesser, _, rfl, .inr ⟨ae, _, dd, _, _, _, _, rfl, s4 _ _ hae, s4 _ _ hdd, T.ei_InvalidItem, .own _, T.ki_InvalidItem_InvalidDepth, _, rfl, .inr ⟨ae, _, dd, _, _, _, _, rfl, s4 _ _ hae, s4 _ _ hdd, T.ei_InvalidItem, .own _, T.ki_InvalidItem_InvalidRow, (by show 3 ≤ sizeLine; decide), fun L2 nL2 => ?_⟩⟩⟩⟩
      obtain ⟨H4, e4, s5, hL2⟩ := fresh (.lst [V.bl false, .bl false, .bl false]) nL2
      rw [e4]
      refine ⟨L, L2, _, _, rfl, rfl, s5 _ _ hL, hL2, by decide, fun L3 nL3 => ?_⟩
      obtain ⟨H5, e5, s6, hL3⟩ := fresh (.lst [V.bl false, .bl true, .bl false, .bl false, .bl false, .bl false]) nL3
      rw [show upd H4 L3 (.lst ([V.bl false, .bl true, .bl false] ++ [V.bl false, .bl false, .bl false])) = H5 from e5]
      have s36 := (s4.trans s5).trans s6
      have s06 := s3.trans s36
      refine ⟨_, rfl, .inl ⟨rfl, _, .inl (.inl hL3)⟩, L3, _, .bl true, 1, .bl true, rfl, rfl, .inl (.inl hL3), rfl, rfl, rfl, rfl, no1, _, rfl, ae, _, dd, _, x, rfl, s36 _ _ hae, s36 _ _ hdd, T.er_InvalidItem.xf, T.er_InvalidItem.sup.nov, rfl, (hS.same s06).repr ⟨(by show 2 ≤ sizeLine; decide), fun p np => ?_⟩⟩
      exact q _ p (s06.trans (same_upd np)) (s06.free np) upd_same
    · refine ⟨_, rfl, _, rfl, ?_⟩
      intro z0 dz0 nz0 ndz0 nez
      have s1 : Same H (upd (upd H dz0 (.own z0)) z0 (.ins T.C_Guesser dz0 [])) := fun b o e => by
        rw [upd_ne (ne_of_none e nz0), upd_ne (ne_of_none e ndz0)]
        exact e
      refine ⟨z0, dz0, _, _, rfl, upd_same, .inr (.inr (.inr ⟨a, ws, rfl, s1 _ _ ha, hW, hu.same s1, fun H2 dd s2 nd => ?_⟩))⟩
      have s2 := s1.trans s2
      refine ⟨true, T.em_InvalidNumber_SoundError, fun _ ae nae => ?_, fun z => nomatch z⟩
      have hdd : upd (upd H2 dd (.xd [(Str.ofString "value", x)])) ae (ExK (.ref T.C_InvalidNumber) (some dd) ae) dd = some (.xd [(Str.ofString "value", x)]) := by
        rw [upd_ne (ne_of_none upd_same nae), upd_same]
      have hae : upd (upd H2 dd (.xd [(Str.ofString "value", x)])) ae (ExK (.ref T.C_InvalidNumber) (some dd) ae) ae = some (ExK (.ref T.C_InvalidNumber) (some dd) ae) := upd_same
      have s3 := (s2.trans (same_upd (o := .xd [(Str.ofString "value", x)]) nd)).trans (same_upd (o := ExK (.ref T.C_InvalidNumber) (some dd) ae) nae)
      refine ⟨_, rfl, _, rfl, rfl, _, rfl, iteDF (fun z => nomatch z) ⟨_, rfl, .inr ⟨ae, _, dd, _, _, _, _, rfl, hae, hdd, T.ei_InvalidNumber, .own _, T.ki_InvalidNumber_InvalidList, _, rfl, .inr ⟨ae, _, dd, _, _, _, _, rfl, hae, hdd, T.ei_InvalidNumber, .own _, T.ki_InvalidNumber_InvalidItem, _, rfl, .inr ⟨ae, _, dd, _, _, _, _, rfl, hae, hdd, T.ei_InvalidNumber, .own _, T.ki_InvalidNumber_InvalidNumber, (by show 3 ≤ sizeLine; decide), fun L nL => ?_⟩⟩⟩⟩⟩
      obtain ⟨H3, e3, s4, hL⟩ := fresh (.lst [V.bl false, .bl false, .bl true]) nL
      rw [e3]
      refine ⟨_, rfl, _, rfl, .inr ⟨ae, _, dd, _, _, _, _, rfl, s4 _ _ hae, s4 _ _ hdd, T.ei_InvalidNumber, .own _, T.ki_InvalidNumber_InvalidGuesser, _, rfl, .inr ⟨ae, _, dd, _, _, _, _, rfl, s4 _ _ hae, s4 _ _ hdd, T.ei_InvalidNumber, .own _, T.ki_InvalidNumber_InvalidDepth, _, rfl, .inr ⟨ae, _, dd, _, _, _, _, rfl, s4 _ _ hae, s4 _ _ hdd, T.ei_InvalidNumber, .own _, T.ki_InvalidNumber_InvalidRow, (by show 3 ≤ sizeLine; decide), fun L2 nL2 => ?_⟩⟩⟩⟩
      obtain ⟨H4, e4, s5, hL2⟩ := fresh (.lst [V.bl false, .bl false, .bl false]) nL2
      rw [e4]
      refine ⟨L, L2, _, _, rfl, rfl, s5 _ _ hL, hL2, by decide, fun L3 nL3 => ?_⟩
      obtain ⟨H5, e5, s6, hL3⟩ := fresh (.lst [V.bl false, .bl false, .bl true, .bl false, .bl false, .bl false]) nL3
      rw [show upd H4 L3 (.lst ([V.bl false, .bl false, .bl true] ++ [V.bl false, .bl false, .bl false])) = H5 from e5]
      have s36 := (s4.trans s5).trans s6
      have s06 := s3.trans s36
      refine ⟨_, rfl, .inl ⟨rfl, _, .inl (.inl hL3)⟩, L3, _, .bl true, 2, .bl true, rfl, rfl, .inl (.inl hL3), rfl, rfl, rfl, rfl, no2, _, rfl, ae, _, dd, _, x, rfl, s36 _ _ hae, s36 _ _ hdd, T.er_InvalidNumber.xf, T.er_InvalidNumber.sup.nov, rfl, (hS.same s06).repr ⟨(by show 2 ≤ sizeLine; decide), fun p np => ?_⟩⟩
      exact q _ p (s06.trans (same_upd np)) (s06.free np) upd_same
  · refine ⟨_, rfl, rfl, _, rfl, iteEF (by decide) ?_⟩
    refine ⟨_, rfl, rfl, _, rfl, iteET (by decide) ?_⟩
    rcases h with ⟨h, rfl, rfl⟩ | ⟨a, ws, sh, rfl, hG, hB, rfl, rfl⟩
    · refine ⟨_, rfl, _, rfl, _, _, rfl, .inl ⟨h, fun H2 dd s2 nd => ?_⟩⟩
      refine ⟨true, T.em_InvalidGuesser_SoundError, fun _ ae nae => ?_, fun z => nomatch z⟩
      have hdd : upd (upd H2 dd (.xd [(Str.ofString "value", x)])) ae (ExK (.ref T.C_InvalidGuesser) (some dd) ae) dd = some (.xd [(Str.ofString "value", x)]) := by
        rw [upd_ne (ne_of_none upd_same nae), upd_same]
      have hae : upd (upd H2 dd (.xd [(Str.ofString "value", x)])) ae (ExK (.ref T.C_InvalidGuesser) (some dd) ae) ae = some (ExK (.ref T.C_InvalidGuesser) (some dd) ae) := upd_same
      have s3 := (s2.trans (same_upd (o := .xd [(Str.ofString "value", x)]) nd)).trans (same_upd (o := ExK (.ref T.C_InvalidGuesser) (some dd) ae) nae)
      refine ⟨_, rfl, _, rfl, rfl, _, rfl, iteDF (fun z => nomatch z) ⟨_, rfl, .inr ⟨ae, _, dd, _, _, _, _, rfl, hae, hdd, T.ei_InvalidGuesser, .own _, T.ki_InvalidGuesser_InvalidList, _, rfl, .inr ⟨ae, _, dd, _, _, _, _, rfl, hae, hdd, T.ei_InvalidGuesser, .own _, T.ki_InvalidGuesser_InvalidItem, _, rfl, .inr ⟨ae, _, dd, _, _, _, _, rfl, hae, hdd, T.ei_InvalidGuesser, .own _, T.ki_InvalidGuesser_InvalidNumber, (by show 3 ≤ sizeLine; decide), fun L nL => ?_⟩⟩⟩⟩⟩
      obtain ⟨H3, e3, s4, hL⟩ := fresh (.lst [V.bl false, .bl false, .bl false]) nL
      rw [e3]
      refine ⟨_, rfl, _, rfl, .inr ⟨ae, _, dd, _, _, _, _, rfl, s4 _ _ hae, s4 _ _ hdd, T.ei_InvalidGuesser, .own _, T.ki_InvalidGuesser_InvalidGuesser, _, rfl, .inr ⟨ae, _, dd, _, _, _, _, rfl, s4 _ _ hae, s4 _ _ hdd, T.ei_InvalidGuesser, .own _, T.ki_InvalidGuesser_InvalidDepth, _, rfl, .inr ⟨ae, _, dd, _, _, _, _, rfl, s4 _ _ hae, s4 _ _ hdd, T.ei_InvalidGuesser, .own _, T.ki_InvalidGuesser_InvalidRow, (by show 3 ≤ sizeLine; decide), fun L2 nL2 => ?_⟩⟩⟩⟩
      obtain ⟨H4, e4, s5, hL2⟩ := fresh (.lst [V.bl true, .bl false, .bl false]) nL2
      rw [e4]
      refine ⟨L, L2, _, _, rfl, rfl, s5 _ _ hL, hL2, by decide, fun L3 nL3 => ?_⟩
      obtain ⟨H5, e5, s6, hL3⟩ := fresh (.lst [V.bl false, .bl false, .bl false, .bl true, .bl false, .bl false]) nL3
      rw [show upd H4 L3 (.lst ([V.bl false, .bl false, .bl false] ++ [V.bl true, .bl false, .bl false])) = H5 from e5]
      have s36 := (s4.trans s5).trans s6
      have s06 := s3.trans s36
      refine ⟨_, rfl, .inl ⟨rfl, _, .inl (.inl hL3)⟩, L3, _, .bl true, 3, .bl true, rfl, rfl, .inl (.inl hL3), rfl, rfl, rfl, rfl, no3, _, rfl, ae, _, dd, _, x, rfl, s36 _ _ hae, s36 _ _ hdd, T.er_InvalidGuesser.xf, T.er_InvalidGuesser.sup.nov, rfl, (hS.same s06).repr ⟨(by show 2 ≤ sizeLine; decide), fun p np => ?_⟩⟩
      exact q _ p (s06.trans (same_upd np)) (s06.free np) upd_same
    · refine ⟨_, rfl, _, rfl, _, _, rfl, .inr ⟨a, ws, sh, rfl, hG, hB, fun H2 dd s2 nd => ?_⟩⟩
      refine ⟨true, T.em_InvalidRow_SoundError, fun _ ae nae => ?_, fun z => nomatch z⟩
      have hdd : upd (upd H2 dd (.xd [(Str.ofString "value", x)])) ae (ExK (.ref T.C_InvalidRow) (some dd) ae) dd = some (.xd [(Str.ofString "value", x)]) := by
        rw [upd_ne (ne_of_none upd_same nae), upd_same]
      have hae : upd (upd H2 dd (.xd [(Str.ofString "value", x)])) ae (ExK (.ref T.C_InvalidRow) (some dd) ae) ae = some (ExK (.ref T.C_InvalidRow) (some dd) ae) := upd_same
      have s3 := (s2.trans (same_upd (o := .xd [(Str.ofString "value", x)]) nd)).trans (same_upd (o := ExK (.ref T.C_InvalidRow) (some dd) ae) nae)
      refine ⟨_, rfl, _, rfl, rfl, _, rfl, iteDF (fun z => nomatch z) ⟨_, rfl, .inr ⟨ae, _, dd, _, _, _, _, rfl, hae, hdd, T.ei_InvalidRow, .own _, T.ki_InvalidRow_InvalidList, _, rfl, .inr ⟨ae, _, dd, _, _, _, _, rfl, hae, hdd, T.ei_InvalidRow, .own _, T.ki_InvalidRow_InvalidItem, _, rfl, .inr ⟨ae, _, dd, _, _, _, _, rfl, hae, hdd, T.ei_InvalidRow, .own _, T.ki_InvalidRow_InvalidNumber, (by show 3 ≤ sizeLine; decide), fun L nL => ?_⟩⟩⟩⟩⟩
      obtain ⟨H3, e3, s4, hL⟩ := fresh (.lst [V.bl false, .bl false, .bl false]) nL
      rw [e3]
      refine ⟨_, rfl, _, rfl, .inr ⟨ae, _, dd, _, _, _, _, rfl, s4 _ _ hae, s4 _ _ hdd, T.ei_InvalidRow, .own _, T.ki_InvalidRow_InvalidGuesser, _, rfl, .inr ⟨ae, _, dd, _, _, _, _, rfl, s4 _ _ hae, s4 _ _ hdd, T.ei_InvalidRow, .own _, T.ki_InvalidRow_InvalidDepth, _, rfl, .inr ⟨ae, _, dd, _, _, _, _, rfl, s4 _ _ hae, s4 _ _ hdd, T.ei_InvalidRow, .own _, T.ki_InvalidRow_InvalidRow, (by show 3 ≤ sizeLine; decide), fun L2 nL2 => ?_⟩⟩⟩⟩
      obtain ⟨H4, e4, s5, hL2⟩ := fresh (.lst [V.bl false, .bl false, .bl true]) nL2
      rw [e4]
      refine ⟨L, L2, _, _, rfl, rfl, s5 _ _ hL, hL2, by decide, fun L3 nL3 => ?_⟩
      obtain ⟨H5, e5, s6, hL3⟩ := fresh (.lst [V.bl false, .bl false, .bl false, .bl false, .bl false, .bl true]) nL3
      rw [show upd H4 L3 (.lst ([V.bl false, .bl false, .bl false] ++ [V.bl false, .bl false, .bl true])) = H5 from e5]
      have s36 := (s4.trans s5).trans s6
      have s06 := s3.trans s36
      refine ⟨_, rfl, .inl ⟨rfl, _, .inl (.inl hL3)⟩, L3, _, .bl true, 5, .bl true, rfl, rfl, .inl (.inl hL3), rfl, rfl, rfl, rfl, no5, _, rfl, ae, _, dd, _, x, rfl, s36 _ _ hae, s36 _ _ hdd, T.er_InvalidRow.xf, T.er_InvalidRow.sup.nov, rfl, (hS.same s06).repr ⟨(by show 2 ≤ sizeLine; decide), fun p np => ?_⟩⟩
      exact q _ p (s06.trans (same_upd np)) (s06.free np) upd_same
  · refine ⟨_, rfl, rfl, _, rfl, iteEF (by decide) ?_⟩
    refine ⟨_, rfl, rfl, _, rfl, iteEF (by decide) ?_⟩
    refine ⟨_, rfl, _, _, rfl, rfl, _, rfl, iteDT (by decide) ?_⟩
    refine ⟨(by show 2 ≤ sizeLine; decide), fun fl nfl => ?_⟩
    obtain ⟨H1, e1, s1, hfl⟩ := fresh (.lst [V.ref T.f_rests, .ref T.f_row_of]) nfl
    rw [e1]
    rcases h with ⟨h, rfl, rfl⟩ | ⟨hG, ⟨h, rfl, rfl⟩ | ⟨dd, rfl, d1, d2, h, rfl, rfl⟩⟩
    · refine ⟨_, rfl, _, _, rfl, rfl, fl, _, _, _, rfl, rfl, .inl (.inl hfl), (show atI [V.ref T.f_rests, .ref T.f_row_of] (2 - 2) = some (.ref T.f_rests) from rfl), T.f_rests, _, _, _, rfl, (G_rests (P := P) T).mono (by decide), T.F_rests.kp, T.b_rests, _, rfl, _, rfl, _, rfl, _, _, _, rfl, 3, _, .inl ⟨h.same s1, rfl, rfl⟩, fun H2 dd s2 nd => ?_⟩
      have s2 := s1.trans s2
      refine ⟨true, T.em_InvalidGuesser_SoundError, fun _ ae nae => ?_, fun z => nomatch z⟩
      have hdd : upd (upd H2 dd (.xd [(Str.ofString "value", x)])) ae (ExK (.ref T.C_InvalidGuesser) (some dd) ae) dd = some (.xd [(Str.ofString "value", x)]) := by
        rw [upd_ne (ne_of_none upd_same nae), upd_same]
      have hae : upd (upd H2 dd (.xd [(Str.ofString "value", x)])) ae (ExK (.ref T.C_InvalidGuesser) (some dd) ae) ae = some (ExK (.ref T.C_InvalidGuesser) (some dd) ae) := upd_same
      have s3 := (s2.trans (same_upd (o := .xd [(Str.ofString "value", x)]) nd)).trans (same_upd (o := ExK (.ref T.C_InvalidGuesser) (some dd) ae) nae)
      refine ⟨_, rfl, _, rfl, rfl, _, rfl, iteDF (fun z => nomatch z) ⟨_, rfl, .inr ⟨ae, _, dd, _, _, _, _, rfl, hae, hdd, T.ei_InvalidGuesser, .own _, T.ki_InvalidGuesser_InvalidList, _, rfl, .inr ⟨ae, _, dd, _, _, _, _, rfl, hae, hdd, T.ei_InvalidGuesser, .own _, T.ki_InvalidGuesser_InvalidItem, _, rfl, .inr ⟨ae, _, dd, _, _, _, _, rfl, hae, hdd, T.ei_InvalidGuesser, .own _, T.ki_InvalidGuesser_InvalidNumber, (by show 3 ≤ sizeLine; decide), fun L nL => ?_⟩⟩⟩⟩⟩
      obtain ⟨H3, e3, s4, hL⟩ := fresh (.lst [V.bl false, .bl false, .bl false]) nL
      rw [e3]
      refine ⟨_, rfl, _, rfl, .inr ⟨ae, _, dd, _, _, _, _, rfl, s4 _ _ hae, s4 _ _ hdd, T.ei_InvalidGuesser, .own _, T.ki_InvalidGuesser_InvalidGuesser, _, rfl, .inr ⟨ae, _, dd, _, _, _, _, rfl, s4 _ _ hae, s4 _ _ hdd, T.ei_InvalidGuesser, .own _, T.ki_InvalidGuesser_InvalidDepth, _, rfl, .inr ⟨ae, _, dd, _, _, _, _, rfl, s4 _ _ hae, s4 _ _ hdd, T.ei_InvalidGuesser, .own _, T.ki_InvalidGuesser_InvalidRow, (by show 3 ≤ sizeLine; decide), fun L2 nL2 => ?_⟩⟩⟩⟩
      obtain ⟨H4, e4, s5, hL2⟩ := fresh (.lst [V.bl true, .bl false, .bl false]) nL2
      rw [e4]
      refine ⟨L, L2, _, _, rfl, rfl, s5 _ _ hL, hL2, by decide, fun L3 nL3 => ?_⟩
      obtain ⟨H5, e5, s6, hL3⟩ := fresh (.lst [V.bl false, .bl false, .bl false, .bl true, .bl false, .bl false]) nL3
      rw [show upd H4 L3 (.lst ([V.bl false, .bl false, .bl false] ++ [V.bl true, .bl false, .bl false])) = H5 from e5]
      have s36 := (s4.trans s5).trans s6
      have s06 := s3.trans s36
      refine ⟨_, rfl, .inl ⟨rfl, _, .inl (.inl hL3)⟩, L3, _, .bl true, 3, .bl true, rfl, rfl, .inl (.inl hL3), rfl, rfl, rfl, rfl, no3, _, rfl, ae, _, dd, _, x, rfl, s36 _ _ hae, s36 _ _ hdd, T.er_InvalidGuesser.xf, T.er_InvalidGuesser.sup.nov, rfl, (hS.same s06).repr ⟨(by show 2 ≤ sizeLine; decide), fun p np => ?_⟩⟩
      exact q _ p (s06.trans (same_upd np)) (s06.free np) upd_same
    · refine ⟨_, rfl, _, _, rfl, rfl, fl, _, _, _, rfl, rfl, .inl (.inl hfl), (show atI [V.ref T.f_rests, .ref T.f_row_of] (2 - 2) = some (.ref T.f_rests) from rfl), T.f_rests, _, _, _, rfl, (G_rests (P := P) T).mono (by decide), T.F_rests.kp, T.b_rests, _, rfl, _, rfl, _, rfl, _, _, _, rfl, 4, _, .inr ⟨hG.same s1, .inl ⟨h.same s1, rfl, rfl⟩⟩, fun H2 dd s2 nd => ?_⟩
      have s2 := s1.trans s2
      refine ⟨true, T.em_InvalidDepth_SoundError, fun _ ae nae => ?_, fun z => nomatch z⟩
      have hdd : upd (upd H2 dd (.xd [(Str.ofString "value", x)])) ae (ExK (.ref T.C_InvalidDepth) (some dd) ae) dd = some (.xd [(Str.ofString "value", x)]) := by
        rw [upd_ne (ne_of_none upd_same nae), upd_same]
      have hae : upd (upd H2 dd (.xd [(Str.ofString "value", x)])) ae (ExK (.ref T.C_InvalidDepth) (some dd) ae) ae = some (ExK (.ref T.C_InvalidDepth) (some dd) ae) := upd_same
      have s3 := (s2.trans (same_upd (o := .xd [(Str.ofString "value", x)]) nd)).trans (same_upd (o := ExK (.ref T.C_InvalidDepth) (some dd) ae) nae)
      refine ⟨_, rfl, _, rfl, rfl, _, rfl, iteDF (fun z => nomatch z) ⟨_, rfl, .inr ⟨ae, _, dd, _, _, _, _, rfl, hae, hdd, T.ei_InvalidDepth, .own _, T.ki_InvalidDepth_InvalidList, _, rfl, .inr ⟨ae, _, dd, _, _, _, _, rfl, hae, hdd, T.ei_InvalidDepth, .own _, T.ki_InvalidDepth_InvalidItem, _, rfl, .inr ⟨ae, _, dd, _, _, _, _, rfl, hae, hdd, T.ei_InvalidDepth, .own _, T.ki_InvalidDepth_InvalidNumber, (by show 3 ≤ sizeLine; decide), fun L nL => ?_⟩⟩⟩⟩⟩
      obtain ⟨H3, e3, s4, hL⟩ := fresh (.lst [V.bl false, .bl false, .bl false]) nL
      rw [e3]
      refine ⟨_, rfl, _, rfl, .inr ⟨ae, _, dd, _, _, _, _, rfl, s4 _ _ hae, s4 _ _ hdd, T.ei_InvalidDepth, .own _, T.ki_InvalidDepth_InvalidGuesser, _, rfl, .inr ⟨ae, _, dd, _, _, _, _, rfl, s4 _ _ hae, s4 _ _ hdd, T.ei_InvalidDepth, .own _, T.ki_InvalidDepth_InvalidDepth, _, rfl, .inr ⟨ae, _, dd, _, _, _, _, rfl, s4 _ _ hae, s4 _ _ hdd, T.ei_InvalidDepth, .own _, T.ki_InvalidDepth_InvalidRow, (by show 3 ≤ sizeLine; decide), fun L2 nL2 => ?_⟩⟩⟩⟩
      obtain ⟨H4, e4, s5, hL2⟩ := fresh (.lst [V.bl false, .bl true, .bl false]) nL2
      rw [e4]
      refine ⟨L, L2, _, _, rfl, rfl, s5 _ _ hL, hL2, by decide, fun L3 nL3 => ?_⟩
      obtain ⟨H5, e5, s6, hL3⟩ := fresh (.lst [V.bl false, .bl false, .bl false, .bl false, .bl true, .bl false]) nL3
      rw [show upd H4 L3 (.lst ([V.bl false, .bl false, .bl false] ++ [V.bl false, .bl true, .bl false])) = H5 from e5]
      have s36 := (s4.trans s5).trans s6
      have s06 := s3.trans s36
      refine ⟨_, rfl, .inl ⟨rfl, _, .inl (.inl hL3)⟩, L3, _, .bl true, 4, .bl true, rfl, rfl, .inl (.inl hL3), rfl, rfl, rfl, rfl, no4, _, rfl, ae, _, dd, _, x, rfl, s36 _ _ hae, s36 _ _ hdd, T.er_InvalidDepth.xf, T.er_InvalidDepth.sup.nov, rfl, (hS.same s06).repr ⟨(by show 2 ≤ sizeLine; decide), fun p np => ?_⟩⟩
      exact q _ p (s06.trans (same_upd np)) (s06.free np) upd_same
    · refine ⟨_, rfl, _, _, rfl, rfl, fl, _, _, _, rfl, rfl, .inl (.inl hfl), (show atI [V.ref T.f_rests, .ref T.f_row_of] (2 - 2) = some (.ref T.f_rests) from rfl), T.f_rests, _, _, _, rfl, (G_rests (P := P) T).mono (by decide), T.F_rests.kp, T.b_rests, _, rfl, _, rfl, _, rfl, _, _, _, rfl, 5, _, .inr ⟨hG.same s1, .inr ⟨dd, rfl, d1, d2, h.same s1, rfl, rfl⟩⟩, fun H2 dd s2 nd => ?_⟩
      have s2 := s1.trans s2
      refine ⟨true, T.em_InvalidRow_SoundError, fun _ ae nae => ?_, fun z => nomatch z⟩
      have hdd : upd (upd H2 dd (.xd [(Str.ofString "value", x)])) ae (ExK (.ref T.C_InvalidRow) (some dd) ae) dd = some (.xd [(Str.ofString "value", x)]) := by
        rw [upd_ne (ne_of_none upd_same nae), upd_same]
      have hae : upd (upd H2 dd (.xd [(Str.ofString "value", x)])) ae (ExK (.ref T.C_InvalidRow) (some dd) ae) ae = some (ExK (.ref T.C_InvalidRow) (some dd) ae) := upd_same
      have s3 := (s2.trans (same_upd (o := .xd [(Str.ofString "value", x)]) nd)).trans (same_upd (o := ExK (.ref T.C_InvalidRow) (some dd) ae) nae)
      refine ⟨_, rfl, _, rfl, rfl, _, rfl, iteDF (fun z => nomatch z) ⟨_, rfl, .inr ⟨ae, _, dd, _, _, _, _, rfl, hae, hdd, T.ei_InvalidRow, .own _, T.ki_InvalidRow_InvalidList, _, rfl, .inr ⟨ae, _, dd, _, _, _, _, rfl, hae, hdd, T.ei_InvalidRow, .own _, T.ki_InvalidRow_InvalidItem, _, rfl, .inr ⟨ae, _, dd, _, _, _, _, rfl, hae, hdd, T.ei_InvalidRow, .own _, T.ki_InvalidRow_InvalidNumber, (by show 3 ≤ sizeLine; decide), fun L nL => ?_⟩⟩⟩⟩⟩
      obtain ⟨H3, e3, s4, hL⟩ := fresh (.lst [V.bl false, .bl false, .bl false]) nL
      rw [e3]
      refine ⟨_, rfl, _, rfl, .inr ⟨ae, _, dd, _, _, _, _, rfl, s4 _ _ hae, s4 _ _ hdd, T.ei_InvalidRow, .own _, T.ki_InvalidRow_InvalidGuesser, _, rfl, .inr ⟨ae, _, dd, _, _, _, _, rfl, s4 _ _ hae, s4 _ _ hdd, T.ei_InvalidRow, .own _, T.ki_InvalidRow_InvalidDepth, _, rfl, .inr ⟨ae, _, dd, _, _, _, _, rfl, s4 _ _ hae, s4 _ _ hdd, T.ei_InvalidRow, .own _, T.ki_InvalidRow_InvalidRow, (by show 3 ≤ sizeLine; decide), fun L2 nL2 => ?_⟩⟩⟩⟩
      obtain ⟨H4, e4, s5, hL2⟩ := fresh (.lst [V.bl false, .bl false, .bl true]) nL2
      rw [e4]
      refine ⟨L, L2, _, _, rfl, rfl, s5 _ _ hL, hL2, by decide, fun L3 nL3 => ?_⟩
      obtain ⟨H5, e5, s6, hL3⟩ := fresh (.lst [V.bl false, .bl false, .bl false, .bl false, .bl false, .bl true]) nL3
      rw [show upd H4 L3 (.lst ([V.bl false, .bl false, .bl false] ++ [V.bl false, .bl false, .bl true])) = H5 from e5]
      have s36 := (s4.trans s5).trans s6
      have s06 := s3.trans s36
      refine ⟨_, rfl, .inl ⟨rfl, _, .inl (.inl hL3)⟩, L3, _, .bl true, 5, .bl true, rfl, rfl, .inl (.inl hL3), rfl, rfl, rfl, rfl, no5, _, rfl, ae, _, dd, _, x, rfl, s36 _ _ hae, s36 _ _ hdd, T.er_InvalidRow.xf, T.er_InvalidRow.sup.nov, rfl, (hS.same s06).repr ⟨(by show 2 ≤ sizeLine; decide), fun p np => ?_⟩⟩
      exact q _ p (s06.trans (same_upd np)) (s06.free np) upd_same
  · refine ⟨_, rfl, rfl, _, rfl, iteEF (by decide) ?_⟩
    refine ⟨_, rfl, rfl, _, rfl, iteEF (by decide) ?_⟩
    refine ⟨_, rfl, _, _, rfl, rfl, _, rfl, iteDT (by decide) ?_⟩
    refine ⟨(by show 2 ≤ sizeLine; decide), fun fl nfl => ?_⟩
    obtain ⟨H1, e1, s1, hfl⟩ := fresh (.lst [V.ref T.f_rests, .ref T.f_row_of]) nfl
    rw [e1]
    rcases h with ⟨h, rfl, rfl⟩ | ⟨hG, ⟨h, rfl, rfl⟩ | ⟨dd, rfl, d1, d2, h, rfl, rfl⟩⟩
    · refine ⟨_, rfl, _, _, rfl, rfl, fl, _, _, _, rfl, rfl, .inl (.inl hfl), (show atI [V.ref T.f_rests, .ref T.f_row_of] (3 - 2) = some (.ref T.f_row_of) from rfl), T.f_row_of, _, _, _, rfl, (G_row_of (P := P) T).mono (by decide), T.F_row_of.kp, T.b_row_of, _, rfl, _, rfl, _, rfl, _, _, _, rfl, 3, _, .inl ⟨h.same s1, rfl, rfl⟩, fun H2 dd s2 nd => ?_⟩
      have s2 := s1.trans s2
      refine ⟨true, T.em_InvalidGuesser_SoundError, fun _ ae nae => ?_, fun z => nomatch z⟩
      have hdd : upd (upd H2 dd (.xd [(Str.ofString "value", x)])) ae (ExK (.ref T.C_InvalidGuesser) (some dd) ae) dd = some (.xd [(Str.ofString "value", x)]) := by
        rw [upd_ne (ne_of_none upd_same nae), upd_same]
      have hae : upd (upd H2 dd (.xd [(Str.ofString "value", x)])) ae (ExK (.ref T.C_InvalidGuesser) (some dd) ae) ae = some (ExK (.ref T.C_InvalidGuesser) (some dd) ae) := upd_same
      have s3 := (s2.trans (same_upd (o := .xd [(Str.ofString "value", x)]) nd)).trans (same_upd (o := ExK (.ref T.C_InvalidGuesser) (some dd) ae) nae)
      refine ⟨_, rfl, _, rfl, rfl, _, rfl, iteDF (fun z => nomatch z) ⟨_, rfl, .inr ⟨ae, _, dd, _, _, _, _, rfl, hae, hdd, T.ei_InvalidGuesser, .own _, T.ki_InvalidGuesser_InvalidList, _, rfl, .inr ⟨ae, _, dd, _, _, _, _, rfl, hae, hdd, T.ei_InvalidGuesser, .own _, T.ki_InvalidGuesser_InvalidItem, _, rfl, .inr ⟨ae, _, dd, _, _, _, _, rfl, hae, hdd, T.ei_InvalidGuesser, .own _, T.ki_InvalidGuesser_InvalidNumber, (by show 3 ≤ sizeLine; decide), fun L nL => ?_⟩⟩⟩⟩⟩
      obtain ⟨H3, e3, s4, hL⟩ := fresh (.lst [V.bl false, .bl false, .bl false]) nL
      rw [e3]
      refine ⟨_, rfl, _, rfl, .inr ⟨ae, _, dd, _, _, _, _, rfl, s4 _ _ hae, s4 _ _ hdd, T.ei_InvalidGuesser, .own _, T.ki_InvalidGuesser_InvalidGuesser, _, rfl, .inr ⟨ae, _, dd, _, _, _, _, rfl, s4 _ _ hae, s4 _ _ hdd, T.ei_InvalidGuesser, .own _, T.ki_InvalidGuesser_InvalidDepth, _, rfl, .inr ⟨ae, _, dd, _, _, _, _, rfl, s4 _ _ hae, s4 _ _ hdd, T.ei_InvalidGuesser, .own _, T.ki_InvalidGuesser_InvalidRow, (by show 3 ≤ sizeLine; decide), fun L2 nL2 => ?_⟩⟩⟩⟩
      obtain ⟨H4, e4, s5, hL2⟩ := fresh (.lst [V.bl true, .bl false, .bl false]) nL2
      rw [e4]
      refine ⟨L, L2, _, _, rfl, rfl, s5 _ _ hL, hL2, by decide, fun L3 nL3 => ?_⟩
      obtain ⟨H5, e5, s6, hL3⟩ := fresh (.lst [V.bl false, .bl false, .bl false, .bl true, .bl false, .bl false]) nL3
      rw [show upd H4 L3 (.lst ([V.bl false, .bl false, .bl false] ++ [V.bl true, .bl false, .bl false])) = H5 from e5]
      have s36 := (s4.trans s5).trans s6
      have s06 := s3.trans s36
      refine ⟨_, rfl, .inl ⟨rfl, _, .inl (.inl hL3)⟩, L3, _, .bl true, 3, .bl true, rfl, rfl, .inl (.inl hL3), rfl, rfl, rfl, rfl, no3, _, rfl, ae, _, dd, _, x, rfl, s36 _ _ hae, s36 _ _ hdd, T.er_InvalidGuesser.xf, T.er_InvalidGuesser.sup.nov, rfl, (hS.same s06).repr ⟨(by show 2 ≤ sizeLine; decide), fun p np => ?_⟩⟩
      exact q _ p (s06.trans (same_upd np)) (s06.free np) upd_same
    · refine ⟨_, rfl, _, _, rfl, rfl, fl, _, _, _, rfl, rfl, .inl (.inl hfl), (show atI [V.ref T.f_rests, .ref T.f_row_of] (3 - 2) = some (.ref T.f_row_of) from rfl), T.f_row_of, _, _, _, rfl, (G_row_of (P := P) T).mono (by decide), T.F_row_of.kp, T.b_row_of, _, rfl, _, rfl, _, rfl, _, _, _, rfl, 4, _, .inr ⟨hG.same s1, .inl ⟨h.same s1, rfl, rfl⟩⟩, fun H2 dd s2 nd => ?_⟩
      have s2 := s1.trans s2
      refine ⟨true, T.em_InvalidDepth_SoundError, fun _ ae nae => ?_, fun z => nomatch z⟩
      have hdd : upd (upd H2 dd (.xd [(Str.ofString "value", x)])) ae (ExK (.ref T.C_InvalidDepth) (some dd) ae) dd = some (.xd [(Str.ofString "value", x)]) := by
        rw [upd_ne (ne_of_none upd_same nae), upd_same]
      have hae : upd (upd H2 dd (.xd [(Str.ofString "value", x)])) ae (ExK (.ref T.C_InvalidDepth) (some dd) ae) ae = some (ExK (.ref T.C_InvalidDepth) (some dd) ae) := upd_same
      have s3 := (s2.trans (same_upd (o := .xd [(Str.ofString "value", x)]) nd)).trans (same_upd (o := ExK (.ref T.C_InvalidDepth) (some dd) ae) nae)
      refine ⟨_, rfl, _, rfl, rfl, _, rfl, iteDF (fun z => nomatch z) ⟨_, rfl, .inr ⟨ae, _, dd, _, _, _, _, rfl, hae, hdd, T.ei_InvalidDepth, .own _, T.ki_InvalidDepth_InvalidList, _, rfl, .inr ⟨ae, _, dd, _, _, _, _, rfl, hae, hdd, T.ei_InvalidDepth, .own _, T.ki_InvalidDepth_InvalidItem, _, rfl, .inr ⟨ae, _, dd, _, _, _, _, rfl, hae, hdd, T.ei_InvalidDepth, .own _, T.ki_InvalidDepth_InvalidNumber, (by show 3 ≤ sizeLine; decide), fun L nL => ?_⟩⟩⟩⟩⟩
      obtain ⟨H3, e3, s4, hL⟩ := fresh (.lst [V.bl false, .bl false, .bl false]) nL
      rw [e3]
      refine ⟨_, rfl, _, rfl, .inr ⟨ae, _, dd, _, _, _, _, rfl, s4 _ _ hae, s4 _ _ hdd, T.ei_InvalidDepth, .own _, T.ki_InvalidDepth_InvalidGuesser, _, rfl, .inr ⟨ae, _, dd, _, _, _, _, rfl, s4 _ _ hae, s4 _ _ hdd, T.ei_InvalidDepth, .own _, T.ki_InvalidDepth_InvalidDepth, _, rfl, .inr ⟨ae, _, dd, _, _, _, _, rfl, s4 _ _ hae, s4 _ _ hdd, T.ei_InvalidDepth, .own _, T.ki_InvalidDepth_InvalidRow, (by show 3 ≤ sizeLine; decide), fun L2 nL2 => ?_⟩⟩⟩⟩
      obtain ⟨H4, e4, s5, hL2⟩ := fresh (.lst [V.bl false, .bl true, .bl false]) nL2
      rw [e4]
      refine ⟨L, L2, _, _, rfl, rfl, s5 _ _ hL, hL2, by decide, fun L3 nL3 => ?_⟩
      obtain ⟨H5, e5, s6, hL3⟩ := fresh (.lst [V.bl false, .bl false, .bl false, .bl false, .bl true, .bl false]) nL3
      rw [show upd H4 L3 (.lst ([V.bl false, .bl false, .bl false] ++ [V.bl false, .bl true, .bl false])) = H5 from e5]
      have s36 := (s4.trans s5).trans s6
      have s06 := s3.trans s36
      refine ⟨_, rfl, .inl ⟨rfl, _, .inl (.inl hL3)⟩, L3, _, .bl true, 4, .bl true, rfl, rfl, .inl (.inl hL3), rfl, rfl, rfl, rfl, no4, _, rfl, ae, _, dd, _, x, rfl, s36 _ _ hae, s36 _ _ hdd, T.er_InvalidDepth.xf, T.er_InvalidDepth.sup.nov, rfl, (hS.same s06).repr ⟨(by show 2 ≤ sizeLine; decide), fun p np => ?_⟩⟩
      exact q _ p (s06.trans (same_upd np)) (s06.free np) upd_same
    · refine ⟨_, rfl, _, _, rfl, rfl, fl, _, _, _, rfl, rfl, .inl (.inl hfl), (show atI [V.ref T.f_rests, .ref T.f_row_of] (3 - 2) = some (.ref T.f_row_of) from rfl), T.f_row_of, _, _, _, rfl, (G_row_of (P := P) T).mono (by decide), T.F_row_of.kp, T.b_row_of, _, rfl, _, rfl, _, rfl, _, _, _, rfl, 5, _, .inr ⟨hG.same s1, .inr ⟨dd, rfl, d1, d2, h.same s1, rfl, rfl⟩⟩, fun H2 dd s2 nd => ?_⟩
      have s2 := s1.trans s2
      refine ⟨true, T.em_InvalidRow_SoundError, fun _ ae nae => ?_, fun z => nomatch z⟩
      have hdd : upd (upd H2 dd (.xd [(Str.ofString "value", x)])) ae (ExK (.ref T.C_InvalidRow) (some dd) ae) dd = some (.xd [(Str.ofString "value", x)]) := by
        rw [upd_ne (ne_of_none upd_same nae), upd_same]
      have hae : upd (upd H2 dd (.xd [(Str.ofString "value", x)])) ae (ExK (.ref T.C_InvalidRow) (some dd) ae) ae = some (ExK (.ref T.C_InvalidRow) (some dd) ae) := upd_same
      have s3 := (s2.trans (same_upd (o := .xd [(Str.ofString "value", x)]) nd)).trans (same_upd (o := ExK (.ref T.C_InvalidRow) (some dd) ae) nae)
      refine ⟨_, rfl, _, rfl, rfl, _, rfl, iteDF (fun z => nomatch z) ⟨_, rfl, .inr ⟨ae, _, dd, _, _, _, _, rfl, hae, hdd, T.ei_InvalidRow, .own _, T.ki_InvalidRow_InvalidList, _, rfl, .inr ⟨ae, _, dd, _, _, _, _, rfl, hae, hdd, T.ei_InvalidRow, .own _, T.ki_InvalidRow_InvalidItem, _, rfl, .inr ⟨ae, _, dd, _, _, _, _, rfl, hae, hdd, T.ei_InvalidRow, .own _, T.ki_InvalidRow_InvalidNumber, (by show 3 ≤ sizeLine; decide), fun L nL => ?_⟩⟩⟩⟩⟩
      obtain ⟨H3, e3, s4, hL⟩ := fresh (.lst [V.bl false, .bl false, .bl false]) nL
      rw [e3]
      refine ⟨_, rfl, _, rfl, .inr ⟨ae, _, dd, _, _, _, _, rfl, s4 _ _ hae, s4 _ _ hdd, T.ei_InvalidRow, .own _, T.ki_InvalidRow_InvalidGuesser, _, rfl, .inr ⟨ae, _, dd, _, _, _, _, rfl, s4 _ _ hae, s4 _ _ hdd, T.ei_InvalidRow, .own _, T.ki_InvalidRow_InvalidDepth, _, rfl, .inr ⟨ae, _, dd, _, _, _, _, rfl, s4 _ _ hae, s4 _ _ hdd, T.ei_InvalidRow, .own _, T.ki_InvalidRow_InvalidRow, (by show 3 ≤ sizeLine; decide), fun L2 nL2 => ?_⟩⟩⟩⟩
      obtain ⟨H4, e4, s5, hL2⟩ := fresh (.lst [V.bl false, .bl false, .bl true]) nL2
      rw [e4]
      refine ⟨L, L2, _, _, rfl, rfl, s5 _ _ hL, hL2, by decide, fun L3 nL3 => ?_⟩
      obtain ⟨H5, e5, s6, hL3⟩ := fresh (.lst [V.bl false, .bl false, .bl false, .bl false, .bl false, .bl true]) nL3
      rw [show upd H4 L3 (.lst ([V.bl false, .bl false, .bl false] ++ [V.bl false, .bl false, .bl true])) = H5 from e5]
      have s36 := (s4.trans s5).trans s6
      have s06 := s3.trans s36
      refine ⟨_, rfl, .inl ⟨rfl, _, .inl (.inl hL3)⟩, L3, _, .bl true, 5, .bl true, rfl, rfl, .inl (.inl hL3), rfl, rfl, rfl, rfl, no5, _, rfl, ae, _, dd, _, x, rfl, s36 _ _ hae, s36 _ _ hdd, T.er_InvalidRow.xf, T.er_InvalidRow.sup.nov, rfl, (hS.same s06).repr ⟨(by show 2 ≤ sizeLine; decide), fun p np => ?_⟩⟩
      exact q _ p (s06.trans (same_upd np)) (s06.free np) upd_same
  · refine ⟨_, rfl, rfl, _, rfl, iteEF (by decide) ?_⟩
    refine ⟨_, rfl, rfl, _, rfl, iteEF (by decide) ?_⟩
    refine ⟨_, rfl, _, _, rfl, rfl, _, rfl, iteDF (by decide) ?_⟩
    refine ⟨_, rfl, rfl, _, rfl, iteET (by decide) ?_⟩
    rcases h with ⟨h, rfl, rfl⟩ | ⟨hG, h, rfl, rfl⟩
    · refine ⟨_, rfl, _, rfl, _, _, rfl, .inl ⟨h, fun H2 dd s2 nd => ?_⟩⟩
      refine ⟨true, T.em_InvalidGuesser_SoundError, fun _ ae nae => ?_, fun z => nomatch z⟩
      have hdd : upd (upd H2 dd (.xd [(Str.ofString "value", x)])) ae (ExK (.ref T.C_InvalidGuesser) (some dd) ae) dd = some (.xd [(Str.ofString "value", x)]) := by
        rw [upd_ne (ne_of_none upd_same nae), upd_same]
      have hae : upd (upd H2 dd (.xd [(Str.ofString "value", x)])) ae (ExK (.ref T.C_InvalidGuesser) (some dd) ae) ae = some (ExK (.ref T.C_InvalidGuesser) (some dd) ae) := upd_same
      have s3 := (s2.trans (same_upd (o := .xd [(Str.ofString "value", x)]) nd)).trans (same_upd (o := ExK (.ref T.C_InvalidGuesser) (some dd) ae) nae)
      refine ⟨_, rfl, _, rfl, rfl, _, rfl, iteDF (fun z => nomatch z) ⟨_, rfl, .inr ⟨ae, _, dd, _, _, _, _, rfl, hae, hdd, T.ei_InvalidGuesser, .own _, T.ki_InvalidGuesser_InvalidList, _, rfl, .inr ⟨ae, _, dd, _, _, _, _, rfl, hae, hdd, T.ei_InvalidGuesser, .own _, T.ki_InvalidGuesser_InvalidItem, _, rfl, .inr ⟨ae, _, dd, _, _, _, _, rfl, hae, hdd, T.ei_InvalidGuesser, .own _, T.ki_InvalidGuesser_InvalidNumber, (by show 3 ≤ sizeLine; decide), fun L nL => ?_⟩⟩⟩⟩⟩
      obtain ⟨H3, e3, s4, hL⟩ := fresh (.lst [V.bl false, .bl false, .bl false]) nL
      rw [e3]
      refine ⟨_, rfl, _, rfl, .inr ⟨ae, _, dd, _, _, _, _, rfl, s4 _ _ hae, s4 _ _ hdd, T.ei_InvalidGuesser, .own _, T.ki_InvalidGuesser_InvalidGuesser, _, rfl, .inr ⟨ae, _, dd, _, _, _, _, rfl, s4 _ _ hae, s4 _ _ hdd, T.ei_InvalidGuesser, .own _, T.ki_InvalidGuesser_InvalidDepth, _, rfl, .inr ⟨ae, _, dd, _, _, _, _, rfl, s4 _ _ hae, s4 _ _ hdd, T.ei_InvalidGuesser, .own _, T.ki_InvalidGuesser_InvalidRow, (by show 3 ≤ sizeLine; decide), fun L2 nL2 => ?_⟩⟩⟩⟩
      obtain ⟨H4, e4, s5, hL2⟩ := fresh (.lst [V.bl true, .bl false, .bl false]) nL2
      rw [e4]
      refine ⟨L, L2, _, _, rfl, rfl, s5 _ _ hL, hL2, by decide, fun L3 nL3 => ?_⟩
      obtain ⟨H5, e5, s6, hL3⟩ := fresh (.lst [V.bl false, .bl false, .bl false, .bl true, .bl false, .bl false]) nL3
      rw [show upd H4 L3 (.lst ([V.bl false, .bl false, .bl false] ++ [V.bl true, .bl false, .bl false])) = H5 from e5]
      have s36 := (s4.trans s5).trans s6
      have s06 := s3.trans s36
      refine ⟨_, rfl, .inl ⟨rfl, _, .inl (.inl hL3)⟩, L3, _, .bl true, 3, .bl true, rfl, rfl, .inl (.inl hL3), rfl, rfl, rfl, rfl, no3, _, rfl, ae, _, dd, _, x, rfl, s36 _ _ hae, s36 _ _ hdd, T.er_InvalidGuesser.xf, T.er_InvalidGuesser.sup.nov, rfl, (hS.same s06).repr ⟨(by show 2 ≤ sizeLine; decide), fun p np => ?_⟩⟩
      exact q _ p (s06.trans (same_upd np)) (s06.free np) upd_same
    · refine ⟨_, rfl, _, rfl, _, _, rfl, .inr (.inl ⟨hG, h, fun H2 dd s2 nd => ?_⟩)⟩
      refine ⟨true, T.em_InvalidRow_SoundError, fun _ ae nae => ?_, fun z => nomatch z⟩
      have hdd : upd (upd H2 dd (.xd [(Str.ofString "value", x)])) ae (ExK (.ref T.C_InvalidRow) (some dd) ae) dd = some (.xd [(Str.ofString "value", x)]) := by
        rw [upd_ne (ne_of_none upd_same nae), upd_same]
      have hae : upd (upd H2 dd (.xd [(Str.ofString "value", x)])) ae (ExK (.ref T.C_InvalidRow) (some dd) ae) ae = some (ExK (.ref T.C_InvalidRow) (some dd) ae) := upd_same
      have s3 := (s2.trans (same_upd (o := .xd [(Str.ofString "value", x)]) nd)).trans (same_upd (o := ExK (.ref T.C_InvalidRow) (some dd) ae) nae)
      refine ⟨_, rfl, _, rfl, rfl, _, rfl, iteDF (fun z => nomatch z) ⟨_, rfl, .inr ⟨ae, _, dd, _, _, _, _, rfl, hae, hdd, T.ei_InvalidRow, .own _, T.ki_InvalidRow_InvalidList, _, rfl, .inr ⟨ae, _, dd, _, _, _, _, rfl, hae, hdd, T.ei_InvalidRow, .own _, T.ki_InvalidRow_InvalidItem, _, rfl, .inr ⟨ae, _, dd, _, _, _, _, rfl, hae, hdd, T.ei_InvalidRow, .own _, T.ki_InvalidRow_InvalidNumber, (by show 3 ≤ sizeLine; decide), fun L nL => ?_⟩⟩⟩⟩⟩
      obtain ⟨H3, e3, s4, hL⟩ := fresh (.lst [V.bl false, .bl false, .bl false]) nL
      rw [e3]
      refine ⟨_, rfl, _, rfl, .inr ⟨ae, _, dd, _, _, _, _, rfl, s4 _ _ hae, s4 _ _ hdd, T.ei_InvalidRow, .own _, T.ki_InvalidRow_InvalidGuesser, _, rfl, .inr ⟨ae, _, dd, _, _, _, _, rfl, s4 _ _ hae, s4 _ _ hdd, T.ei_InvalidRow, .own _, T.ki_InvalidRow_InvalidDepth, _, rfl, .inr ⟨ae, _, dd, _, _, _, _, rfl, s4 _ _ hae, s4 _ _ hdd, T.ei_InvalidRow, .own _, T.ki_InvalidRow_InvalidRow, (by show 3 ≤ sizeLine; decide), fun L2 nL2 => ?_⟩⟩⟩⟩
      obtain ⟨H4, e4, s5, hL2⟩ := fresh (.lst [V.bl false, .bl false, .bl true]) nL2
      rw [e4]
      refine ⟨L, L2, _, _, rfl, rfl, s5 _ _ hL, hL2, by decide, fun L3 nL3 => ?_⟩
      obtain ⟨H5, e5, s6, hL3⟩ := fresh (.lst [V.bl false, .bl false, .bl false, .bl false, .bl false, .bl true]) nL3
      rw [show upd H4 L3 (.lst ([V.bl false, .bl false, .bl false] ++ [V.bl false, .bl false, .bl true])) = H5 from e5]
      have s36 := (s4.trans s5).trans s6
      have s06 := s3.trans s36
      refine ⟨_, rfl, .inl ⟨rfl, _, .inl (.inl hL3)⟩, L3, _, .bl true, 5, .bl true, rfl, rfl, .inl (.inl hL3), rfl, rfl, rfl, rfl, no5, _, rfl, ae, _, dd, _, x, rfl, s36 _ _ hae, s36 _ _ hdd, T.er_InvalidRow.xf, T.er_InvalidRow.sup.nov, rfl, (hS.same s06).repr ⟨(by show 2 ≤ sizeLine; decide), fun p np => ?_⟩⟩
      exact q _ p (s06.trans (same_upd np)) (s06.free np) upd_same
  · refine ⟨_, rfl, rfl, _, rfl, iteEF (by decide) ?_⟩
    refine ⟨_, rfl, rfl, _, rfl, iteEF (by decide) ?_⟩
    refine ⟨_, rfl, _, _, rfl, rfl, _, rfl, iteDF (by decide) ?_⟩
    refine ⟨_, rfl, rfl, _, rfl, iteEF (by decide) ?_⟩
    refine ⟨_, rfl, _, _, rfl, rfl, _, rfl, iteDT (by decide) ?_⟩
    refine ⟨(by show 2 ≤ sizeLine; decide), fun fl nfl => ?_⟩
    obtain ⟨H1, e1, s1, hfl⟩ := fresh (.lst [V.ref T.f_same_guess, .ref T.f_parting_row]) nfl
    rw [e1]
    rcases h with ⟨h, rfl, rfl⟩ | ⟨hG, h, rfl, rfl⟩
    · refine ⟨_, rfl, _, _, rfl, rfl, fl, _, _, _, rfl, rfl, .inl (.inl hfl), (show atI [V.ref T.f_same_guess, .ref T.f_parting_row] (5 - 5) = some (.ref T.f_same_guess) from rfl), T.f_same_guess, _, _, _, rfl, (G_same_guess (P := P) T).mono (by decide), T.F_same_guess.kp, T.b_same_guess, _, rfl, _, rfl, _, _, rfl, .inl ⟨h.same s1, fun H2 dd s2 nd => ?_⟩⟩
      have s2 := s1.trans s2
      refine ⟨true, T.em_InvalidGuesser_SoundError, fun _ ae nae => ?_, fun z => nomatch z⟩
      have hdd : upd (upd H2 dd (.xd [(Str.ofString "value", x)])) ae (ExK (.ref T.C_InvalidGuesser) (some dd) ae) dd = some (.xd [(Str.ofString "value", x)]) := by
        rw [upd_ne (ne_of_none upd_same nae), upd_same]
      have hae : upd (upd H2 dd (.xd [(Str.ofString "value", x)])) ae (ExK (.ref T.C_InvalidGuesser) (some dd) ae) ae = some (ExK (.ref T.C_InvalidGuesser) (some dd) ae) := upd_same
      have s3 := (s2.trans (same_upd (o := .xd [(Str.ofString "value", x)]) nd)).trans (same_upd (o := ExK (.ref T.C_InvalidGuesser) (some dd) ae) nae)
      refine ⟨_, rfl, _, rfl, rfl, _, rfl, iteDF (fun z => nomatch z) ⟨_, rfl, .inr ⟨ae, _, dd, _, _, _, _, rfl, hae, hdd, T.ei_InvalidGuesser, .own _, T.ki_InvalidGuesser_InvalidList, _, rfl, .inr ⟨ae, _, dd, _, _, _, _, rfl, hae, hdd, T.ei_InvalidGuesser, .own _, T.ki_InvalidGuesser_InvalidItem, _, rfl, .inr ⟨ae, _, dd, _, _, _, _, rfl, hae, hdd, T.ei_InvalidGuesser, .own _, T.ki_InvalidGuesser_InvalidNumber, (by show 3 ≤ sizeLine; decide), fun L nL => ?_⟩⟩⟩⟩⟩
      obtain ⟨H3, e3, s4, hL⟩ := fresh (.lst [V.bl false, .bl false, .bl false]) nL
      rw [e3]
      refine ⟨_, rfl, _, rfl, .inr ⟨ae, _, dd, _, _, _, _, rfl, s4 _ _ hae, s4 _ _ hdd, T.ei_InvalidGuesser, .own _, T.ki_InvalidGuesser_InvalidGuesser, _, rfl, .inr ⟨ae, _, dd, _, _, _, _, rfl, s4 _ _ hae, s4 _ _ hdd, T.ei_InvalidGuesser, .own _, T.ki_InvalidGuesser_InvalidDepth, _, rfl, .inr ⟨ae, _, dd, _, _, _, _, rfl, s4 _ _ hae, s4 _ _ hdd, T.ei_InvalidGuesser, .own _, T.ki_InvalidGuesser_InvalidRow, (by show 3 ≤ sizeLine; decide), fun L2 nL2 => ?_⟩⟩⟩⟩
      obtain ⟨H4, e4, s5, hL2⟩ := fresh (.lst [V.bl true, .bl false, .bl false]) nL2
      rw [e4]
      refine ⟨L, L2, _, _, rfl, rfl, s5 _ _ hL, hL2, by decide, fun L3 nL3 => ?_⟩
      obtain ⟨H5, e5, s6, hL3⟩ := fresh (.lst [V.bl false, .bl false, .bl false, .bl true, .bl false, .bl false]) nL3
      rw [show upd H4 L3 (.lst ([V.bl false, .bl false, .bl false] ++ [V.bl true, .bl false, .bl false])) = H5 from e5]
      have s36 := (s4.trans s5).trans s6
      have s06 := s3.trans s36
      refine ⟨_, rfl, .inl ⟨rfl, _, .inl (.inl hL3)⟩, L3, _, .bl true, 3, .bl true, rfl, rfl, .inl (.inl hL3), rfl, rfl, rfl, rfl, no3, _, rfl, ae, _, dd, _, x, rfl, s36 _ _ hae, s36 _ _ hdd, T.er_InvalidGuesser.xf, T.er_InvalidGuesser.sup.nov, rfl, (hS.same s06).repr ⟨(by show 2 ≤ sizeLine; decide), fun p np => ?_⟩⟩
      exact q _ p (s06.trans (same_upd np)) (s06.free np) upd_same
    · refine ⟨_, rfl, _, _, rfl, rfl, fl, _, _, _, rfl, rfl, .inl (.inl hfl), (show atI [V.ref T.f_same_guess, .ref T.f_parting_row] (5 - 5) = some (.ref T.f_same_guess) from rfl), T.f_same_guess, _, _, _, rfl, (G_same_guess (P := P) T).mono (by decide), T.F_same_guess.kp, T.b_same_guess, _, rfl, _, rfl, _, _, rfl, .inr ⟨hG.same s1, h.same s1, fun H2 dd s2 nd => ?_⟩⟩
      have s2 := s1.trans s2
      refine ⟨true, T.em_InvalidGuesser_SoundError, fun _ ae nae => ?_, fun z => nomatch z⟩
      have hdd : upd (upd H2 dd (.xd [(Str.ofString "value", x)])) ae (ExK (.ref T.C_InvalidGuesser) (some dd) ae) dd = some (.xd [(Str.ofString "value", x)]) := by
        rw [upd_ne (ne_of_none upd_same nae), upd_same]
      have hae : upd (upd H2 dd (.xd [(Str.ofString "value", x)])) ae (ExK (.ref T.C_InvalidGuesser) (some dd) ae) ae = some (ExK (.ref T.C_InvalidGuesser) (some dd) ae) := upd_same
      have s3 := (s2.trans (same_upd (o := .xd [(Str.ofString "value", x)]) nd)).trans (same_upd (o := ExK (.ref T.C_InvalidGuesser) (some dd) ae) nae)
      refine ⟨_, rfl, _, rfl, rfl, _, rfl, iteDF (fun z => nomatch z) ⟨_, rfl, .inr ⟨ae, _, dd, _, _, _, _, rfl, hae, hdd, T.ei_InvalidGuesser, .own _, T.ki_InvalidGuesser_InvalidList, _, rfl, .inr ⟨ae, _, dd, _, _, _, _, rfl, hae, hdd, T.ei_InvalidGuesser, .own _, T.ki_InvalidGuesser_InvalidItem, _, rfl, .inr ⟨ae, _, dd, _, _, _, _, rfl, hae, hdd, T.ei_InvalidGuesser, .own _, T.ki_InvalidGuesser_InvalidNumber, (by show 3 ≤ sizeLine; decide), fun L nL => ?_⟩⟩⟩⟩⟩
      obtain ⟨H3, e3, s4, hL⟩ := fresh (.lst [V.bl false, .bl false, .bl false]) nL
      rw [e3]
      refine ⟨_, rfl, _, rfl, .inr ⟨ae, _, dd, _, _, _, _, rfl, s4 _ _ hae, s4 _ _ hdd, T.ei_InvalidGuesser, .own _, T.ki_InvalidGuesser_InvalidGuesser, _, rfl, .inr ⟨ae, _, dd, _, _, _, _, rfl, s4 _ _ hae, s4 _ _ hdd, T.ei_InvalidGuesser, .own _, T.ki_InvalidGuesser_InvalidDepth, _, rfl, .inr ⟨ae, _, dd, _, _, _, _, rfl, s4 _ _ hae, s4 _ _ hdd, T.ei_InvalidGuesser, .own _, T.ki_InvalidGuesser_InvalidRow, (by show 3 ≤ sizeLine; decide), fun L2 nL2 => ?_⟩⟩⟩⟩
      obtain ⟨H4, e4, s5, hL2⟩ := fresh (.lst [V.bl true, .bl false, .bl false]) nL2
      rw [e4]
      refine ⟨L, L2, _, _, rfl, rfl, s5 _ _ hL, hL2, by decide, fun L3 nL3 => ?_⟩
      obtain ⟨H5, e5, s6, hL3⟩ := fresh (.lst [V.bl false, .bl false, .bl false, .bl true, .bl false, .bl false]) nL3
      rw [show upd H4 L3 (.lst ([V.bl false, .bl false, .bl false] ++ [V.bl true, .bl false, .bl false])) = H5 from e5]
      have s36 := (s4.trans s5).trans s6
      have s06 := s3.trans s36
      refine ⟨_, rfl, .inl ⟨rfl, _, .inl (.inl hL3)⟩, L3, _, .bl true, 3, .bl true, rfl, rfl, .inl (.inl hL3), rfl, rfl, rfl, rfl, no3, _, rfl, ae, _, dd, _, x, rfl, s36 _ _ hae, s36 _ _ hdd, T.er_InvalidGuesser.xf, T.er_InvalidGuesser.sup.nov, rfl, (hS.same s06).repr ⟨(by show 2 ≤ sizeLine; decide), fun p np => ?_⟩⟩
      exact q _ p (s06.trans (same_upd np)) (s06.free np) upd_same
  · refine ⟨_, rfl, rfl, _, rfl, iteEF (by decide) ?_⟩
    refine ⟨_, rfl, rfl, _, rfl, iteEF (by decide) ?_⟩
    refine ⟨_, rfl, _, _, rfl, rfl, _, rfl, iteDF (by decide) ?_⟩
    refine ⟨_, rfl, rfl, _, rfl, iteEF (by decide) ?_⟩
    refine ⟨_, rfl, _, _, rfl, rfl, _, rfl, iteDT (by decide) ?_⟩
    refine ⟨(by show 2 ≤ sizeLine; decide), fun fl nfl => ?_⟩
    obtain ⟨H1, e1, s1, hfl⟩ := fresh (.lst [V.ref T.f_same_guess, .ref T.f_parting_row]) nfl
    rw [e1]
    rcases h with ⟨h, rfl, rfl⟩ | ⟨hG, h, rfl, rfl⟩
    · refine ⟨_, rfl, _, _, rfl, rfl, fl, _, _, _, rfl, rfl, .inl (.inl hfl), (show atI [V.ref T.f_same_guess, .ref T.f_parting_row] (6 - 5) = some (.ref T.f_parting_row) from rfl), T.f_parting_row, _, _, _, rfl, (G_parting_row (P := P) T).mono (by decide), T.F_parting_row.kp, T.b_parting_row, _, rfl, _, rfl, _, _, rfl, .inl ⟨h.same s1, fun H2 dd s2 nd => ?_⟩⟩
      have s2 := s1.trans s2
      refine ⟨true, T.em_InvalidGuesser_SoundError, fun _ ae nae => ?_, fun z => nomatch z⟩
      have hdd : upd (upd H2 dd (.xd [(Str.ofString "value", x)])) ae (ExK (.ref T.C_InvalidGuesser) (some dd) ae) dd = some (.xd [(Str.ofString "value", x)]) := by
        rw [upd_ne (ne_of_none upd_same nae), upd_same]
      have hae : upd (upd H2 dd (.xd [(Str.ofString "value", x)])) ae (ExK (.ref T.C_InvalidGuesser) (some dd) ae) ae = some (ExK (.ref T.C_InvalidGuesser) (some dd) ae) := upd_same
      have s3 := (s2.trans (same_upd (o := .xd [(Str.ofString "value", x)]) nd)).trans (same_upd (o := ExK (.ref T.C_InvalidGuesser) (some dd) ae) nae)
      refine ⟨_, rfl, _, rfl, rfl, _, rfl, iteDF (fun z => nomatch z) ⟨_, rfl, .inr ⟨ae, _, dd, _, _, _, _, rfl, hae, hdd, T.ei_InvalidGuesser, .own _, T.ki_InvalidGuesser_InvalidList, _, rfl, .inr ⟨ae, _, dd, _, _, _, _, rfl, hae, hdd, T.ei_InvalidGuesser, .own _, T.ki_InvalidGuesser_InvalidItem, _, rfl, .inr ⟨ae, _, dd, _, _, _, _, rfl, hae, hdd, T.ei_InvalidGuesser, .own _, T.ki_InvalidGuesser_InvalidNumber, (by show 3 ≤ sizeLine; decide), fun L nL => ?_⟩⟩⟩⟩⟩
      obtain ⟨H3, e3, s4, hL⟩ := fresh (.lst [V.bl false, .bl false, .bl false]) nL
      rw [e3]
      refine ⟨_, rfl, _, rfl, .inr ⟨ae, _, dd, _, _, _, _, rfl, s4 _ _ hae, s4 _ _ hdd, T.ei_InvalidGuesser, .own _, T.ki_InvalidGuesser_InvalidGuesser, _, rfl, .inr ⟨ae, _, dd, _, _, _, _, rfl, s4 _ _ hae, s4 _ _ hdd, T.ei_InvalidGuesser, .own _, T.ki_InvalidGuesser_InvalidDepth, _, rfl, .inr ⟨ae, _, dd, _, _, _, _, rfl, s4 _ _ hae, s4 _ _ hdd, T.ei_InvalidGuesser, .own _, T.ki_InvalidGuesser_InvalidRow, (by show 3 ≤ sizeLine; decide), fun L2 nL2 => ?_⟩⟩⟩⟩
      obtain ⟨H4, e4, s5, hL2⟩ := fresh (.lst [V.bl true, .bl false, .bl false]) nL2
      rw [e4]
      refine ⟨L, L2, _, _, rfl, rfl, s5 _ _ hL, hL2, by decide, fun L3 nL3 => ?_⟩
      obtain ⟨H5, e5, s6, hL3⟩ := fresh (.lst [V.bl false, .bl false, .bl false, .bl true, .bl false, .bl false]) nL3
      rw [show upd H4 L3 (.lst ([V.bl false, .bl false, .bl false] ++ [V.bl true, .bl false, .bl false])) = H5 from e5]
      have s36 := (s4.trans s5).trans s6
      have s06 := s3.trans s36
      refine ⟨_, rfl, .inl ⟨rfl, _, .inl (.inl hL3)⟩, L3, _, .bl true, 3, .bl true, rfl, rfl, .inl (.inl hL3), rfl, rfl, rfl, rfl, no3, _, rfl, ae, _, dd, _, x, rfl, s36 _ _ hae, s36 _ _ hdd, T.er_InvalidGuesser.xf, T.er_InvalidGuesser.sup.nov, rfl, (hS.same s06).repr ⟨(by show 2 ≤ sizeLine; decide), fun p np => ?_⟩⟩
      exact q _ p (s06.trans (same_upd np)) (s06.free np) upd_same
    · refine ⟨_, rfl, _, _, rfl, rfl, fl, _, _, _, rfl, rfl, .inl (.inl hfl), (show atI [V.ref T.f_same_guess, .ref T.f_parting_row] (6 - 5) = some (.ref T.f_parting_row) from rfl), T.f_parting_row, _, _, _, rfl, (G_parting_row (P := P) T).mono (by decide), T.F_parting_row.kp, T.b_parting_row, _, rfl, _, rfl, _, _, rfl, .inr ⟨hG.same s1, h.same s1, fun H2 dd s2 nd => ?_⟩⟩
      have s2 := s1.trans s2
      refine ⟨true, T.em_InvalidGuesser_SoundError, fun _ ae nae => ?_, fun z => nomatch z⟩
      have hdd : upd (upd H2 dd (.xd [(Str.ofString "value", x)])) ae (ExK (.ref T.C_InvalidGuesser) (some dd) ae) dd = some (.xd [(Str.ofString "value", x)]) := by
        rw [upd_ne (ne_of_none upd_same nae), upd_same]
      have hae : upd (upd H2 dd (.xd [(Str.ofString "value", x)])) ae (ExK (.ref T.C_InvalidGuesser) (some dd) ae) ae = some (ExK (.ref T.C_InvalidGuesser) (some dd) ae) := upd_same
      have s3 := (s2.trans (same_upd (o := .xd [(Str.ofString "value", x)]) nd)).trans (same_upd (o := ExK (.ref T.C_InvalidGuesser) (some dd) ae) nae)
      refine ⟨_, rfl, _, rfl, rfl, _, rfl, iteDF (fun z => nomatch z) ⟨_, rfl, .inr ⟨ae, _, dd, _, _, _, _, rfl, hae, hdd, T.ei_InvalidGuesser, .own _, T.ki_InvalidGuesser_InvalidList, _, rfl, .inr ⟨ae, _, dd, _, _, _, _, rfl, hae, hdd, T.ei_InvalidGuesser, .own _, T.ki_InvalidGuesser_InvalidItem, _, rfl, .inr ⟨ae, _, dd, _, _, _, _, rfl, hae, hdd, T.ei_InvalidGuesser, .own _, T.ki_InvalidGuesser_InvalidNumber, (by show 3 ≤ sizeLine; decide), fun L nL => ?_⟩⟩⟩⟩⟩
      obtain ⟨H3, e3, s4, hL⟩ := fresh (.lst [V.bl false, .bl false, .bl false]) nL
      rw [e3]
      refine ⟨_, rfl, _, rfl, .inr ⟨ae, _, dd, _, _, _, _, rfl, s4 _ _ hae, s4 _ _ hdd, T.ei_InvalidGuesser, .own _, T.ki_InvalidGuesser_InvalidGuesser, _, rfl, .inr ⟨ae, _, dd, _, _, _, _, rfl, s4 _ _ hae, s4 _ _ hdd, T.ei_InvalidGuesser, .own _, T.ki_InvalidGuesser_InvalidDepth, _, rfl, .inr ⟨ae, _, dd, _, _, _, _, rfl, s4 _ _ hae, s4 _ _ hdd, T.ei_InvalidGuesser, .own _, T.ki_InvalidGuesser_InvalidRow, (by show 3 ≤ sizeLine; decide), fun L2 nL2 => ?_⟩⟩⟩⟩
      obtain ⟨H4, e4, s5, hL2⟩ := fresh (.lst [V.bl true, .bl false, .bl false]) nL2
      rw [e4]
      refine ⟨L, L2, _, _, rfl, rfl, s5 _ _ hL, hL2, by decide, fun L3 nL3 => ?_⟩
      obtain ⟨H5, e5, s6, hL3⟩ := fresh (.lst [V.bl false, .bl false, .bl false, .bl true, .bl false, .bl false]) nL3
      rw [show upd H4 L3 (.lst ([V.bl false, .bl false, .bl false] ++ [V.bl true, .bl false, .bl false])) = H5 from e5]
      have s36 := (s4.trans s5).trans s6
      have s06 := s3.trans s36
      refine ⟨_, rfl, .inl ⟨rfl, _, .inl (.inl hL3)⟩, L3, _, .bl true, 3, .bl true, rfl, rfl, .inl (.inl hL3), rfl, rfl, rfl, rfl, no3, _, rfl, ae, _, dd, _, x, rfl, s36 _ _ hae, s36 _ _ hdd, T.er_InvalidGuesser.xf, T.er_InvalidGuesser.sup.nov, rfl, (hS.same s06).repr ⟨(by show 2 ≤ sizeLine; decide), fun p np => ?_⟩⟩
      exact q _ p (s06.trans (same_upd np)) (s06.free np) upd_same
  · refine ⟨_, rfl, rfl, _, rfl, iteEF (by decide) ?_⟩
    refine ⟨_, rfl, rfl, _, rfl, iteEF (by decide) ?_⟩
    refine ⟨_, rfl, _, _, rfl, rfl, _, rfl, iteDF (by decide) ?_⟩
    refine ⟨_, rfl, rfl, _, rfl, iteEF (by decide) ?_⟩
    refine ⟨_, rfl, _, _, rfl, rfl, _, rfl, iteDF (by decide) ?_⟩
    refine ⟨_, rfl, _, _, rfl, rfl, _, rfl, iteDT (by decide) ?_⟩
    refine ⟨(by show 3 ≤ sizeLine; decide), fun fl nfl => ?_⟩
    obtain ⟨H1, e1, s1, hfl⟩ := fresh (.lst [V.ref T.f_bounds, .ref T.f_bound_rows, .ref T.f_bits_enough]) nfl
    rw [e1]
    rcases h with ⟨h, rfl, rfl⟩ | ⟨hG, h, rfl, rfl⟩
    · refine ⟨_, rfl, _, _, rfl, rfl, fl, _, _, _, rfl, rfl, .inl (.inl hfl), (show atI [V.ref T.f_bounds, .ref T.f_bound_rows, .ref T.f_bits_enough] (7 - 7) = some (.ref T.f_bounds) from rfl), T.f_bounds, _, _, _, rfl, (G_bounds (P := P) T).mono (by decide), T.F_bounds.kp, T.b_bounds, _, rfl, _, rfl, _, _, rfl, .inl ⟨h.same s1, fun H2 dd s2 nd => ?_⟩⟩
      have s2 := s1.trans s2
      refine ⟨true, T.em_InvalidGuesser_SoundError, fun _ ae nae => ?_, fun z => nomatch z⟩
      have hdd : upd (upd H2 dd (.xd [(Str.ofString "value", x)])) ae (ExK (.ref T.C_InvalidGuesser) (some dd) ae) dd = some (.xd [(Str.ofString "value", x)]) := by
        rw [upd_ne (ne_of_none upd_same nae), upd_same]
      have hae : upd (upd H2 dd (.xd [(Str.ofString "value", x)])) ae (ExK (.ref T.C_InvalidGuesser) (some dd) ae) ae = some (ExK (.ref T.C_InvalidGuesser) (some dd) ae) := upd_same
      have s3 := (s2.trans (same_upd (o := .xd [(Str.ofString "value", x)]) nd)).trans (same_upd (o := ExK (.ref T.C_InvalidGuesser) (some dd) ae) nae)
      refine ⟨_, rfl, _, rfl, rfl, _, rfl, iteDF (fun z => nomatch z) ⟨_, rfl, .inr ⟨ae, _, dd, _, _, _, _, rfl, hae, hdd, T.ei_InvalidGuesser, .own _, T.ki_InvalidGuesser_InvalidList, _, rfl, .inr ⟨ae, _, dd, _, _, _, _, rfl, hae, hdd, T.ei_InvalidGuesser, .own _, T.ki_InvalidGuesser_InvalidItem, _, rfl, .inr ⟨ae, _, dd, _, _, _, _, rfl, hae, hdd, T.ei_InvalidGuesser, .own _, T.ki_InvalidGuesser_InvalidNumber, (by show 3 ≤ sizeLine; decide), fun L nL => ?_⟩⟩⟩⟩⟩
      obtain ⟨H3, e3, s4, hL⟩ := fresh (.lst [V.bl false, .bl false, .bl false]) nL
      rw [e3]
      refine ⟨_, rfl, _, rfl, .inr ⟨ae, _, dd, _, _, _, _, rfl, s4 _ _ hae, s4 _ _ hdd, T.ei_InvalidGuesser, .own _, T.ki_InvalidGuesser_InvalidGuesser, _, rfl, .inr ⟨ae, _, dd, _, _, _, _, rfl, s4 _ _ hae, s4 _ _ hdd, T.ei_InvalidGuesser, .own _, T.ki_InvalidGuesser_InvalidDepth, _, rfl, .inr ⟨ae, _, dd, _, _, _, _, rfl, s4 _ _ hae, s4 _ _ hdd, T.ei_InvalidGuesser, .own _, T.ki_InvalidGuesser_InvalidRow, (by show 3 ≤ sizeLine; decide), fun L2 nL2 => ?_⟩⟩⟩⟩
      obtain ⟨H4, e4, s5, hL2⟩ := fresh (.lst [V.bl true, .bl false, .bl false]) nL2
      rw [e4]
      refine ⟨L, L2, _, _, rfl, rfl, s5 _ _ hL, hL2, by decide, fun L3 nL3 => ?_⟩
      obtain ⟨H5, e5, s6, hL3⟩ := fresh (.lst [V.bl false, .bl false, .bl false, .bl true, .bl false, .bl false]) nL3
      rw [show upd H4 L3 (.lst ([V.bl false, .bl false, .bl false] ++ [V.bl true, .bl false, .bl false])) = H5 from e5]
      have s36 := (s4.trans s5).trans s6
      have s06 := s3.trans s36
      refine ⟨_, rfl, .inl ⟨rfl, _, .inl (.inl hL3)⟩, L3, _, .bl true, 3, .bl true, rfl, rfl, .inl (.inl hL3), rfl, rfl, rfl, rfl, no3, _, rfl, ae, _, dd, _, x, rfl, s36 _ _ hae, s36 _ _ hdd, T.er_InvalidGuesser.xf, T.er_InvalidGuesser.sup.nov, rfl, (hS.same s06).repr ⟨(by show 2 ≤ sizeLine; decide), fun p np => ?_⟩⟩
      exact q _ p (s06.trans (same_upd np)) (s06.free np) upd_same
    · refine ⟨_, rfl, _, _, rfl, rfl, fl, _, _, _, rfl, rfl, .inl (.inl hfl), (show atI [V.ref T.f_bounds, .ref T.f_bound_rows, .ref T.f_bits_enough] (7 - 7) = some (.ref T.f_bounds) from rfl), T.f_bounds, _, _, _, rfl, (G_bounds (P := P) T).mono (by decide), T.F_bounds.kp, T.b_bounds, _, rfl, _, rfl, _, _, rfl, .inr ⟨hG.same s1, h.same s1, fun H2 dd s2 nd => ?_⟩⟩
      have s2 := s1.trans s2
      refine ⟨true, T.em_InvalidDepth_SoundError, fun _ ae nae => ?_, fun z => nomatch z⟩
      have hdd : upd (upd H2 dd (.xd [(Str.ofString "value", x)])) ae (ExK (.ref T.C_InvalidDepth) (some dd) ae) dd = some (.xd [(Str.ofString "value", x)]) := by
        rw [upd_ne (ne_of_none upd_same nae), upd_same]
      have hae : upd (upd H2 dd (.xd [(Str.ofString "value", x)])) ae (ExK (.ref T.C_InvalidDepth) (some dd) ae) ae = some (ExK (.ref T.C_InvalidDepth) (some dd) ae) := upd_same
      have s3 := (s2.trans (same_upd (o := .xd [(Str.ofString "value", x)]) nd)).trans (same_upd (o := ExK (.ref T.C_InvalidDepth) (some dd) ae) nae)
      refine ⟨_, rfl, _, rfl, rfl, _, rfl, iteDF (fun z => nomatch z) ⟨_, rfl, .inr ⟨ae, _, dd, _, _, _, _, rfl, hae, hdd, T.ei_InvalidDepth, .own _, T.ki_InvalidDepth_InvalidList, _, rfl, .inr ⟨ae, _, dd, _, _, _, _, rfl, hae, hdd, T.ei_InvalidDepth, .own _, T.ki_InvalidDepth_InvalidItem, _, rfl, .inr ⟨ae, _, dd, _, _, _, _, rfl, hae, hdd, T.ei_InvalidDepth, .own _, T.ki_InvalidDepth_InvalidNumber, (by show 3 ≤ sizeLine; decide), fun L nL => ?_⟩⟩⟩⟩⟩
      obtain ⟨H3, e3, s4, hL⟩ := fresh (.lst [V.bl false, .bl false, .bl false]) nL
      rw [e3]
      refine ⟨_, rfl, _, rfl, .inr ⟨ae, _, dd, _, _, _, _, rfl, s4 _ _ hae, s4 _ _ hdd, T.ei_InvalidDepth, .own _, T.ki_InvalidDepth_InvalidGuesser, _, rfl, .inr ⟨ae, _, dd, _, _, _, _, rfl, s4 _ _ hae, s4 _ _ hdd, T.ei_InvalidDepth, .own _, T.ki_InvalidDepth_InvalidDepth, _, rfl, .inr ⟨ae, _, dd, _, _, _, _, rfl, s4 _ _ hae, s4 _ _ hdd, T.ei_InvalidDepth, .own _, T.ki_InvalidDepth_InvalidRow, (by show 3 ≤ sizeLine; decide), fun L2 nL2 => ?_⟩⟩⟩⟩
      obtain ⟨H4, e4, s5, hL2⟩ := fresh (.lst [V.bl false, .bl true, .bl false]) nL2
      rw [e4]
      refine ⟨L, L2, _, _, rfl, rfl, s5 _ _ hL, hL2, by decide, fun L3 nL3 => ?_⟩
      obtain ⟨H5, e5, s6, hL3⟩ := fresh (.lst [V.bl false, .bl false, .bl false, .bl false, .bl true, .bl false]) nL3
      rw [show upd H4 L3 (.lst ([V.bl false, .bl false, .bl false] ++ [V.bl false, .bl true, .bl false])) = H5 from e5]
      have s36 := (s4.trans s5).trans s6
      have s06 := s3.trans s36
      refine ⟨_, rfl, .inl ⟨rfl, _, .inl (.inl hL3)⟩, L3, _, .bl true, 4, .bl true, rfl, rfl, .inl (.inl hL3), rfl, rfl, rfl, rfl, no4, _, rfl, ae, _, dd, _, x, rfl, s36 _ _ hae, s36 _ _ hdd, T.er_InvalidDepth.xf, T.er_InvalidDepth.sup.nov, rfl, (hS.same s06).repr ⟨(by show 2 ≤ sizeLine; decide), fun p np => ?_⟩⟩
      exact q _ p (s06.trans (same_upd np)) (s06.free np) upd_same
  · refine ⟨_, rfl, rfl, _, rfl, iteEF (by decide) ?_⟩
    refine ⟨_, rfl, rfl, _, rfl, iteEF (by decide) ?_⟩
    refine ⟨_, rfl, _, _, rfl, rfl, _, rfl, iteDF (by decide) ?_⟩
    refine ⟨_, rfl, rfl, _, rfl, iteEF (by decide) ?_⟩
    refine ⟨_, rfl, _, _, rfl, rfl, _, rfl, iteDF (by decide) ?_⟩
    refine ⟨_, rfl, _, _, rfl, rfl, _, rfl, iteDT (by decide) ?_⟩
    refine ⟨(by show 3 ≤ sizeLine; decide), fun fl nfl => ?_⟩
    obtain ⟨H1, e1, s1, hfl⟩ := fresh (.lst [V.ref T.f_bounds, .ref T.f_bound_rows, .ref T.f_bits_enough]) nfl
    rw [e1]
    rcases h with ⟨h, rfl, rfl⟩ | ⟨hG, h, rfl, rfl⟩
    · refine ⟨_, rfl, _, _, rfl, rfl, fl, _, _, _, rfl, rfl, .inl (.inl hfl), (show atI [V.ref T.f_bounds, .ref T.f_bound_rows, .ref T.f_bits_enough] (8 - 7) = some (.ref T.f_bound_rows) from rfl), T.f_bound_rows, _, _, _, rfl, (G_bound_rows (P := P) T).mono (by decide), T.F_bound_rows.kp, T.b_bound_rows, _, rfl, _, rfl, _, _, rfl, .inl ⟨h.same s1, fun H2 dd s2 nd => ?_⟩⟩
      have s2 := s1.trans s2
      refine ⟨true, T.em_InvalidGuesser_SoundError, fun _ ae nae => ?_, fun z => nomatch z⟩
      have hdd : upd (upd H2 dd (.xd [(Str.ofString "value", x)])) ae (ExK (.ref T.C_InvalidGuesser) (some dd) ae) dd = some (.xd [(Str.ofString "value", x)]) := by
        rw [upd_ne (ne_of_none upd_same nae), upd_same]
      have hae : upd (upd H2 dd (.xd [(Str.ofString "value", x)])) ae (ExK (.ref T.C_InvalidGuesser) (some dd) ae) ae = some (ExK (.ref T.C_InvalidGuesser) (some dd) ae) := upd_same
      have s3 := (s2.trans (same_upd (o := .xd [(Str.ofString "value", x)]) nd)).trans (same_upd (o := ExK (.ref T.C_InvalidGuesser) (some dd) ae) nae)
      refine ⟨_, rfl, _, rfl, rfl, _, rfl, iteDF (fun z => nomatch z) ⟨_, rfl, .inr ⟨ae, _, dd, _, _, _, _, rfl, hae, hdd, T.ei_InvalidGuesser, .own _, T.ki_InvalidGuesser_InvalidList, _, rfl, .inr ⟨ae, _, dd, _, _, _, _, rfl, hae, hdd, T.ei_InvalidGuesser, .own _, T.ki_InvalidGuesser_InvalidItem, _, rfl, .inr ⟨ae, _, dd, _, _, _, _, rfl, hae, hdd, T.ei_InvalidGuesser, .own _, T.ki_InvalidGuesser_InvalidNumber, (by show 3 ≤ sizeLine; decide), fun L nL => ?_⟩⟩⟩⟩⟩
      obtain ⟨H3, e3, s4, hL⟩ := fresh (.lst [V.bl false, .bl false, .bl false]) nL
      rw [e3]
      refine ⟨_, rfl, _, rfl, .inr ⟨ae, _, dd, _, _, _, _, rfl, s4 _ _ hae, s4 _ _ hdd, T.ei_InvalidGuesser, .own _, T.ki_InvalidGuesser_InvalidGuesser, _, rfl, .inr ⟨ae, _, dd, _, _, _, _, rfl, s4 _ _ hae, s4 _ _ hdd, T.ei_InvalidGuesser, .own _, T.ki_InvalidGuesser_InvalidDepth, _, rfl, .inr ⟨ae, _, dd, _, _, _, _, rfl, s4 _ _ hae, s4 _ _ hdd, T.ei_InvalidGuesser, .own _, T.ki_InvalidGuesser_InvalidRow, (by show 3 ≤ sizeLine; decide), fun L2 nL2 => ?_⟩⟩⟩⟩
      obtain ⟨H4, e4, s5, hL2⟩ := fresh (.lst [V.bl true, .bl false, .bl false]) nL2
      rw [e4]
      refine ⟨L, L2, _, _, rfl, rfl, s5 _ _ hL, hL2, by decide, fun L3 nL3 => ?_⟩
      obtain ⟨H5, e5, s6, hL3⟩ := fresh (.lst [V.bl false, .bl false, .bl false, .bl true, .bl false, .bl false]) nL3
      rw [show upd H4 L3 (.lst ([V.bl false, .bl false, .bl false] ++ [V.bl true, .bl false, .bl false])) = H5 from e5]
      have s36 := (s4.trans s5).trans s6
      have s06 := s3.trans s36
      refine ⟨_, rfl, .inl ⟨rfl, _, .inl (.inl hL3)⟩, L3, _, .bl true, 3, .bl true, rfl, rfl, .inl (.inl hL3), rfl, rfl, rfl, rfl, no3, _, rfl, ae, _, dd, _, x, rfl, s36 _ _ hae, s36 _ _ hdd, T.er_InvalidGuesser.xf, T.er_InvalidGuesser.sup.nov, rfl, (hS.same s06).repr ⟨(by show 2 ≤ sizeLine; decide), fun p np => ?_⟩⟩
      exact q _ p (s06.trans (same_upd np)) (s06.free np) upd_same
    · refine ⟨_, rfl, _, _, rfl, rfl, fl, _, _, _, rfl, rfl, .inl (.inl hfl), (show atI [V.ref T.f_bounds, .ref T.f_bound_rows, .ref T.f_bits_enough] (8 - 7) = some (.ref T.f_bound_rows) from rfl), T.f_bound_rows, _, _, _, rfl, (G_bound_rows (P := P) T).mono (by decide), T.F_bound_rows.kp, T.b_bound_rows, _, rfl, _, rfl, _, _, rfl, .inr ⟨hG.same s1, h.same s1, fun H2 dd s2 nd => ?_⟩⟩
      have s2 := s1.trans s2
      refine ⟨true, T.em_InvalidDepth_SoundError, fun _ ae nae => ?_, fun z => nomatch z⟩
      have hdd : upd (upd H2 dd (.xd [(Str.ofString "value", x)])) ae (ExK (.ref T.C_InvalidDepth) (some dd) ae) dd = some (.xd [(Str.ofString "value", x)]) := by
        rw [upd_ne (ne_of_none upd_same nae), upd_same]
      have hae : upd (upd H2 dd (.xd [(Str.ofString "value", x)])) ae (ExK (.ref T.C_InvalidDepth) (some dd) ae) ae = some (ExK (.ref T.C_InvalidDepth) (some dd) ae) := upd_same
      have s3 := (s2.trans (same_upd (o := .xd [(Str.ofString "value", x)]) nd)).trans (same_upd (o := ExK (.ref T.C_InvalidDepth) (some dd) ae) nae)
      refine ⟨_, rfl, _, rfl, rfl, _, rfl, iteDF (fun z => nomatch z) ⟨_, rfl, .inr ⟨ae, _, dd, _, _, _, _, rfl, hae, hdd, T.ei_InvalidDepth, .own _, T.ki_InvalidDepth_InvalidList, _, rfl, .inr ⟨ae, _, dd, _, _, _, _, rfl, hae, hdd, T.ei_InvalidDepth, .own _, T.ki_InvalidDepth_InvalidItem, _, rfl, .inr ⟨ae, _, dd, _, _, _, _, rfl, hae, hdd, T.ei_InvalidDepth, .own _, T.ki_InvalidDepth_InvalidNumber, (by show 3 ≤ sizeLine; decide), fun L nL => ?_⟩⟩⟩⟩⟩
      obtain ⟨H3, e3, s4, hL⟩ := fresh (.lst [V.bl false, .bl false, .bl false]) nL
      rw [e3]
      refine ⟨_, rfl, _, rfl, .inr ⟨ae, _, dd, _, _, _, _, rfl, s4 _ _ hae, s4 _ _ hdd, T.ei_InvalidDepth, .own _, T.ki_InvalidDepth_InvalidGuesser, _, rfl, .inr ⟨ae, _, dd, _, _, _, _, rfl, s4 _ _ hae, s4 _ _ hdd, T.ei_InvalidDepth, .own _, T.ki_InvalidDepth_InvalidDepth, _, rfl, .inr ⟨ae, _, dd, _, _, _, _, rfl, s4 _ _ hae, s4 _ _ hdd, T.ei_InvalidDepth, .own _, T.ki_InvalidDepth_InvalidRow, (by show 3 ≤ sizeLine; decide), fun L2 nL2 => ?_⟩⟩⟩⟩
      obtain ⟨H4, e4, s5, hL2⟩ := fresh (.lst [V.bl false, .bl true, .bl false]) nL2
      rw [e4]
      refine ⟨L, L2, _, _, rfl, rfl, s5 _ _ hL, hL2, by decide, fun L3 nL3 => ?_⟩
      obtain ⟨H5, e5, s6, hL3⟩ := fresh (.lst [V.bl false, .bl false, .bl false, .bl false, .bl true, .bl false]) nL3
      rw [show upd H4 L3 (.lst ([V.bl false, .bl false, .bl false] ++ [V.bl false, .bl true, .bl false])) = H5 from e5]
      have s36 := (s4.trans s5).trans s6
      have s06 := s3.trans s36
      refine ⟨_, rfl, .inl ⟨rfl, _, .inl (.inl hL3)⟩, L3, _, .bl true, 4, .bl true, rfl, rfl, .inl (.inl hL3), rfl, rfl, rfl, rfl, no4, _, rfl, ae, _, dd, _, x, rfl, s36 _ _ hae, s36 _ _ hdd, T.er_InvalidDepth.xf, T.er_InvalidDepth.sup.nov, rfl, (hS.same s06).repr ⟨(by show 2 ≤ sizeLine; decide), fun p np => ?_⟩⟩
      exact q _ p (s06.trans (same_upd np)) (s06.free np) upd_same
  · refine ⟨_, rfl, rfl, _, rfl, iteEF (by decide) ?_⟩
    refine ⟨_, rfl, rfl, _, rfl, iteEF (by decide) ?_⟩
    refine ⟨_, rfl, _, _, rfl, rfl, _, rfl, iteDF (by decide) ?_⟩
    refine ⟨_, rfl, rfl, _, rfl, iteEF (by decide) ?_⟩
    refine ⟨_, rfl, _, _, rfl, rfl, _, rfl, iteDF (by decide) ?_⟩
    refine ⟨_, rfl, _, _, rfl, rfl, _, rfl, iteDT (by decide) ?_⟩
    refine ⟨(by show 3 ≤ sizeLine; decide), fun fl nfl => ?_⟩
    obtain ⟨H1, e1, s1, hfl⟩ := fresh (.lst [V.ref T.f_bounds, .ref T.f_bound_rows, .ref T.f_bits_enough]) nfl
    rw [e1]
    rcases h with ⟨h, rfl, rfl⟩ | ⟨hG, h, rfl, rfl⟩
    · refine ⟨_, rfl, _, _, rfl, rfl, fl, _, _, _, rfl, rfl, .inl (.inl hfl), (show atI [V.ref T.f_bounds, .ref T.f_bound_rows, .ref T.f_bits_enough] (9 - 7) = some (.ref T.f_bits_enough) from rfl), T.f_bits_enough, _, _, _, rfl, (G_bits_enough (P := P) T).mono (by decide), T.F_bits_enough.kp, T.b_bits_enough, _, rfl, _, rfl, _, _, rfl, .inl ⟨h.same s1, fun H2 dd s2 nd => ?_⟩⟩
      have s2 := s1.trans s2
      refine ⟨true, T.em_InvalidGuesser_SoundError, fun _ ae nae => ?_, fun z => nomatch z⟩
      have hdd : upd (upd H2 dd (.xd [(Str.ofString "value", x)])) ae (ExK (.ref T.C_InvalidGuesser) (some dd) ae) dd = some (.xd [(Str.ofString "value", x)]) := by
        rw [upd_ne (ne_of_none upd_same nae), upd_same]
      have hae : upd (upd H2 dd (.xd [(Str.ofString "value", x)])) ae (ExK (.ref T.C_InvalidGuesser) (some dd) ae) ae = some (ExK (.ref T.C_InvalidGuesser) (some dd) ae) := upd_same
      have s3 := (s2.trans (same_upd (o := .xd [(Str.ofString "value", x)]) nd)).trans (same_upd (o := ExK (.ref T.C_InvalidGuesser) (some dd) ae) nae)
      refine ⟨_, rfl, _, rfl, rfl, _, rfl, iteDF (fun z => nomatch z) ⟨_, rfl, .inr ⟨ae, _, dd, _, _, _, _, rfl, hae, hdd, T.ei_InvalidGuesser, .own _, T.ki_InvalidGuesser_InvalidList, _, rfl, .inr ⟨ae, _, dd, _, _, _, _, rfl, hae, hdd, T.ei_InvalidGuesser, .own _, T.ki_InvalidGuesser_InvalidItem, _, rfl, .inr ⟨ae, _, dd, _, _, _, _, rfl, hae, hdd, T.ei_InvalidGuesser, .own _, T.ki_InvalidGuesser_InvalidNumber, (by show 3 ≤ sizeLine; decide), fun L nL => ?_⟩⟩⟩⟩⟩
      obtain ⟨H3, e3, s4, hL⟩ := fresh (.lst [V.bl false, .bl false, .bl false]) nL
      rw [e3]
      refine ⟨_, rfl, _, rfl, .inr ⟨ae, _, dd, _, _, _, _, rfl, s4 _ _ hae, s4 _ _ hdd, T.ei_InvalidGuesser, .own _, T.ki_InvalidGuesser_InvalidGuesser, _, rfl, .inr ⟨ae, _, dd, _, _, _, _, rfl, s4 _ _ hae, s4 _ _ hdd, T.ei_InvalidGuesser, .own _, T.ki_InvalidGuesser_InvalidDepth, _, rfl, .inr ⟨ae, _, dd, _, _, _, _, rfl, s4 _ _ hae, s4 _ _ hdd, T.ei_InvalidGuesser, .own _, T.ki_InvalidGuesser_InvalidRow, (by show 3 ≤ sizeLine; decide), fun L2 nL2 => ?_⟩⟩⟩⟩
      obtain ⟨H4, e4, s5, hL2⟩ := fresh (.lst [V.bl true, .bl false, .bl false]) nL2
      rw [e4]
      refine ⟨L, L2, _, _, rfl, rfl, s5 _ _ hL, hL2, by decide, fun L3 nL3 => ?_⟩
      obtain ⟨H5, e5, s6, hL3⟩ := fresh (.lst [V.bl false, .bl false, .bl false, .bl true, .bl false, .bl false]) nL3
      rw [show upd H4 L3 (.lst ([V.bl false, .bl false, .bl false] ++ [V.bl true, .bl false, .bl false])) = H5 from e5]
      have s36 := (s4.trans s5).trans s6
      have s06 := s3.trans s36
      refine ⟨_, rfl, .inl ⟨rfl, _, .inl (.inl hL3)⟩, L3, _, .bl true, 3, .bl true, rfl, rfl, .inl (.inl hL3), rfl, rfl, rfl, rfl, no3, _, rfl, ae, _, dd, _, x, rfl, s36 _ _ hae, s36 _ _ hdd, T.er_InvalidGuesser.xf, T.er_InvalidGuesser.sup.nov, rfl, (hS.same s06).repr ⟨(by show 2 ≤ sizeLine; decide), fun p np => ?_⟩⟩
      exact q _ p (s06.trans (same_upd np)) (s06.free np) upd_same
    · refine ⟨_, rfl, _, _, rfl, rfl, fl, _, _, _, rfl, rfl, .inl (.inl hfl), (show atI [V.ref T.f_bounds, .ref T.f_bound_rows, .ref T.f_bits_enough] (9 - 7) = some (.ref T.f_bits_enough) from rfl), T.f_bits_enough, _, _, _, rfl, (G_bits_enough (P := P) T).mono (by decide), T.F_bits_enough.kp, T.b_bits_enough, _, rfl, _, rfl, _, _, rfl, .inr ⟨hG.same s1, h.same s1, fun H2 dd s2 nd => ?_⟩⟩
      have s2 := s1.trans s2
      refine ⟨true, T.em_InvalidDepth_SoundError, fun _ ae nae => ?_, fun z => nomatch z⟩
      have hdd : upd (upd H2 dd (.xd [(Str.ofString "value", x)])) ae (ExK (.ref T.C_InvalidDepth) (some dd) ae) dd = some (.xd [(Str.ofString "value", x)]) := by
        rw [upd_ne (ne_of_none upd_same nae), upd_same]
      have hae : upd (upd H2 dd (.xd [(Str.ofString "value", x)])) ae (ExK (.ref T.C_InvalidDepth) (some dd) ae) ae = some (ExK (.ref T.C_InvalidDepth) (some dd) ae) := upd_same
      have s3 := (s2.trans (same_upd (o := .xd [(Str.ofString "value", x)]) nd)).trans (same_upd (o := ExK (.ref T.C_InvalidDepth) (some dd) ae) nae)
      refine ⟨_, rfl, _, rfl, rfl, _, rfl, iteDF (fun z => nomatch z) ⟨_, rfl, .inr ⟨ae, _, dd, _, _, _, _, rfl, hae, hdd, T.ei_InvalidDepth, .own _, T.ki_InvalidDepth_InvalidList, _, rfl, .inr ⟨ae, _, dd, _, _, _, _, rfl, hae, hdd, T.ei_InvalidDepth, .own _, T.ki_InvalidDepth_InvalidItem, _, rfl, .inr ⟨ae, _, dd, _, _, _, _, rfl, hae, hdd, T.ei_InvalidDepth, .own _, T.ki_InvalidDepth_InvalidNumber, (by show 3 ≤ sizeLine; decide), fun L nL => ?_⟩⟩⟩⟩⟩
      obtain ⟨H3, e3, s4, hL⟩ := fresh (.lst [V.bl false, .bl false, .bl false]) nL
      rw [e3]
      refine ⟨_, rfl, _, rfl, .inr ⟨ae, _, dd, _, _, _, _, rfl, s4 _ _ hae, s4 _ _ hdd, T.ei_InvalidDepth, .own _, T.ki_InvalidDepth_InvalidGuesser, _, rfl, .inr ⟨ae, _, dd, _, _, _, _, rfl, s4 _ _ hae, s4 _ _ hdd, T.ei_InvalidDepth, .own _, T.ki_InvalidDepth_InvalidDepth, _, rfl, .inr ⟨ae, _, dd, _, _, _, _, rfl, s4 _ _ hae, s4 _ _ hdd, T.ei_InvalidDepth, .own _, T.ki_InvalidDepth_InvalidRow, (by show 3 ≤ sizeLine; decide), fun L2 nL2 => ?_⟩⟩⟩⟩
      obtain ⟨H4, e4, s5, hL2⟩ := fresh (.lst [V.bl false, .bl true, .bl false]) nL2
      rw [e4]
      refine ⟨L, L2, _, _, rfl, rfl, s5 _ _ hL, hL2, by decide, fun L3 nL3 => ?_⟩
      obtain ⟨H5, e5, s6, hL3⟩ := fresh (.lst [V.bl false, .bl false, .bl false, .bl false, .bl true, .bl false]) nL3
      rw [show upd H4 L3 (.lst ([V.bl false, .bl false, .bl false] ++ [V.bl false, .bl true, .bl false])) = H5 from e5]
      have s36 := (s4.trans s5).trans s6
      have s06 := s3.trans s36
      refine ⟨_, rfl, .inl ⟨rfl, _, .inl (.inl hL3)⟩, L3, _, .bl true, 4, .bl true, rfl, rfl, .inl (.inl hL3), rfl, rfl, rfl, rfl, no4, _, rfl, ae, _, dd, _, x, rfl, s36 _ _ hae, s36 _ _ hdd, T.er_InvalidDepth.xf, T.er_InvalidDepth.sup.nov, rfl, (hS.same s06).repr ⟨(by show 2 ≤ sizeLine; decide), fun p np => ?_⟩⟩
      exact q _ p (s06.trans (same_upd np)) (s06.free np) upd_same
  · refine ⟨_, rfl, rfl, _, rfl, iteEF (by decide) ?_⟩
    refine ⟨_, rfl, rfl, _, rfl, iteEF (by decide) ?_⟩
    refine ⟨_, rfl, _, _, rfl, rfl, _, rfl, iteDF (by decide) ?_⟩
    refine ⟨_, rfl, rfl, _, rfl, iteEF (by decide) ?_⟩
    refine ⟨_, rfl, _, _, rfl, rfl, _, rfl, iteDF (by decide) ?_⟩
    refine ⟨_, rfl, _, _, rfl, rfl, _, rfl, iteDF (by decide) ?_⟩
    refine ⟨_, rfl, rfl, _, rfl, iteET (by decide) ?_⟩
    rcases h with ⟨h, rfl, rfl⟩ | ⟨hG, h, rfl, rfl⟩
    · refine ⟨_, rfl, _, rfl, _, _, rfl, .inl ⟨h, fun H2 dd s2 nd => ?_⟩⟩
      refine ⟨true, T.em_InvalidGuesser_SoundError, fun _ ae nae => ?_, fun z => nomatch z⟩
      have hdd : upd (upd H2 dd (.xd [(Str.ofString "value", x)])) ae (ExK (.ref T.C_InvalidGuesser) (some dd) ae) dd = some (.xd [(Str.ofString "value", x)]) := by
        rw [upd_ne (ne_of_none upd_same nae), upd_same]
      have hae : upd (upd H2 dd (.xd [(Str.ofString "value", x)])) ae (ExK (.ref T.C_InvalidGuesser) (some dd) ae) ae = some (ExK (.ref T.C_InvalidGuesser) (some dd) ae) := upd_same
      have s3 := (s2.trans (same_upd (o := .xd [(Str.ofString "value", x)]) nd)).trans (same_upd (o := ExK (.ref T.C_InvalidGuesser) (some dd) ae) nae)
      refine ⟨_, rfl, _, rfl, rfl, _, rfl, iteDF (fun z => nomatch z) ⟨_, rfl, .inr ⟨ae, _, dd, _, _, _, _, rfl, hae, hdd, T.ei_InvalidGuesser, .own _, T.ki_InvalidGuesser_InvalidList, _, rfl, .inr ⟨ae, _, dd, _, _, _, _, rfl, hae, hdd, T.ei_InvalidGuesser, .own _, T.ki_InvalidGuesser_InvalidItem, _, rfl, .inr ⟨ae, _, dd, _, _, _, _, rfl, hae, hdd, T.ei_InvalidGuesser, .own _, T.ki_InvalidGuesser_InvalidNumber, (by show 3 ≤ sizeLine; decide), fun L nL => ?_⟩⟩⟩⟩⟩
      obtain ⟨H3, e3, s4, hL⟩ := fresh (.lst [V.bl false, .bl false, .bl false]) nL
      rw [e3]
      refine ⟨_, rfl, _, rfl, .inr ⟨ae, _, dd, _, _, _, _, rfl, s4 _ _ hae, s4 _ _ hdd, T.ei_InvalidGuesser, .own _, T.ki_InvalidGuesser_InvalidGuesser, _, rfl, .inr ⟨ae, _, dd, _, _, _, _, rfl, s4 _ _ hae, s4 _ _ hdd, T.ei_InvalidGuesser, .own _, T.ki_InvalidGuesser_InvalidDepth, _, rfl, .inr ⟨ae, _, dd, _, _, _, _, rfl, s4 _ _ hae, s4 _ _ hdd, T.ei_InvalidGuesser, .own _, T.ki_InvalidGuesser_InvalidRow, (by show 3 ≤ sizeLine; decide), fun L2 nL2 => ?_⟩⟩⟩⟩
      obtain ⟨H4, e4, s5, hL2⟩ := fresh (.lst [V.bl true, .bl false, .bl false]) nL2
      rw [e4]
      refine ⟨L, L2, _, _, rfl, rfl, s5 _ _ hL, hL2, by decide, fun L3 nL3 => ?_⟩
      obtain ⟨H5, e5, s6, hL3⟩ := fresh (.lst [V.bl false, .bl false, .bl false, .bl true, .bl false, .bl false]) nL3
      rw [show upd H4 L3 (.lst ([V.bl false, .bl false, .bl false] ++ [V.bl true, .bl false, .bl false])) = H5 from e5]
      have s36 := (s4.trans s5).trans s6
      have s06 := s3.trans s36
      refine ⟨_, rfl, .inl ⟨rfl, _, .inl (.inl hL3)⟩, L3, _, .bl true, 3, .bl true, rfl, rfl, .inl (.inl hL3), rfl, rfl, rfl, rfl, no3, _, rfl, ae, _, dd, _, x, rfl, s36 _ _ hae, s36 _ _ hdd, T.er_InvalidGuesser.xf, T.er_InvalidGuesser.sup.nov, rfl, (hS.same s06).repr ⟨(by show 2 ≤ sizeLine; decide), fun p np => ?_⟩⟩
      exact q _ p (s06.trans (same_upd np)) (s06.free np) upd_same
    · refine ⟨_, rfl, _, rfl, _, _, rfl, .inr (.inl ⟨hG, h, fun H2 dd s2 nd => ?_⟩)⟩
      refine ⟨true, T.em_InvalidRow_SoundError, fun _ ae nae => ?_, fun z => nomatch z⟩
      have hdd : upd (upd H2 dd (.xd [(Str.ofString "value", x)])) ae (ExK (.ref T.C_InvalidRow) (some dd) ae) dd = some (.xd [(Str.ofString "value", x)]) := by
        rw [upd_ne (ne_of_none upd_same nae), upd_same]
      have hae : upd (upd H2 dd (.xd [(Str.ofString "value", x)])) ae (ExK (.ref T.C_InvalidRow) (some dd) ae) ae = some (ExK (.ref T.C_InvalidRow) (some dd) ae) := upd_same
      have s3 := (s2.trans (same_upd (o := .xd [(Str.ofString "value", x)]) nd)).trans (same_upd (o := ExK (.ref T.C_InvalidRow) (some dd) ae) nae)
      refine ⟨_, rfl, _, rfl, rfl, _, rfl, iteDF (fun z => nomatch z) ⟨_, rfl, .inr ⟨ae, _, dd, _, _, _, _, rfl, hae, hdd, T.ei_InvalidRow, .own _, T.ki_InvalidRow_InvalidList, _, rfl, .inr ⟨ae, _, dd, _, _, _, _, rfl, hae, hdd, T.ei_InvalidRow, .own _, T.ki_InvalidRow_InvalidItem, _, rfl, .inr ⟨ae, _, dd, _, _, _, _, rfl, hae, hdd, T.ei_InvalidRow, .own _, T.ki_InvalidRow_InvalidNumber, (by show 3 ≤ sizeLine; decide), fun L nL => ?_⟩⟩⟩⟩⟩
      obtain ⟨H3, e3, s4, hL⟩ := fresh (.lst [V.bl false, .bl false, .bl false]) nL
      rw [e3]
      refine ⟨_, rfl, _, rfl, .inr ⟨ae, _, dd, _, _, _, _, rfl, s4 _ _ hae, s4 _ _ hdd, T.ei_InvalidRow, .own _, T.ki_InvalidRow_InvalidGuesser, _, rfl, .inr ⟨ae, _, dd, _, _, _, _, rfl, s4 _ _ hae, s4 _ _ hdd, T.ei_InvalidRow, .own _, T.ki_InvalidRow_InvalidDepth, _, rfl, .inr ⟨ae, _, dd, _, _, _, _, rfl, s4 _ _ hae, s4 _ _ hdd, T.ei_InvalidRow, .own _, T.ki_InvalidRow_InvalidRow, (by show 3 ≤ sizeLine; decide), fun L2 nL2 => ?_⟩⟩⟩⟩
      obtain ⟨H4, e4, s5, hL2⟩ := fresh (.lst [V.bl false, .bl false, .bl true]) nL2
      rw [e4]
      refine ⟨L, L2, _, _, rfl, rfl, s5 _ _ hL, hL2, by decide, fun L3 nL3 => ?_⟩
      obtain ⟨H5, e5, s6, hL3⟩ := fresh (.lst [V.bl false, .bl false, .bl false, .bl false, .bl false, .bl true]) nL3
      rw [show upd H4 L3 (.lst ([V.bl false, .bl false, .bl false] ++ [V.bl false, .bl false, .bl true])) = H5 from e5]
      have s36 := (s4.trans s5).trans s6
      have s06 := s3.trans s36
      refine ⟨_, rfl, .inl ⟨rfl, _, .inl (.inl hL3)⟩, L3, _, .bl true, 5, .bl true, rfl, rfl, .inl (.inl hL3), rfl, rfl, rfl, rfl, no5, _, rfl, ae, _, dd, _, x, rfl, s36 _ _ hae, s36 _ _ hdd, T.er_InvalidRow.xf, T.er_InvalidRow.sup.nov, rfl, (hS.same s06).repr ⟨(by show 2 ≤ sizeLine; decide), fun p np => ?_⟩⟩
      exact q _ p (s06.trans (same_upd np)) (s06.free np) upd_same
  · refine ⟨_, rfl, rfl, _, rfl, iteEF (by decide) ?_⟩
    refine ⟨_, rfl, rfl, _, rfl, iteEF (by decide) ?_⟩
    refine ⟨_, rfl, _, _, rfl, rfl, _, rfl, iteDF (by decide) ?_⟩
    refine ⟨_, rfl, rfl, _, rfl, iteEF (by decide) ?_⟩
    refine ⟨_, rfl, _, _, rfl, rfl, _, rfl, iteDF (by decide) ?_⟩
    refine ⟨_, rfl, _, _, rfl, rfl, _, rfl, iteDF (by decide) ?_⟩
    refine ⟨_, rfl, rfl, _, rfl, iteEF (by decide) ?_⟩
    refine ⟨_, rfl, rfl, _, rfl, iteET (by decide) ?_⟩
    rcases h with (⟨h, rfl, rfl⟩ | ⟨hG, ⟨h, rfl, rfl⟩ | ⟨dd, rfl, d1, d2, h, rfl, rfl⟩⟩) | ⟨a, b, ws, sh, dd, row, rfl, rfl, rfl, hG, hb, d1, d2, hs, hl, hN, rfl, rfl⟩
    · refine ⟨_, rfl, _, rfl, _, rfl, _, rfl, _, _, _, _, rfl, .inl ⟨3, _, .inl ⟨h, rfl, rfl⟩, fun H2 dd s2 nd => ?_⟩⟩
      refine ⟨true, T.em_InvalidGuesser_SoundError, fun _ ae nae => ?_, fun z => nomatch z⟩
      have hdd : upd (upd H2 dd (.xd [(Str.ofString "value", x)])) ae (ExK (.ref T.C_InvalidGuesser) (some dd) ae) dd = some (.xd [(Str.ofString "value", x)]) := by
        rw [upd_ne (ne_of_none upd_same nae), upd_same]
      have hae : upd (upd H2 dd (.xd [(Str.ofString "value", x)])) ae (ExK (.ref T.C_InvalidGuesser) (some dd) ae) ae = some (ExK (.ref T.C_InvalidGuesser) (some dd) ae) := upd_same
      have s3 := (s2.trans (same_upd (o := .xd [(Str.ofString "value", x)]) nd)).trans (same_upd (o := ExK (.ref T.C_InvalidGuesser) (some dd) ae) nae)
      refine ⟨_, rfl, _, rfl, rfl, _, rfl, iteDF (fun z => nomatch z) ⟨_, rfl, .inr ⟨ae, _, dd, _, _, _, _, rfl, hae, hdd, T.ei_InvalidGuesser, .own _, T.ki_InvalidGuesser_InvalidList, _, rfl, .inr ⟨ae, _, dd, _, _, _, _, rfl, hae, hdd, T.ei_InvalidGuesser, .own _, T.ki_InvalidGuesser_InvalidItem, _, rfl, .inr ⟨ae, _, dd, _, _, _, _, rfl, hae, hdd, T.ei_InvalidGuesser, .own _, T.ki_InvalidGuesser_InvalidNumber, (by show 3 ≤ sizeLine; decide), fun L nL => ?_⟩⟩⟩⟩⟩
      obtain ⟨H3, e3, s4, hL⟩ := fresh (.lst [V.bl false, .bl false, .bl false]) nL
      rw [e3]
      refine ⟨_, rfl, _, rfl, .inr ⟨ae, _, dd, _, _, _, _, rfl, s4 _ _ hae, s4 _ _ hdd, T.ei_InvalidGuesser, .own _, T.ki_InvalidGuesser_InvalidGuesser, _, rfl, .inr ⟨ae, _, dd, _, _, _, _, rfl, s4 _ _ hae, s4 _ _ hdd, T.ei_InvalidGuesser, .own _, T.ki_InvalidGuesser_InvalidDepth, _, rfl, .inr ⟨ae, _, dd, _, _, _, _, rfl, s4 _ _ hae, s4 _ _ hdd, T.ei_InvalidGuesser, .own _, T.ki_InvalidGuesser_InvalidRow, (by show 3 ≤ sizeLine; decide), fun L2 nL2 => ?_⟩⟩⟩⟩
      obtain ⟨H4, e4, s5, hL2⟩ := fresh (.lst [V.bl true, .bl false, .bl false]) nL2
      rw [e4]
      refine ⟨L, L2, _, _, rfl, rfl, s5 _ _ hL, hL2, by decide, fun L3 nL3 => ?_⟩
      obtain ⟨H5, e5, s6, hL3⟩ := fresh (.lst [V.bl false, .bl false, .bl false, .bl true, .bl false, .bl false]) nL3
      rw [show upd H4 L3 (.lst ([V.bl false, .bl false, .bl false] ++ [V.bl true, .bl false, .bl false])) = H5 from e5]
      have s36 := (s4.trans s5).trans s6
      have s06 := s3.trans s36
      refine ⟨_, rfl, .inl ⟨rfl, _, .inl (.inl hL3)⟩, L3, _, .bl true, 3, .bl true, rfl, rfl, .inl (.inl hL3), rfl, rfl, rfl, rfl, no3, _, rfl, ae, _, dd, _, x, rfl, s36 _ _ hae, s36 _ _ hdd, T.er_InvalidGuesser.xf, T.er_InvalidGuesser.sup.nov, rfl, (hS.same s06).repr ⟨(by show 2 ≤ sizeLine; decide), fun p np => ?_⟩⟩
      exact q _ p (s06.trans (same_upd np)) (s06.free np) upd_same
    · refine ⟨_, rfl, _, rfl, _, rfl, _, rfl, _, _, _, _, rfl, .inl ⟨4, _, .inr ⟨hG, .inl ⟨h, rfl, rfl⟩⟩, fun H2 dd s2 nd => ?_⟩⟩
      refine ⟨true, T.em_InvalidDepth_SoundError, fun _ ae nae => ?_, fun z => nomatch z⟩
      have hdd : upd (upd H2 dd (.xd [(Str.ofString "value", x)])) ae (ExK (.ref T.C_InvalidDepth) (some dd) ae) dd = some (.xd [(Str.ofString "value", x)]) := by
        rw [upd_ne (ne_of_none upd_same nae), upd_same]
      have hae : upd (upd H2 dd (.xd [(Str.ofString "value", x)])) ae (ExK (.ref T.C_InvalidDepth) (some dd) ae) ae = some (ExK (.ref T.C_InvalidDepth) (some dd) ae) := upd_same
      have s3 := (s2.trans (same_upd (o := .xd [(Str.ofString "value", x)]) nd)).trans (same_upd (o := ExK (.ref T.C_InvalidDepth) (some dd) ae) nae)
      refine ⟨_, rfl, _, rfl, rfl, _, rfl, iteDF (fun z => nomatch z) ⟨_, rfl, .inr ⟨ae, _, dd, _, _, _, _, rfl, hae, hdd, T.ei_InvalidDepth, .own _, T.ki_InvalidDepth_InvalidList, _, rfl, .inr ⟨ae, _, dd, _, _, _, _, rfl, hae, hdd, T.ei_InvalidDepth, .own _, T.ki_InvalidDepth_InvalidItem, _, rfl, .inr ⟨ae, _, dd, _, _, _, _, rfl, hae, hdd, T.ei_InvalidDepth, .own _, T.ki_InvalidDepth_InvalidNumber, (by show 3 ≤ sizeLine; decide), fun L nL => ?_⟩⟩⟩⟩⟩
      obtain ⟨H3, e3, s4, hL⟩ := fresh (.lst [V.bl false, .bl false, .bl false]) nL
      rw [e3]
      refine ⟨_, rfl, _, rfl, .inr ⟨ae, _, dd, _, _, _, _, rfl, s4 _ _ hae, s4 _ _ hdd, T.ei_InvalidDepth, .own _, T.ki_InvalidDepth_InvalidGuesser, _, rfl, .inr ⟨ae, _, dd, _, _, _, _, rfl, s4 _ _ hae, s4 _ _ hdd, T.ei_InvalidDepth, .own _, T.ki_InvalidDepth_InvalidDepth, _, rfl, .inr ⟨ae, _, dd, _, _, _, _, rfl, s4 _ _ hae, s4 _ _ hdd, T.ei_InvalidDepth, .own _, T.ki_InvalidDepth_InvalidRow, (by show 3 ≤ sizeLine; decide), fun L2 nL2 => ?_⟩⟩⟩⟩
      obtain ⟨H4, e4, s5, hL2⟩ := fresh (.lst [V.bl false, .bl true, .bl false]) nL2
      rw [e4]
      refine ⟨L, L2, _, _, rfl, rfl, s5 _ _ hL, hL2, by decide, fun L3 nL3 => ?_⟩
      obtain ⟨H5, e5, s6, hL3⟩ := fresh (.lst [V.bl false, .bl false, .bl false, .bl false, .bl true, .bl false]) nL3
      rw [show upd H4 L3 (.lst ([V.bl false, .bl false, .bl false] ++ [V.bl false, .bl true, .bl false])) = H5 from e5]
      have s36 := (s4.trans s5).trans s6
      have s06 := s3.trans s36
      refine ⟨_, rfl, .inl ⟨rfl, _, .inl (.inl hL3)⟩, L3, _, .bl true, 4, .bl true, rfl, rfl, .inl (.inl hL3), rfl, rfl, rfl, rfl, no4, _, rfl, ae, _, dd, _, x, rfl, s36 _ _ hae, s36 _ _ hdd, T.er_InvalidDepth.xf, T.er_InvalidDepth.sup.nov, rfl, (hS.same s06).repr ⟨(by show 2 ≤ sizeLine; decide), fun p np => ?_⟩⟩
      exact q _ p (s06.trans (same_upd np)) (s06.free np) upd_same
    · refine ⟨_, rfl, _, rfl, _, rfl, _, rfl, _, _, _, _, rfl, .inl ⟨5, _, .inr ⟨hG, .inr ⟨dd, rfl, d1, d2, h, rfl, rfl⟩⟩, fun H2 dd s2 nd => ?_⟩⟩
      refine ⟨true, T.em_InvalidRow_SoundError, fun _ ae nae => ?_, fun z => nomatch z⟩
      have hdd : upd (upd H2 dd (.xd [(Str.ofString "value", x)])) ae (ExK (.ref T.C_InvalidRow) (some dd) ae) dd = some (.xd [(Str.ofString "value", x)]) := by
        rw [upd_ne (ne_of_none upd_same nae), upd_same]
      have hae : upd (upd H2 dd (.xd [(Str.ofString "value", x)])) ae (ExK (.ref T.C_InvalidRow) (some dd) ae) ae = some (ExK (.ref T.C_InvalidRow) (some dd) ae) := upd_same
      have s3 := (s2.trans (same_upd (o := .xd [(Str.ofString "value", x)]) nd)).trans (same_upd (o := ExK (.ref T.C_InvalidRow) (some dd) ae) nae)
      refine ⟨_, rfl, _, rfl, rfl, _, rfl, iteDF (fun z => nomatch z) ⟨_, rfl, .inr ⟨ae, _, dd, _, _, _, _, rfl, hae, hdd, T.ei_InvalidRow, .own _, T.ki_InvalidRow_InvalidList, _, rfl, .inr ⟨ae, _, dd, _, _, _, _, rfl, hae, hdd, T.ei_InvalidRow, .own _, T.ki_InvalidRow_InvalidItem, _, rfl, .inr ⟨ae, _, dd, _, _, _, _, rfl, hae, hdd, T.ei_InvalidRow, .own _, T.ki_InvalidRow_InvalidNumber, (by show 3 ≤ sizeLine; decide), fun L nL => ?_⟩⟩⟩⟩⟩
      obtain ⟨H3, e3, s4, hL⟩ := fresh (.lst [V.bl false, .bl false, .bl false]) nL
      rw [e3]
      refine ⟨_, rfl, _, rfl, .inr ⟨ae, _, dd, _, _, _, _, rfl, s4 _ _ hae, s4 _ _ hdd, T.ei_InvalidRow, .own _, T.ki_InvalidRow_InvalidGuesser, _, rfl, .inr ⟨ae, _, dd, _, _, _, _, rfl, s4 _ _ hae, s4 _ _ hdd, T.ei_InvalidRow, .own _, T.ki_InvalidRow_InvalidDepth, _, rfl, .inr ⟨ae, _, dd, _, _, _, _, rfl, s4 _ _ hae, s4 _ _ hdd, T.ei_InvalidRow, .own _, T.ki_InvalidRow_InvalidRow, (by show 3 ≤ sizeLine; decide), fun L2 nL2 => ?_⟩⟩⟩⟩
      obtain ⟨H4, e4, s5, hL2⟩ := fresh (.lst [V.bl false, .bl false, .bl true]) nL2
      rw [e4]
      refine ⟨L, L2, _, _, rfl, rfl, s5 _ _ hL, hL2, by decide, fun L3 nL3 => ?_⟩
      obtain ⟨H5, e5, s6, hL3⟩ := fresh (.lst [V.bl false, .bl false, .bl false, .bl false, .bl false, .bl true]) nL3
      rw [show upd H4 L3 (.lst ([V.bl false, .bl false, .bl false] ++ [V.bl false, .bl false, .bl true])) = H5 from e5]
      have s36 := (s4.trans s5).trans s6
      have s06 := s3.trans s36
      refine ⟨_, rfl, .inl ⟨rfl, _, .inl (.inl hL3)⟩, L3, _, .bl true, 5, .bl true, rfl, rfl, .inl (.inl hL3), rfl, rfl, rfl, rfl, no5, _, rfl, ae, _, dd, _, x, rfl, s36 _ _ hae, s36 _ _ hdd, T.er_InvalidRow.xf, T.er_InvalidRow.sup.nov, rfl, (hS.same s06).repr ⟨(by show 2 ≤ sizeLine; decide), fun p np => ?_⟩⟩
      exact q _ p (s06.trans (same_upd np)) (s06.free np) upd_same
    · refine ⟨_, rfl, _, rfl, _, rfl, _, rfl, _, _, _, _, rfl, .inr ⟨a, b, ws, sh, dd, row, rfl, rfl, rfl, hG, hb, d1, d2, hs, hl, .inl ⟨hN, fun H2 dd s2 nd => ?_⟩⟩⟩
      refine ⟨true, T.em_InvalidNumber_SoundError, fun _ ae nae => ?_, fun z => nomatch z⟩
      have hdd : upd (upd H2 dd (.xd [(Str.ofString "value", x)])) ae (ExK (.ref T.C_InvalidNumber) (some dd) ae) dd = some (.xd [(Str.ofString "value", x)]) := by
        rw [upd_ne (ne_of_none upd_same nae), upd_same]
      have hae : upd (upd H2 dd (.xd [(Str.ofString "value", x)])) ae (ExK (.ref T.C_InvalidNumber) (some dd) ae) ae = some (ExK (.ref T.C_InvalidNumber) (some dd) ae) := upd_same
      have s3 := (s2.trans (same_upd (o := .xd [(Str.ofString "value", x)]) nd)).trans (same_upd (o := ExK (.ref T.C_InvalidNumber) (some dd) ae) nae)
      refine ⟨_, rfl, _, rfl, rfl, _, rfl, iteDF (fun z => nomatch z) ⟨_, rfl, .inr ⟨ae, _, dd, _, _, _, _, rfl, hae, hdd, T.ei_InvalidNumber, .own _, T.ki_InvalidNumber_InvalidList, _, rfl, .inr ⟨ae, _, dd, _, _, _, _, rfl, hae, hdd, T.ei_InvalidNumber, .own _, T.ki_InvalidNumber_InvalidItem, _, rfl, .inr ⟨ae, _, dd, _, _, _, _, rfl, hae, hdd, T.ei_InvalidNumber, .own _, T.ki_InvalidNumber_InvalidNumber, (by show 3 ≤ sizeLine; decide), fun L nL => ?_⟩⟩⟩⟩⟩
      obtain ⟨H3, e3, s4, hL⟩ := fresh (.lst [V.bl false, .bl false, .bl true]) nL
      rw [e3]
      refine ⟨_, rfl, _, rfl, .inr ⟨ae, _, dd, _, _, _, _, rfl, s4 _ _ hae, s4 _ _ hdd, T.ei_InvalidNumber, .own _, T.ki_InvalidNumber_InvalidGuesser, _, rfl, .inr ⟨ae, _, dd, _, _, _, _, rfl, s4 _ _ hae, s4 _ _ hdd, T.ei_InvalidNumber, .own _, T.ki_InvalidNumber_InvalidDepth, _, rfl, .inr ⟨ae, _, dd, _, _, _, _, rfl, s4 _ _ hae, s4 _ _ hdd, T.ei_InvalidNumber, .own _, T.ki_InvalidNumber_InvalidRow, (by show 3 ≤ sizeLine; decide), fun L2 nL2 => ?_⟩⟩⟩⟩
      obtain ⟨H4, e4, s5, hL2⟩ := fresh (.lst [V.bl false, .bl false, .bl false]) nL2
      rw [e4]
      refine ⟨L, L2, _, _, rfl, rfl, s5 _ _ hL, hL2, by decide, fun L3 nL3 => ?_⟩
      obtain ⟨H5, e5, s6, hL3⟩ := fresh (.lst [V.bl false, .bl false, .bl true, .bl false, .bl false, .bl false]) nL3
      rw [show upd H4 L3 (.lst ([V.bl false, .bl false, .bl true] ++ [V.bl false, .bl false, .bl false])) = H5 from e5]
      have s36 := (s4.trans s5).trans s6
      have s06 := s3.trans s36
      refine ⟨_, rfl, .inl ⟨rfl, _, .inl (.inl hL3)⟩, L3, _, .bl true, 2, .bl true, rfl, rfl, .inl (.inl hL3), rfl, rfl, rfl, rfl, no2, _, rfl, ae, _, dd, _, x, rfl, s36 _ _ hae, s36 _ _ hdd, T.er_InvalidNumber.xf, T.er_InvalidNumber.sup.nov, rfl, (hS.same s06).repr ⟨(by show 2 ≤ sizeLine; decide), fun p np => ?_⟩⟩
      exact q _ p (s06.trans (same_upd np)) (s06.free np) upd_same
  · refine ⟨_, rfl, rfl, _, rfl, iteEF (by decide) ?_⟩
    refine ⟨_, rfl, rfl, _, rfl, iteEF (by decide) ?_⟩
    refine ⟨_, rfl, _, _, rfl, rfl, _, rfl, iteDF (by decide) ?_⟩
    refine ⟨_, rfl, rfl, _, rfl, iteEF (by decide) ?_⟩
    refine ⟨_, rfl, _, _, rfl, rfl, _, rfl, iteDF (by decide) ?_⟩
    refine ⟨_, rfl, _, _, rfl, rfl, _, rfl, iteDF (by decide) ?_⟩
    refine ⟨_, rfl, rfl, _, rfl, iteEF (by decide) ?_⟩
    refine ⟨_, rfl, rfl, _, rfl, iteEF (by decide) ?_⟩
    refine ⟨(by show 2 ≤ sizeLine; decide), fun fl nfl => ?_⟩
    obtain ⟨H1, e1, s1, hfl⟩ := fresh (.lst [V.ref T.f_normal, .ref T.f_steps]) nfl
    rw [e1]
    obtain ⟨h, rfl, rfl⟩ := h
    refine ⟨_, rfl, _, _, rfl, rfl, fl, _, _, _, rfl, rfl, .inl (.inl hfl), (show atI [V.ref T.f_normal, .ref T.f_steps] (12 - 12) = some (.ref T.f_normal) from rfl), T.f_normal, _, _, _, rfl, (G_normal (P := P) T).mono (by decide), T.F_normal.kp, T.b_normal, _, rfl, _, rfl, h.same s1, fun H2 dd s2 nd => ?_⟩
    have s2 := s1.trans s2
    refine ⟨true, T.em_InvalidGuesser_SoundError, fun _ ae nae => ?_, fun z => nomatch z⟩
    have hdd : upd (upd H2 dd (.xd [(Str.ofString "value", x)])) ae (ExK (.ref T.C_InvalidGuesser) (some dd) ae) dd = some (.xd [(Str.ofString "value", x)]) := by
      rw [upd_ne (ne_of_none upd_same nae), upd_same]
    have hae : upd (upd H2 dd (.xd [(Str.ofString "value", x)])) ae (ExK (.ref T.C_InvalidGuesser) (some dd) ae) ae = some (ExK (.ref T.C_InvalidGuesser) (some dd) ae) := upd_same
    have s3 := (s2.trans (same_upd (o := .xd [(Str.ofString "value", x)]) nd)).trans (same_upd (o := ExK (.ref T.C_InvalidGuesser) (some dd) ae) nae)
    refine ⟨_, rfl, _, rfl, rfl, _, rfl, iteDF (fun z => nomatch z) ⟨_, rfl, .inr ⟨ae, _, dd, _, _, _, _, rfl, hae, hdd, T.ei_InvalidGuesser, .own _, T.ki_InvalidGuesser_InvalidList, _, rfl, .inr ⟨ae, _, dd, _, _, _, _, rfl, hae, hdd, T.ei_InvalidGuesser, .own _, T.ki_InvalidGuesser_InvalidItem, _, rfl, .inr ⟨ae, _, dd, _, _, _, _, rfl, hae, hdd, T.ei_InvalidGuesser, .own _, T.ki_InvalidGuesser_InvalidNumber, (by show 3 ≤ sizeLine; decide), fun L nL => ?_⟩⟩⟩⟩⟩
    obtain ⟨H3, e3, s4, hL⟩ := fresh (.lst [V.bl false, .bl false, .bl false]) nL
    rw [e3]
    refine ⟨_, rfl, _, rfl, .inr ⟨ae, _, dd, _, _, _, _, rfl, s4 _ _ hae, s4 _ _ hdd, T.ei_InvalidGuesser, .own _, T.ki_InvalidGuesser_InvalidGuesser, _, rfl, .inr ⟨ae, _, dd, _, _, _, _, rfl, s4 _ _ hae, s4 _ _ hdd, T.ei_InvalidGuesser, .own _, T.ki_InvalidGuesser_InvalidDepth, _, rfl, .inr ⟨ae, _, dd, _, _, _, _, rfl, s4 _ _ hae, s4 _ _ hdd, T.ei_InvalidGuesser, .own _, T.ki_InvalidGuesser_InvalidRow, (by show 3 ≤ sizeLine; decide), fun L2 nL2 => ?_⟩⟩⟩⟩
    obtain ⟨H4, e4, s5, hL2⟩ := fresh (.lst [V.bl true, .bl false, .bl false]) nL2
    rw [e4]
    refine ⟨L, L2, _, _, rfl, rfl, s5 _ _ hL, hL2, by decide, fun L3 nL3 => ?_⟩
    obtain ⟨H5, e5, s6, hL3⟩ := fresh (.lst [V.bl false, .bl false, .bl false, .bl true, .bl false, .bl false]) nL3
    rw [show upd H4 L3 (.lst ([V.bl false, .bl false, .bl false] ++ [V.bl true, .bl false, .bl false])) = H5 from e5]
    have s36 := (s4.trans s5).trans s6
    have s06 := s3.trans s36
    refine ⟨_, rfl, .inl ⟨rfl, _, .inl (.inl hL3)⟩, L3, _, .bl true, 3, .bl true, rfl, rfl, .inl (.inl hL3), rfl, rfl, rfl, rfl, no3, _, rfl, ae, _, dd, _, x, rfl, s36 _ _ hae, s36 _ _ hdd, T.er_InvalidGuesser.xf, T.er_InvalidGuesser.sup.nov, rfl, (hS.same s06).repr ⟨(by show 2 ≤ sizeLine; decide), fun p np => ?_⟩⟩
    exact q _ p (s06.trans (same_upd np)) (s06.free np) upd_same
  · refine ⟨_, rfl, rfl, _, rfl, iteEF (by decide) ?_⟩
    refine ⟨_, rfl, rfl, _, rfl, iteEF (by decide) ?_⟩
    refine ⟨_, rfl, _, _, rfl, rfl, _, rfl, iteDF (by decide) ?_⟩
    refine ⟨_, rfl, rfl, _, rfl, iteEF (by decide) ?_⟩
    refine ⟨_, rfl, _, _, rfl, rfl, _, rfl, iteDF (by decide) ?_⟩
    refine ⟨_, rfl, _, _, rfl, rfl, _, rfl, iteDF (by decide) ?_⟩
    refine ⟨_, rfl, rfl, _, rfl, iteEF (by decide) ?_⟩
    refine ⟨_, rfl, rfl, _, rfl, iteEF (by decide) ?_⟩
    refine ⟨(by show 2 ≤ sizeLine; decide), fun fl nfl => ?_⟩
    obtain ⟨H1, e1, s1, hfl⟩ := fresh (.lst [V.ref T.f_normal, .ref T.f_steps]) nfl
    rw [e1]
    obtain ⟨h, rfl, rfl⟩ := h
    refine ⟨_, rfl, _, _, rfl, rfl, fl, _, _, _, rfl, rfl, .inl (.inl hfl), (show atI [V.ref T.f_normal, .ref T.f_steps] (13 - 12) = some (.ref T.f_steps) from rfl), T.f_steps, _, _, _, rfl, (G_steps (P := P) T).mono (by decide), T.F_steps.kp, T.b_steps, _, rfl, _, rfl, h.same s1, fun H2 dd s2 nd => ?_⟩
    have s2 := s1.trans s2
    refine ⟨true, T.em_InvalidNumber_SoundError, fun _ ae nae => ?_, fun z => nomatch z⟩
    have hdd : upd (upd H2 dd (.xd [(Str.ofString "value", x)])) ae (ExK (.ref T.C_InvalidNumber) (some dd) ae) dd = some (.xd [(Str.ofString "value", x)]) := by
      rw [upd_ne (ne_of_none upd_same nae), upd_same]
    have hae : upd (upd H2 dd (.xd [(Str.ofString "value", x)])) ae (ExK (.ref T.C_InvalidNumber) (some dd) ae) ae = some (ExK (.ref T.C_InvalidNumber) (some dd) ae) := upd_same
    have s3 := (s2.trans (same_upd (o := .xd [(Str.ofString "value", x)]) nd)).trans (same_upd (o := ExK (.ref T.C_InvalidNumber) (some dd) ae) nae)
    refine ⟨_, rfl, _, rfl, rfl, _, rfl, iteDF (fun z => nomatch z) ⟨_, rfl, .inr ⟨ae, _, dd, _, _, _, _, rfl, hae, hdd, T.ei_InvalidNumber, .own _, T.ki_InvalidNumber_InvalidList, _, rfl, .inr ⟨ae, _, dd, _, _, _, _, rfl, hae, hdd, T.ei_InvalidNumber, .own _, T.ki_InvalidNumber_InvalidItem, _, rfl, .inr ⟨ae, _, dd, _, _, _, _, rfl, hae, hdd, T.ei_InvalidNumber, .own _, T.ki_InvalidNumber_InvalidNumber, (by show 3 ≤ sizeLine; decide), fun L nL => ?_⟩⟩⟩⟩⟩
    obtain ⟨H3, e3, s4, hL⟩ := fresh (.lst [V.bl false, .bl false, .bl true]) nL
    rw [e3]
    refine ⟨_, rfl, _, rfl, .inr ⟨ae, _, dd, _, _, _, _, rfl, s4 _ _ hae, s4 _ _ hdd, T.ei_InvalidNumber, .own _, T.ki_InvalidNumber_InvalidGuesser, _, rfl, .inr ⟨ae, _, dd, _, _, _, _, rfl, s4 _ _ hae, s4 _ _ hdd, T.ei_InvalidNumber, .own _, T.ki_InvalidNumber_InvalidDepth, _, rfl, .inr ⟨ae, _, dd, _, _, _, _, rfl, s4 _ _ hae, s4 _ _ hdd, T.ei_InvalidNumber, .own _, T.ki_InvalidNumber_InvalidRow, (by show 3 ≤ sizeLine; decide), fun L2 nL2 => ?_⟩⟩⟩⟩
    obtain ⟨H4, e4, s5, hL2⟩ := fresh (.lst [V.bl false, .bl false, .bl false]) nL2
    rw [e4]
    refine ⟨L, L2, _, _, rfl, rfl, s5 _ _ hL, hL2, by decide, fun L3 nL3 => ?_⟩
    obtain ⟨H5, e5, s6, hL3⟩ := fresh (.lst [V.bl false, .bl false, .bl true, .bl false, .bl false, .bl false]) nL3
    rw [show upd H4 L3 (.lst ([V.bl false, .bl false, .bl true] ++ [V.bl false, .bl false, .bl false])) = H5 from e5]
    have s36 := (s4.trans s5).trans s6
    have s06 := s3.trans s36
    refine ⟨_, rfl, .inl ⟨rfl, _, .inl (.inl hL3)⟩, L3, _, .bl true, 2, .bl true, rfl, rfl, .inl (.inl hL3), rfl, rfl, rfl, rfl, no2, _, rfl, ae, _, dd, _, x, rfl, s36 _ _ hae, s36 _ _ hdd, T.er_InvalidNumber.xf, T.er_InvalidNumber.sup.nov, rfl, (hS.same s06).repr ⟨(by show 2 ≤ sizeLine; decide), fun p np => ?_⟩⟩
    exact q _ p (s06.trans (same_upd np)) (s06.free np) upd_same
end
end My

namespace My
open PySem PySem.Spec PyProof.Rows L2 Pre
/-! ### the law: what hangs, what is told -/
theorem restAt_app {ws xs : List Int} {sh p : Nat} {y : Int} (h : p < xs.length) : restAt ws sh (xs ++ [y]) p = restAt ws sh xs p := by
  unfold restAt
  rw [List.getD_eq_getElem?_getD, List.getElem?_append_left h, List.take_append_of_le_length (by omega), ← List.getD_eq_getElem?_getD]
theorem restAt_new {ws xs : List Int} {sh : Nat} (h : ws.length ≤ xs.length) : restAt ws sh (xs ++ [guessF ws sh xs]) xs.length = 0 := by
  unfold restAt
  rw [List.getD_eq_getElem?_getD, List.getElem?_append_right (Nat.le_refl _), Nat.sub_self, if_neg (by omega), List.take_append_of_le_length (Nat.le_refl _), List.take_length]
  show guessF ws sh xs - guessF ws sh xs = 0
  omega
theorem toldR_at {ws xs : List Int} {sh p : Nat} (h : p < xs.length) : (toldR ws sh xs)[p]? = some (restAt ws sh xs p) := by
  unfold toldR
  rw [List.getElem?_map, List.getElem?_range h]
  rfl
theorem tell_true {ws xs : List Int} {sh : Nat} (h : ∀ p, ws.length ≤ p → p < xs.length → restAt ws sh xs p = 0) : tellB ws sh xs = true := by
  unfold tellB
  rw [List.all_eq_true]
  intro x hx
  obtain ⟨i, hi, e⟩ := List.mem_iff_getElem.mp hx
  rw [List.length_drop, toldR_len] at hi
  rw [List.getElem_drop] at e
  have := toldR_at (ws := ws) (sh := sh) (xs := xs) (p := ws.length + i) (by omega)
  rw [List.getElem?_eq_getElem (by rw [toldR_len]; omega), e] at this
  rw [Option.some.inj this]
  exact decide_eq_true (h _ (by omega) (by omega))
theorem tell_false {ws xs : List Int} {sh p : Nat} (h1 : ws.length ≤ p) (h2 : p < xs.length) (h3 : restAt ws sh xs p ≠ 0) : tellB ws sh xs = false := by
  unfold tellB
  rw [Bool.eq_false_iff]
  intro h
  rw [List.all_eq_true] at h
  refine h3 (of_decide_eq_true (h (restAt ws sh xs p) ?_))
  refine List.mem_iff_getElem?.mpr ⟨p - ws.length, ?_⟩
  rw [List.getElem?_drop, show ws.length + (p - ws.length) = p by omega, toldR_at h2]
theorem dp_rows {K : PySem.W.Frag} {H : Hp} (A : Nat → Addr) (R : Nat → List Int) : ∀ l : List Nat, (∀ i ∈ l, H (A i) = some (.lst ((R i).map V.int))) → DpAll K H (l.map fun i => V.ref (A i)) ((l.map R).map rowD)
  | [], _ => .nil
  | i :: r, h => .cons (.lst (.inl (.inl (h i List.mem_cons_self))) (Pre.dp_ints _)) (dp_rows A R r fun j hj => h j (List.mem_cons_of_mem _ hj))
theorem rows_eqv_nil (rows : List (List Int)) : PyData.eqv (.list (rows.map rowD)) (.list []) = decide (rows = []) := by
  cases rows with
  | nil => rfl
  | cons r t => rfl
theorem set_mid {row : List Int} {k : Nat} {s : Int} (h : k < row.length) : (row.take k).map V.int ++ [V.int s] ++ (row.drop (k + 1)).map V.int = (row.set k s).map V.int := by
  rw [List.set_eq_take_append_cons_drop, if_pos h, List.map_append, List.map_cons, List.append_assoc]
  rfl
/-- told lists, one for each of the first samples -/
def ToldAt (H : Hp) (T : Addr) (R : Nat → List Int) (n : Nat) : Prop := ∃ as : List Addr, H T = some (.lst (as.map V.ref)) ∧ as.length = n ∧ ∀ i a, as[i]? = some a → a ≠ T ∧ H a = some (.lst ((R i).map V.int))
local macro_rules | `(tactic| walk_at "go") => `(tactic| repeat (first | (with_reducible first | refine iteT ?_ | refine iteF ?_ | refine iteNtt ?_ | refine iteNff ?_ | refine iteET (by omega) ?_ | refine iteEF (by omega) ?_ | refine iteENT (by omega) ?_ | refine iteENF (by omega) ?_ | refine iteDT (by omega) ?_ | refine iteDF (by omega) ?_ | refine iteNT (by omega) ?_ | refine iteNF (by omega) ?_) | refine ⟨_, rfl, ?_⟩ | refine ⟨_, _, rfl, rfl, ?_⟩ | refine ⟨_, _, rfl, ?_⟩ | refine ⟨rfl, ?_⟩ | refine .inl ⟨_, rfl, ?_⟩ | refine .inr ⟨_, rfl, ?_⟩))
local macro_rules | `(tactic| walk_at "b") => `(tactic| try dsimp (config := { proj := false, iota := false, eta := false, zeta := false }) only)
section
variable {P : Program} {w : World} {K : PySem.W.Frag} {mg : Str → Option Value} {base : Heap} [pf : Sup.PF P fileS]
def sp_law_hangs_right : Sp := fun vs H Q _ => ∃ (g b : Addr) (n : Nat) (ws : List Int) (sh : Nat), vs = [.ref g, .ref b, .int sh] ∧ GenAt H g n ∧ n ≤ 10 ^ 6 ∧ H b = some (.lst (ws.map V.int)) ∧ b ≠ g ∧ Weights ws ∧ sh ≤ 15 ∧ ∀ H', But g H H' → GenAt H' g (n + 10 ^ 6) → Q (.bl true) H'
theorem G_law_hangs_right (T : Top K mg) : FnOk P w K mg base CX0 7 T.f_law_hangs_right T.fd_law_hangs_right ["_law_generator_here", "_law_weights_here", "_law_shift"] sp_law_hangs_right := by
  refine T.F_law_hangs_right.ok sc_law_hangs_right (fun vs H Q E h => by obtain ⟨g, b, n, ws, sh, rfl, _⟩ := h; rfl) (fun cdv A outer s H vs Q E hr h => ?_)
  obtain ⟨g, b, n, ws, sh, rfl, hG, hn, hb, bg, hW, hsh, q⟩ := h
  refine ⟨_, PSs.nox (pss_cons (ps_set (i := 3) sc_law_hangs_right.nd rfl (by first | exact Or.inl rfl | exact Or.inr rfl) (pe_op op_add pe_int (pe_call (G_law_random (P := P) T) (hr.mono (by decide)) (by rfl) T.g_law_random T.F_law_random.kp T.b_law_random .nil pass0 (pa_cons (pv 0) (pa_cons pe_int pa_nil)))))
  (pss_cons (ps_set (i := 4) sc_law_hangs_right.nd rfl (by first | exact Or.inl rfl | exact Or.inr rfl) (pe_call (G_law_row (P := P) T) (hr.mono (by decide)) (by rfl) T.g_law_row T.F_law_row.kp T.b_law_row .nil pass0 (pa_cons (pv 0) (pa_cons (pv 3) (pa_cons (pe_op op_add pe_int (pe_call (G_law_random (P := P) T) (hr.mono (by decide)) (by rfl) T.g_law_random T.F_law_random.kp T.b_law_random .nil pass0 (pa_cons (pv 0) (pa_cons pe_int pa_nil)))) pa_nil)))))
  (pss_cons (ps_asg (pe_tup (pa_cons (pe_call (G_law_random (P := P) T) (hr.mono (by decide)) (by rfl) T.g_law_random T.F_law_random.kp T.b_law_random .nil pass0 (pa_cons (pv 0) (pa_cons (pe_callB (k_len K rfl) (by rfl) T.n_len (by decide +kernel) (pa_cons (pv 4) pa_nil)) pa_nil))) (pa_cons (pe_lst pa_nil) pa_nil))) (k_pgT K rfl (by rfl) (pgs_cons (pg_name (i := 7) sc_law_hangs_right.nd rfl (by first | exact Or.inl rfl | exact Or.inr rfl)) (pgs_cons (pg_name (i := 8) sc_law_hangs_right.nd rfl (by first | exact Or.inl rfl | exact Or.inr rfl)) pgs_nil))))
  (pss_cons (ps_for PassesOwn.never rfl (pi_range2 (by rfl) T.n_range (pa_cons (pe_un un_neg (pe_op op_shl pe_int (pe_op op_sub (pv 3) pe_int))) (pa_cons (pe_op op_shl pe_int (pe_op op_sub (pv 3) pe_int)) pa_nil))) (pg_name (i := 5) sc_law_hangs_right.nd rfl (by first | exact Or.inl rfl | exact Or.inr rfl))
    (pss_one (ps_expr (pe_bm PySem.F.plainAttrs_list PySem.F.slot_list_append PySem.F.type_list_append mt_append (pv 8) (pa_cons (pe_call (G_law_plain (P := P) T) (hr.mono (by decide)) (by rfl) T.g_law_plain T.F_law_plain.kp T.b_law_plain .nil pass0 (pa_cons (pv 1) (pa_cons (pv 2) (pa_cons (pe_op op_cat (pe_op op_cat (pe_slice (k_slL K rfl) (pv 4) po_none (po_some (pv 7))) (pe_lst (pa_cons (pv 5) pa_nil))) (pe_slice (k_slL K rfl) (pv 4) (po_some (pe_op op_add (pv 7) pe_int)) po_none)) pa_nil)))) pa_nil)))))
  (pss_cons (ps_setLc (i := 6) (own := [("_law_at", 9)]) (g := gName 9) (by rfl) sc_law_hangs_right.nd rfl rfl (sw_true rfl rfl rfl (by decide +kernel)) (pi_range1 (by rfl) T.n_range (pa_cons (pe_callB (k_len K rfl) (by rfl) T.n_len (by decide +kernel) (pa_cons (pv 4) pa_nil)) pa_nil)) (blkOk_by (own := [("_law_at", 9)]) (N := N_law_hangs_right) (sc := defScope s_law_hangs_right) (by decide +kernel)) (fun _ _ _ _ _ => (pg_name (i := 9) sc_law_hangs_right.nd rfl (by first | exact Or.inl rfl | exact Or.inr rfl))) (fun _ _ _ _ _ => (pts_one (pt_cmpR (k_neD K rfl hr.units) (pe_lc (own := [("_law_one", 10)]) (g := gName 10) (by rfl) sc_law_hangs_right.nd (k_piL K rfl (pv 8)) (blkOk_by (own := [("_law_one", 10)]) (N := N_law_hangs_right) (by kernel_rfl)) (fun _ _ _ _ _ => (pg_name (i := 10) sc_law_hangs_right.nd rfl (by first | exact Or.inl rfl | exact Or.inr rfl))) (fun _ _ _ _ _ => (pts_one (pt_cmpR op_ne (pe_ix (k_ixL K rfl) (pv 10) (pv 9) (fun _ _ => rfl)) (pe_ix (k_ixL K rfl) (pe_ix (k_ixL K rfl) (pv 8) pe_int (fun _ _ => rfl)) (pv 9) (fun _ _ => rfl)) (nomark _)))) (fun _ _ _ _ _ => (pv 10))) (pe_lst pa_nil) (nomark _)))) (fun _ _ _ _ _ => (pv 9)))
  (pss_one (ps_ret (pe_cmpR (k_eqD K rfl hr.units) (pe_call (G_hangs (P := P) T) (hr.mono (by decide)) (by rfl) T.g_hangs T.F_hangs.kp T.b_hangs .nil passL (pa_cons (pe_make T.mk_Guesser (G_Guesser___init__ (P := P) T) (hr.mono (by decide)) (by rfl) T.gc_Guesser T.b_Guesser___init__ .nil passL (pa_cons (pe_callTy (k_listOf K rfl) (by rfl) T.n_list (by decide +kernel) (pa_cons (pv 1) pa_nil)) (pa_cons (pv 2) pa_nil))) (pa_cons (pv 3) (pa_cons (pv 4) (pa_cons (pv 7) pa_nil))))) (pv 6) (nomark _))))))))), ?_⟩
  have hw8 := hW.1
  refine ⟨_, rfl, g, _, _, rfl, hG, by omega, by decide, small_2900 (by decide), fun r H1 r0 r1 g1 b1 => ?_⟩
  obtain ⟨d, hd, d1, d2⟩ : ∃ d : Nat, 1 + r = (d : Int) ∧ 1 ≤ d ∧ d ≤ 4 := ⟨(1 + r).toNat, by omega, by omega, by omega⟩
  refine ⟨_, _, rfl, rfl, ?_⟩
  walk_at "b"
  rw [hd]
  refine ⟨_, rfl, _, rfl, _, rfl, g, _, _, rfl, g1, by omega, by decide, small_2900 (by decide), fun r2 H2 r20 r21 g2 b2 => ?_⟩
  obtain ⟨m, hm, m1, m2⟩ : ∃ m : Nat, 1 + r2 = (m : Int) ∧ 1 ≤ m ∧ m ≤ 7 := ⟨(1 + r2).toNat, by omega, by omega, by omega⟩
  refine ⟨_, _, rfl, rfl, ?_⟩
  walk_at "b"
  rw [hm]
  refine ⟨g, d, m, _, rfl, g2, by omega, d1, by omega, by omega, fun H3 pr row npr b3 g3 hpr hrl hrs => ?_⟩
  have prg : pr ≠ g := g2.ne npr
  refine ⟨_, rfl, _, rfl, pr, _, rfl, .inl (.inl (.inl hpr)), g, _, _, rfl, g3, by omega, by rw [List.length_map]; omega, small_2900 (by rw [List.length_map]; omega), fun r3 H4 r30 r31 g4 b4 => ?_⟩
  obtain ⟨k, rfl⟩ : ∃ k : Nat, r3 = (k : Int) := ⟨r3.toNat, by omega⟩
  rw [List.length_map] at r31
  have hk : k < row.length := by omega
  refine ⟨Nat.zero_le _, fun Tl nT => ?_⟩
  obtain ⟨H5, e5, s5, hT⟩ := fresh (.lst ([] : List V)) nT
  rw [e5]
  refine ⟨(by show 2 ≤ sizeLine; decide), fun tp ntp => ⟨tp, _, rfl, .inl (.inl upd_same), rfl, _, _, rfl, _, _, rfl, rfl, ?_⟩⟩
  obtain ⟨H6, e6, s6, _⟩ := fresh (.tup [V.int (k : Int), V.ref Tl]) ntp
  rw [e6]
  have b06 : But g H H6 := ((((b1.trans b2).trans b3).trans b4).same s5).same s6
  have g6 := (g4.same s5).same s6
  have hb6 := b06 _ _ bg hb
  have hpr6 := s6 _ _ (s5 _ _ (b4 _ _ prg hpr))
  have hT6 := s6 _ _ hT
  have bT : b ≠ Tl := ne_of_none ((((b1.trans b2).trans b3).trans b4) _ _ bg hb) nT
  have prT : pr ≠ Tl := ne_of_none (b4 _ _ prg hpr) nT
  have Tg : Tl ≠ g := g4.ne nT
  have hp2 := half_pos d
  have hpl : (2 : Int) ^ (d - 1) ≤ 2 ^ 3 := pow2_le (by omega)
  have eZ1 : ((d : Int) - 1).toNat = d - 1 := by omega
  refine ⟨_, rfl, _, _, rfl, rfl, _, _, rfl, rfl, ⟨by omega, by omega, by decide⟩, _, rfl, _, rfl, _, _, rfl, rfl, _, _, rfl, rfl, ⟨by omega, by omega, by decide⟩, ?_⟩
  walk_at "b"
  rw [eZ1, Int.one_mul]
  generalize eh : (2 : Int) ^ (d - 1) = h at *
  obtain ⟨ct, hct⟩ : ∃ ct : Nat, (h - -h).toNat = ct := ⟨_, rfl⟩
  have hc2 : (ct : Int) = 2 * h := by omega
  refine ⟨_, _, rfl, ⟨by omega, by omega, by omega, by omega⟩, ?_⟩
  rw [hct]
  refine for_range (lo := -h) (n := ct) (fun i σ HA => ∃ v5 : Option V, σ = [some (.ref g), some (.ref b), some (.int sh), some (.int d), some (.ref pr), v5, none, some (.int k), some (.ref Tl), none, none] ∧ (∀ c o, c ≠ Tl → H6 c = some o → HA c = some o) ∧ ToldAt HA Tl (fun t => toldR ws sh (row.set k (-h + (t : Int)))) i) ⟨none, rfl, fun _ _ _ z => z, [], hT6, rfl, fun _ _ z => nomatch z⟩ ?_ ?_
  · rintro i σ HA hi ⟨v5, rfl, keep, as, hTA, hl, has⟩
    have hbA := keep _ _ bT hb6
    have hprA := keep _ _ prT hpr6
    refine ⟨_, rfl, .inl ⟨rfl, _, .inl (.inl hTA)⟩, _, rfl, _, rfl, _, rfl, _, rfl, _, rfl, pr, _, rfl, .inl (.inl hprA), fun c1 nc1 => ?_⟩
    rw [cut_take, ← List.map_take]
    obtain ⟨HB, eB, sB, hc1⟩ := fresh (.lst ((row.take k).map V.int)) nc1
    rw [eB]
    refine ⟨_, rfl, (by show 1 ≤ sizeLine; decide), fun c2 nc2 => ?_⟩
    obtain ⟨HC, eC, sC, hc2'⟩ := fresh (.lst [V.int (-h + (i : Int))]) nc2
    rw [eC]
    refine ⟨c1, c2, _, _, rfl, rfl, sC _ _ hc1, hc2', by rw [List.length_map, List.length_take, sizeLine_eq]; show _ + 1 ≤ _; omega, fun c3 nc3 => ?_⟩
    obtain ⟨HD, eD, sD, hc3⟩ := fresh (.lst ((row.take k).map V.int ++ [V.int (-h + (i : Int))])) nc3
    rw [eD]
    refine ⟨_, rfl, _, rfl, _, _, rfl, rfl, _, rfl, pr, _, rfl, .inl (.inl (sD _ _ (sC _ _ (sB _ _ hprA)))), fun c4 nc4 => ?_⟩
    walk_at "b"
    rw [show ((k : Int) + 1) = ((k + 1 : Nat) : Int) by omega, cut_drop, ← List.map_drop]
    obtain ⟨HE, eE, sE, hc4⟩ := fresh (.lst ((row.drop (k + 1)).map V.int)) nc4
    rw [eE]
    refine ⟨c3, c4, _, _, rfl, rfl, sE _ _ hc3, hc4, by rw [List.length_append, List.length_map, List.length_take, List.length_map, List.length_drop, sizeLine_eq]; show _ + 1 + _ ≤ _; omega, fun c5 nc5 => ?_⟩
    rw [set_mid hk]
    obtain ⟨HF, eF, sF, hc5⟩ := fresh (.lst ((row.set k (-h + (i : Int))).map V.int)) nc5
    rw [eF]
    have sAF := (((sB.trans sC).trans sD).trans sE).trans sF
    refine ⟨b, c5, ws, sh, _, rfl, .inl (.inl (sAF _ _ hbA)), .inl (.inl hc5), hW, by rw [List.length_set]; omega, hsh, fun p HG np sG hp => ?_⟩
    have sAG := sAF.trans sG
    have hTG := sAG _ _ hTA
    have pT : p ≠ Tl := (ne_of_none (sAF _ _ hTA) np).symm
    refine ⟨Tl, _, _, rfl, rfl, hTG, by rw [List.length_map]; exact small1000 (by omega), ?_⟩
    refine ⟨_, rfl, fun c o nc z => ?_, as ++ [p], ?_, by rw [List.length_append, hl]; rfl, fun j a hj => ?_⟩
    · rw [upd_ne nc]
      exact sAG _ _ (keep c o nc z)
    · rw [upd_same, List.map_append]
      rfl
    · by_cases c : j < as.length
      · rw [List.getElem?_append_left c] at hj
        obtain ⟨n1, n2⟩ := has j a hj
        exact ⟨n1, by rw [upd_ne n1]; exact sAG _ _ n2⟩
      · have hj2 : j = as.length := by
          have := (List.getElem?_eq_some_iff.mp hj).1
          rw [List.length_append] at this
          simp at this
          omega
        subst hj2
        rw [List.getElem?_append_right (Nat.le_refl _), Nat.sub_self] at hj
        cases hj
        rw [hl]
        exact ⟨pT, by rw [upd_ne pT]; exact hp⟩
  · rintro σ HA ⟨v5, rfl, keep, as, hTA, hl, has⟩
    have hbA := keep _ _ bT hb6
    have hprA := keep _ _ prT hpr6
    have hgA : GenAt HA g (n + 10 ^ 6 - 10 ^ 5) := by
      obtain ⟨x, y, z, e, r⟩ := g6
      exact ⟨x, y, z, keep _ _ Tg.symm e, r.1, by have := r.2; omega⟩
    have b0A : But g H HA := fun c o nc z => keep c o (ne_of_none ((((b1.trans b2).trans b3).trans b4) _ _ nc z) nT) (b06 _ _ nc z)
    let Ad : Nat → Addr := fun i => as.getD i 0
    let R : Nat → List Int := fun t => toldR ws sh (row.set k (-h + (t : Int)))
    have hA : ∀ i, i < ct → HA (Ad i) = some (.lst ((R i).map V.int)) := fun i hi => by
      have e : as[i]? = some (Ad i) := by show as[i]? = some (as.getD i 0); rw [List.getD_eq_getElem?_getD, List.getElem?_eq_getElem (by omega)]; rfl
      exact (has i _ e).2
    have eas : as.map V.ref = (List.range ct).map fun i : Nat => V.ref (Ad i) := by
      refine List.ext_getElem? fun i => ?_
      rw [List.getElem?_map, List.getElem?_map]
      by_cases hi : i < ct
      · rw [List.getElem?_range hi, List.getElem?_eq_getElem (by omega)]
        show some (V.ref as[i]) = some (V.ref (as.getD i 0))
        rw [List.getD_eq_getElem?_getD, List.getElem?_eq_getElem (by omega)]
        rfl
      · rw [List.getElem?_eq_none (by omega), List.getElem?_eq_none (by rw [List.length_range]; omega)]
        rfl
    rw [eas] at hTA
    clear_value Ad
    have hRl : ∀ i, (R i).length = row.length := fun i => by show (toldR ws sh _).length = _; rw [toldR_len, List.length_set]
    have hRat : ∀ i j, j < row.length → ((R i).map V.int)[j]? = some (.int (restAt ws sh (row.set k (-h + (i : Int))) j)) := fun i j hj => by
      rw [List.getElem?_map]
      show ((toldR ws sh (row.set k (-h + (i : Int))))[j]?).map V.int = _
      rw [toldR_at (by rw [List.length_set]; exact hj)]
      rfl
    clear_value R
    let ss : List Int := (List.range ct).map fun i : Nat => -h + (i : Int)
    have hss : ∀ s, s ∈ ss ↔ -h ≤ s ∧ s ≤ h - 1 := fun s => by
      show s ∈ (List.range ct).map (fun i : Nat => -h + (i : Int)) ↔ _
      rw [List.mem_map]
      constructor
      · rintro ⟨i, hi, rfl⟩
        have := List.mem_range.mp hi
        omega
      · intro z
        exact ⟨(s + h).toNat, List.mem_range.mpr (by omega), by omega⟩
    refine ⟨_, rfl, pr, _, rfl, .inl (.inl (.inl hprA)), _, rfl, by omega, by rw [List.length_map]; omega, fun D nD => ?_⟩
    rw [List.length_map, Int.toNat_natCast]
    refine lc_selR (lo := 0) (n := row.length) ((List.range row.length).map fun l => if dueB ws sh row k ss (-h) l = true then some (V.int (l : Int)) else none) nD (by rw [List.length_map, List.length_range]) (small1000 (by omega)) (fun x => rfl) ?_ ?_
    · intro l o H' hl2 ho s Qt qt
      rw [List.getElem?_map, List.getElem?_range hl2] at ho
      cases ho
      dsimp only at qt
      rw [Int.zero_add]
      have hTs := s _ _ hTA
      refine ⟨_, rfl, Tl, rfl, ⟨_, .inl (.inl hTs)⟩, fun D2 nD2 => ?_⟩
      refine lc_selL (K := K) (xs := (List.range ct).map fun i : Nat => V.ref (Ad i)) ((List.range ct).map fun i : Nat => if decide (restAt ws sh (row.set k (-h + (i : Int))) l ≠ restAt ws sh (row.set k (-h)) l) = true then some (V.ref (Ad i)) else none) nD2 (.inl (.inl hTs)) (by rw [List.length_map, List.length_map]) (by rw [List.length_map, List.length_range]; exact small1000 (by omega)) (fun x => rfl) ?_ ?_
      · intro i x o H'' hx ho s2 Qt' qt'
        rw [List.getElem?_map] at hx ho
        obtain ⟨i', hi', rfl⟩ := Option.map_eq_some_iff.mp hx
        rw [hi'] at ho
        cases ho
        have hic : i' < ct := List.mem_range.mp (List.mem_of_getElem? hi')
        dsimp only at qt'
        have s2' := s.trans s2
        have e0 : ((List.range ct).map fun i : Nat => V.ref (Ad i))[0]? = some (.ref (Ad 0)) := by rw [List.getElem?_map, List.getElem?_range (by omega)]; rfl
        have eR0 := hRat 0 l hl2
        rw [show (-h + ((0 : Nat) : Int)) = -h by omega] at eR0
        refine ⟨_, rfl, _, rfl, Ad i', _, _, _, rfl, rfl, .inl (.inl (s2' _ _ (hA i' hic))), atI_nat (hRat i' l hl2), _, rfl, Tl, _, _, _, rfl, rfl, .inl (.inl (s2' _ _ hTA)), atI_nat (j := 0) e0, _, rfl, Ad 0, _, _, _, rfl, rfl, .inl (.inl (s2' _ _ (hA 0 (by omega)))), atI_nat eR0, rfl, _, rfl, ?_⟩
        by_cases c : restAt ws sh (row.set k (-h + (i' : Int))) l = restAt ws sh (row.set k (-h)) l
        · rw [decide_eq_false (fun z => z c)] at qt'
          exact iteENF c (qt' _ (Same.refl _))
        · rw [decide_eq_true c] at qt'
          exact iteENT c ⟨_, rfl, qt' _ (Same.refl _)⟩
      · intro H'' s2 hD2
        rw [sel_if] at hD2
        refine ⟨Nat.zero_le _, fun em nem => ?_⟩
        obtain ⟨H3', e3', s3', hem⟩ := fresh (.lst ([] : List V)) nem
        rw [e3']
        have sAll := (s.trans s2).trans s3'
        refine ⟨.list ((((List.range ct).filter fun i : Nat => decide (restAt ws sh (row.set k (-h + (i : Int))) l ≠ restAt ws sh (row.set k (-h)) l)).map R).map rowD), .list [], .lst (.inl (.inl (s3' _ _ hD2))) (dp_rows Ad R _ fun i hi => sAll _ _ (hA i (List.mem_range.mp (List.mem_filter.mp hi).1))), .lst (.inl (.inl hem)) .nil, rows_shaped _, rfl, _, rfl, ?_⟩
        rw [rows_eqv_nil]
        have ed : dueB ws sh row k ss (-h) l = !decide (((List.range ct).filter fun i : Nat => decide (restAt ws sh (row.set k (-h + (i : Int))) l ≠ restAt ws sh (row.set k (-h)) l)).map R = []) := by
          rw [Bool.eq_iff_iff, Bool.not_eq_true', decide_eq_false_iff_not, List.map_eq_nil_iff, List.filter_eq_nil_iff]
          unfold dueB
          rw [List.any_eq_true]
          constructor
          · rintro ⟨s', hs', hne⟩ z
            obtain ⟨i, hi, rfl⟩ := List.mem_map.mp hs'
            exact z i hi hne
          · intro z
            refine Classical.byContradiction fun hz => z fun i hi hne => hz ⟨_, List.mem_map.mpr ⟨i, hi, rfl⟩, hne⟩
        rw [← ed]
        cases hdb : dueB ws sh row k ss (-h) l with
        | true =>
          rw [hdb] at qt
          exact iteT ⟨_, rfl, qt _ (s2.trans s3')⟩
        | false =>
          rw [hdb] at qt
          exact iteF (qt _ (s2.trans s3'))
    · intro HB sB hD
      rw [sel_if, due_hang hk hss (by omega)] at hD
      refine ⟨_, rfl, b, _, rfl, .inl (.inl (.inl (sB _ _ hbA))), fun lw nlw => ?_⟩
      obtain ⟨HC, eC, sC, hlw⟩ := fresh (.lst (ws.map V.int)) nlw
      rw [eC]
      refine ⟨_, rfl, ?_⟩
      intro x dx nx ndx nex
      have sx : Same HC (upd (upd HC dx (.own x)) x (.ins T.C_Guesser dx [])) := fun b o e => by
        rw [upd_ne (ne_of_none e nx), upd_ne (ne_of_none e ndx)]
        exact e
      refine ⟨x, dx, _, _, rfl, upd_same, .inl ⟨lw, ws, sh, rfl, rfl, sx _ _ hlw, hW, hsh, fun HE kpE hGE _ => ⟨rfl, ?_⟩⟩⟩
      have sCE : Same HC HE := fun b o e => by
        refine kpE b o (ne_of_none e nx) ?_
        rw [upd_ne (ne_of_none e nx), upd_ne (ne_of_none e ndx)]
        exact e
      have sAE := (sB.trans sC).trans sCE
      have hrow : Smp d row := fun y hy => by
        have := hrs y hy
        rw [eh] at *
        exact ⟨this.1, by omega⟩
      refine ⟨_, rfl, _, rfl, _, rfl, _, _, _, _, rfl, .inr ⟨x, pr, ws, sh, d, row, rfl, rfl, rfl, hGE, sAE _ _ hprA, d1, by omega, hrow, by omega, .inr ⟨k, rfl, hk, fun HF p sF np hp => ?_⟩⟩⟩
      rw [eh] at hp
      have hD2 := sF _ _ (sCE _ _ (sC _ _ hD))
      have nvi : ∀ l : List Nat, nV l = (l.map fun i : Nat => (i : Int)).map V.int := fun l => by unfold nV; rw [List.map_map]; rfl
      rw [nvi] at hp
      have hD3 : HF D = some (.lst (((hangL ws sh row k (-h) (h - 1)).map fun i : Nat => (i : Int)).map V.int)) := by rw [List.map_map]; exact hD2
      refine ⟨_, rfl, eqD_lst (.inl (.inl hp)) (.inl (.inl hD3)) ?_⟩
      rw [decide_eq_true rfl]
      have sfin := sAE.trans sF
      refine q _ (b0A.same sfin) ((hgA.same sfin).mono (by omega))
/-- a list drawn on: what it tells behind its firsts is 0 -/
def Goes (ws : List Int) (sh : Nat) (n : Nat) (row : List Int) : Prop := row.length = ws.length + n ∧ ∀ p, ws.length ≤ p → p < row.length → restAt ws sh row p = 0
theorem Goes.next {ws row : List Int} {sh n : Nat} (h : Goes ws sh n row) : Goes ws sh (n + 1) (row ++ [guessF ws sh row]) := by
  refine ⟨by rw [List.length_append, h.1]; rfl, fun p h1 h2 => ?_⟩
  by_cases c : p < row.length
  · rw [restAt_app c]
    exact h.2 p h1 c
  · rw [List.length_append] at h2
    have e : p = row.length := by
      have : p < row.length + 1 := h2
      omega
    rw [e]
    exact restAt_new (by have := h.1; omega)
theorem rest_last {ws row : List Int} {sh n : Nat} (h : Goes ws sh (n + 1) row) : restAt ws sh (row.set (row.length - 1) (row.getD (row.length - 1) 0 + 1)) (row.length - 1) ≠ 0 := by
  have h1 := h.2 (row.length - 1) (by have := h.1; omega) (by have := h.1; omega)
  unfold restAt at h1 ⊢
  have hl : row.length - 1 < row.length := by have := h.1; omega
  rw [List.getD_eq_getElem?_getD, List.getElem?_set, if_pos rfl, if_pos hl, List.take_set_of_le (Nat.le_refl _)]
  show row.getD (row.length - 1) 0 + 1 - _ ≠ 0
  omega
def sp_law_tells_right : Sp := fun vs H Q _ => ∃ (g b : Addr) (n : Nat) (ws : List Int) (sh : Nat), vs = [.ref g, .ref b, .int sh] ∧ GenAt H g n ∧ n ≤ 10 ^ 7 ∧ H b = some (.lst (ws.map V.int)) ∧ b ≠ g ∧ Weights ws ∧ sh ≤ 15 ∧ ∀ H', But g H H' → GenAt H' g (n + 10 ^ 6) → Q (.bl true) H'
theorem G_law_tells_right (T : Top K mg) : FnOk P w K mg base CX0 6 T.f_law_tells_right T.fd_law_tells_right ["_law_generator_here", "_law_weights_here", "_law_shift"] sp_law_tells_right := by
  refine T.F_law_tells_right.ok sc_law_tells_right (fun vs H Q E h => by obtain ⟨g, b, n, ws, sh, rfl, _⟩ := h; rfl) (fun cdv A outer s H vs Q E hr h => ?_)
  obtain ⟨g, b, n, ws, sh, rfl, hG, hn, hb, bg, hW, hsh, q⟩ := h
  refine ⟨_, PSs.nox (pss_cons (ps_par (by rfl) sc_law_tells_right.nd (i := 4) (j := 5) rfl rfl (by decide) rfl rfl (pa_cons (pe_make T.mk_Guesser (G_Guesser___init__ (P := P) T) (hr.mono (by decide)) (by rfl) T.gc_Guesser T.b_Guesser___init__ .nil passL (pa_cons (pe_callTy (k_listOf K rfl) (by rfl) T.n_list (by decide +kernel) (pa_cons (pv 1) pa_nil)) (pa_cons (pv 2) pa_nil))) (pa_cons (pe_lc (own := [("_law_number", 6)]) (g := gName 6) (tt := tYes) (by rfl) sc_law_tells_right.nd (pi_range1 (by rfl) T.n_range (pa_cons (pe_callB (k_len K rfl) (by rfl) T.n_len (by decide +kernel) (pa_cons (pv 1) pa_nil)) pa_nil)) (blkOk_by (own := [("_law_number", 6)]) (N := N_law_tells_right) (sc := defScope s_law_tells_right) (by decide +kernel)) (fun _ _ _ _ _ => (pg_name (i := 6) sc_law_tells_right.nd rfl (by first | exact Or.inl rfl | exact Or.inr rfl))) (fun _ _ _ _ _ => pts_nil) (fun _ _ _ _ _ => (pe_op op_sub (pe_call (G_law_random (P := P) T) (hr.mono (by decide)) (by rfl) T.g_law_random T.F_law_random.kp T.b_law_random .nil pass0 (pa_cons (pv 0) (pa_cons pe_int pa_nil))) pe_int))) pa_nil)) (by rfl))
  (pss_cons (ps_for PassesOwn.never rfl (pi_range1 (by rfl) T.n_range (pa_cons (pe_call (G_law_random (P := P) T) (hr.mono (by decide)) (by rfl) T.g_law_random T.F_law_random.kp T.b_law_random .nil pass0 (pa_cons (pv 0) (pa_cons pe_int pa_nil))) pa_nil)) (pg_name (i := 3) sc_law_tells_right.nd rfl (by first | exact Or.inl rfl | exact Or.inr rfl))
    (pss_one (ps_expr (pe_bm PySem.F.plainAttrs_list PySem.F.slot_list_append PySem.F.type_list_append mt_append (pv 5) (pa_cons (pe_call (G_law_guess (P := P) T) (hr.mono (by decide)) (by rfl) T.g_law_guess T.F_law_guess.kp T.b_law_guess .nil pass0 (pa_cons (pv 1) (pa_cons (pv 2) (pa_cons (pv 5) pa_nil)))) pa_nil)))))
  (pss_cons (ps_if (pt_cmpR op_isnot_bl (pe_call (G_tells (P := P) T) (hr.mono (by decide)) (by rfl) T.g_tells T.F_tells.kp T.b_tells .nil passL (pa_cons (pv 4) (pa_cons (pv 5) pa_nil))) pe_bl (nomark _))
    (pss_one (ps_ret pe_bl))
    pss_nil)
  (pss_cons (ps_if (pt_cmpR op_eq (pe_callB (k_len K rfl) (by rfl) T.n_len (by decide +kernel) (pa_cons (pv 5) pa_nil)) (pe_callB (k_len K rfl) (by rfl) T.n_len (by decide +kernel) (pa_cons (pv 1) pa_nil)) (nomark _))
    (pss_one (ps_ret pe_bl))
    pss_nil)
  (pss_cons (ps_asg (pe_op op_add (pe_ix (k_ixL K rfl) (pv 5) (pe_un un_neg pe_int) (fun _ _ => rfl)) pe_int) (pg_sub (pv 5) (pe_un un_neg pe_int) set_list))
  (pss_one (ps_ret (pe_cmpR op_is_bl (pe_call (G_tells (P := P) T) (hr.mono (by decide)) (by rfl) T.g_tells T.F_tells.kp T.b_tells .nil passL (pa_cons (pv 4) (pa_cons (pv 5) pa_nil))) pe_bl (nomark _))))))))), ?_⟩
  have hw8 := hW.1
  refine ⟨_, rfl, b, _, rfl, .inl (.inl (.inl hb)), fun lw nlw => ?_⟩
  obtain ⟨HC, eC, sC, hlw⟩ := fresh (.lst (ws.map V.int)) nlw
  rw [eC]
  refine ⟨_, rfl, ?_⟩
  intro x dx nx ndx nex
  have sx : Same HC (upd (upd HC dx (.own x)) x (.ins T.C_Guesser dx [])) := fun b o e => by
    rw [upd_ne (ne_of_none e nx), upd_ne (ne_of_none e ndx)]
    exact e
  refine ⟨x, dx, _, _, rfl, upd_same, .inl ⟨lw, ws, sh, rfl, rfl, sx _ _ hlw, hW, hsh, fun HE kpE hGE ⟨dy, p, hx, np⟩ => ⟨rfl, ?_⟩⟩⟩
  have sCE : Same HC HE := fun b o e => by
    refine kpE b o (ne_of_none e nx) ?_
    rw [upd_ne (ne_of_none e nx), upd_ne (ne_of_none e ndx)]
    exact e
  have sHE := sC.trans sCE
  have hpE : HE p = some (.lst (ws.map V.int)) := by
    obtain ⟨_, _, _, p', h1, h2⟩ := hGE
    rw [hx] at h1
    cases h1
    exact h2
  have gE := hG.same sHE
  have pg : p ≠ g := ((hG.same sC).same sx).ne np
  have xg : x ≠ g := (hG.same sC).ne nx
  have hbE := sHE _ _ hb
  refine ⟨_, rfl, b, _, rfl, .inl (.inl (.inl hbE)), _, rfl, by omega, by rw [List.length_map]; omega, fun D nD => ?_⟩
  rw [List.length_map, Int.toNat_natCast]
  refine lc_drawR (lo := 0) (n := ws.length) g n 1000 (fun _ => True) nD gE (small1000 (by omega)) (fun x => rfl) ?_ ?_
  · intro i H' hi b1 g1 Qt qt
    refine ⟨_, rfl, g, _, _, rfl, g1, by omega, by decide, small_2900 (by decide), fun r H2 r0 r1 g2 b2 => ?_⟩
    exact ⟨_, _, rfl, rfl, qt _ _ trivial b2 (g2.mono (by omega))⟩
  · intro HD ys bD gD hD hl _
    refine ⟨_, _, rfl, ?_⟩
    have Dg : D ≠ g := gE.ne nD
    refine ⟨_, rfl, g, _, _, rfl, gD, by omega, by decide, small_2900 (by decide), fun r HG r0 r1 gG bG => ?_⟩
    obtain ⟨k, rfl⟩ : ∃ k : Nat, r = (k : Int) := ⟨r.toNat, by omega⟩
    refine ⟨_, rfl, by omega, by omega, ?_⟩
    rw [Int.toNat_natCast]
    have bEG : But g HE HG := bD.trans bG
    have hDG : HG D = some (.lst (ys.map V.int)) := bG _ _ Dg hD
    have bD' : b ≠ D := ne_of_none hbE nD
    have xD : x ≠ D := ne_of_none hx nD
    have pD : p ≠ D := ne_of_none hpE nD
    have xG := bEG _ _ xg hx
    have pG := bEG _ _ pg hpE
    have hbG := bEG _ _ bg hbE
    refine for_range (lo := 0) (n := k) (fun i σ HA => ∃ (row : List Int) (v3 v6 : Option V), σ = [some (.ref g), some (.ref b), some (.int sh), v3, some (.ref x), some (.ref D), v6] ∧ (∀ c o, c ≠ D → HG c = some o → HA c = some o) ∧ HA D = some (.lst (row.map V.int)) ∧ Goes ws sh i row) ⟨ys, none, none, rfl, fun _ _ _ z => z, hDG, by omega, fun p h1 h2 => by omega⟩ ?_ ?_
    · rintro i σ HA hi ⟨row, v3, v6, rfl, keep, hDA, hGo⟩
      have hbA := keep _ _ bD' hbG
      have hrl := hGo.1
      refine ⟨_, rfl, .inl ⟨rfl, _, .inl (.inl hDA)⟩, _, rfl, _, rfl, _, rfl, b, D, ws, sh, row, rfl, .inl (.inl hbA), .inl (.inl hDA), hW, by omega, by omega, hsh, D, _, _, rfl, rfl, hDA, by rw [List.length_map]; exact small1000 (by omega), ?_⟩
      exact ⟨_, _, _, rfl, fun c o nc z => by rw [upd_ne nc]; exact keep c o nc z, by rw [upd_same, List.map_append]; rfl, hGo.next⟩
    · rintro σ HA ⟨row, v3, v6, rfl, keep, hDA, hGo⟩
      have hrl := hGo.1
      have hGA : GuesserAt T.C_Guesser HA x ws sh := ⟨hW, hsh, dy, p, keep _ _ xD xG, keep _ _ pD pG⟩
      refine ⟨_, rfl, _, rfl, _, _, rfl, .inr (.inr ⟨x, D, ws, sh, row, rfl, rfl, hGA, hDA, by omega, fun HB sB => ?_⟩)⟩
      rw [tell_true hGo.2]
      have bHB : But g H HB := fun c o nc z => sB _ _ (keep c o (ne_of_none (sHE _ _ z) nD) (bEG _ _ nc (sHE _ _ z)))
      have gB : GenAt HB g (n + 10 ^ 6) := by
        obtain ⟨u1, u2, u3, e, r⟩ := gG
        exact ⟨u1, u2, u3, sB _ _ (keep _ _ Dg.symm e), r.1, by have := r.2; omega⟩
      have hDB := sB _ _ hDA
      have hbB := bHB _ _ bg hb
      refine ⟨_, _, rfl, rfl, false, rfl, iteF ?_⟩
      refine ⟨_, rfl, D, _, rfl, .inl (.inl (.inl hDB)), _, rfl, b, _, rfl, .inl (.inl (.inl hbB)), ?_⟩
      rw [List.length_map, List.length_map]
      rcases Nat.eq_zero_or_pos k with rfl | hk
      · exact ⟨rfl, _, rfl, iteET (by omega) (q _ bHB gB)⟩
      refine ⟨rfl, _, rfl, iteEF (by omega) ?_⟩
      obtain ⟨m, rfl⟩ : ∃ m, k = m + 1 := ⟨k - 1, by omega⟩
      have hlast : atI (row.map V.int) (-1) = some (.int (row.getD (row.length - 1) 0)) := by
        unfold atI ixN
        rw [if_neg (by decide), if_pos (by rw [List.length_map]; omega), List.length_map]
        show (row.map V.int)[((-1 : Int) + (row.length : Int)).toNat]? = _
        rw [show ((-1 : Int) + (row.length : Int)).toNat = row.length - 1 by omega, List.getElem?_map, List.getElem?_eq_getElem (show row.length - 1 < row.length by omega), List.getD_eq_getElem?_getD, List.getElem?_eq_getElem (show row.length - 1 < row.length by omega)]
        rfl
      have hix : ixN (row.map V.int).length (-1) = some (row.length - 1) := by
        unfold ixN
        rw [if_neg (by decide), if_pos (by rw [List.length_map]; omega), List.length_map]
        congr 1
        omega
      refine ⟨_, rfl, _, rfl, D, _, _, _, rfl, rfl, .inl (.inl hDB), hlast, _, _, rfl, rfl, _, rfl, _, rfl, D, _, _, _, rfl, rfl, hDB, hix, ?_⟩
      rw [← List.map_set]
      have hGU : GuesserAt T.C_Guesser (upd HB D (.lst ((row.set (row.length - 1) (row.getD (row.length - 1) 0 + 1)).map V.int))) x ws sh := ⟨hW, hsh, dy, p, by rw [upd_ne xD]; exact sB _ _ (keep _ _ xD xG), by rw [upd_ne pD]; exact sB _ _ (keep _ _ pD pG)⟩
      refine ⟨_, rfl, _, rfl, _, _, rfl, .inr (.inr ⟨x, D, ws, sh, _, rfl, rfl, hGU, upd_same, by rw [List.length_set]; omega, fun HV sV => ?_⟩)⟩
      rw [tell_false (p := row.length - 1) (by omega) (by rw [List.length_set]; omega) (rest_last hGo)]
      refine ⟨_, _, rfl, rfl, q _ (fun c o nc z => sV _ _ ?_) ?_⟩
      · rw [upd_ne (ne_of_none (sHE _ _ z) nD)]
        exact bHB _ _ nc z
      · obtain ⟨u1, u2, u3, e, r⟩ := gB
        exact ⟨u1, u2, u3, sV _ _ (by rw [upd_ne Dg.symm]; exact e), r⟩
end
end My

namespace My
open PySem PySem.Spec PyProof.Rows L2 Pre
/-! ### guessers refused: all odd values -/
theorem kind_shaped {i : Int} {t : Str} (ht : PyData.strOk t = true) : SeqAt.shaped (.list [.int i, .str t]) = true := by
  simp [SeqAt.shaped, PyData.canLay0, PyData.canLayAll0, PyData.depth, PyData.depthAll, ht]
theorem kind_eqv (i : Int) (t : Str) : PyData.eqv (.list [.int i, .str t]) (.list [.int i, .str t]) = true := by
  simp [PyData.eqv, PyData.eqvAll]
theorem iteFx {c : Bool} {A B : Prop} (h : c = true) (k : B) : if (!c) = true then A else B := by rw [h]; exact iteF k
theorem none_rep {α : Type} {n j : Nat} {o : Option α} (h : (List.replicate n (none : Option α))[j]? = some o) : o = none := by
  rw [List.getElem?_replicate] at h
  split at h
  · cases h; rfl
  · cases h
theorem refuse_nog {K : PySem.W.Frag} {C : Addr} {H : Hp} {k : Nat} {o t r f : V} (h1 : 1 ≤ k) (h2 : k ≤ 12) (h : NoG K H o) : Refuse K C H k o t r f 3 o := by
  have e : k = 1 ∨ k = 2 ∨ k = 3 ∨ k = 4 ∨ k = 5 ∨ k = 6 ∨ k = 7 ∨ k = 8 ∨ k = 9 ∨ k = 10 ∨ k = 11 ∨ k = 12 := by omega
  have b : NoG K H o ∧ (3 : Nat) = 3 ∧ o = o := ⟨h, rfl, rfl⟩
  rcases e with rfl | rfl | rfl | rfl | rfl | rfl | rfl | rfl | rfl | rfl | rfl | rfl
  · exact .inr (.inl ⟨rfl, .inl b⟩)
  · exact .inr (.inr (.inl ⟨rfl, .inl b⟩))
  · exact .inr (.inr (.inr (.inl ⟨rfl, .inl b⟩)))
  · exact .inr (.inr (.inr (.inr (.inl ⟨rfl, .inl b⟩))))
  · exact .inr (.inr (.inr (.inr (.inr (.inl ⟨rfl, .inl b⟩)))))
  · exact .inr (.inr (.inr (.inr (.inr (.inr (.inl ⟨rfl, .inl b⟩))))))
  · exact .inr (.inr (.inr (.inr (.inr (.inr (.inr (.inl ⟨rfl, .inl b⟩)))))))
  · exact .inr (.inr (.inr (.inr (.inr (.inr (.inr (.inr (.inl ⟨rfl, .inl b⟩))))))))
  · exact .inr (.inr (.inr (.inr (.inr (.inr (.inr (.inr (.inr (.inl ⟨rfl, .inl b⟩)))))))))
  · exact .inr (.inr (.inr (.inr (.inr (.inr (.inr (.inr (.inr (.inr (.inl ⟨rfl, .inl b⟩))))))))))
  · exact .inr (.inr (.inr (.inr (.inr (.inr (.inr (.inr (.inr (.inr (.inr (.inl ⟨rfl, .inl (.inl b)⟩)))))))))))
  · exact .inr (.inr (.inr (.inr (.inr (.inr (.inr (.inr (.inr (.inr (.inr (.inr (.inl ⟨rfl, b⟩))))))))))))
theorem refuse_two {K : PySem.W.Frag} {C : Addr} {H : Hp} {k : Nat} {o t r f : V} (h1 : 5 ≤ k) (h2 : k ≤ 6) (hG : IsG C H o) (h : NoG K H t) : Refuse K C H k o t r f 3 t := by
  have e : k = 5 ∨ k = 6 := by omega
  rcases e with rfl | rfl
  · exact .inr (.inr (.inr (.inr (.inr (.inl ⟨rfl, .inr ⟨hG, h, rfl, rfl⟩⟩)))))
  · exact .inr (.inr (.inr (.inr (.inr (.inr (.inl ⟨rfl, .inr ⟨hG, h, rfl, rfl⟩⟩))))))
theorem refuse_dep {K : PySem.W.Frag} {C : Addr} {H : Hp} {k : Nat} {o t r f : V} (e : k = 2 ∨ k = 3 ∨ k = 7 ∨ k = 8 ∨ k = 9 ∨ k = 11) (hG : IsG C H o) (h : NumV K H t 1 (some 32) false) : Refuse K C H k o t r f 4 t := by
  rcases e with rfl | rfl | rfl | rfl | rfl | rfl
  · exact .inr (.inr (.inl ⟨rfl, .inr ⟨hG, .inl ⟨h, rfl, rfl⟩⟩⟩))
  · exact .inr (.inr (.inr (.inl ⟨rfl, .inr ⟨hG, .inl ⟨h, rfl, rfl⟩⟩⟩)))
  · exact .inr (.inr (.inr (.inr (.inr (.inr (.inr (.inl ⟨rfl, .inr ⟨hG, h, rfl, rfl⟩⟩)))))))
  · exact .inr (.inr (.inr (.inr (.inr (.inr (.inr (.inr (.inl ⟨rfl, .inr ⟨hG, h, rfl, rfl⟩⟩))))))))
  · exact .inr (.inr (.inr (.inr (.inr (.inr (.inr (.inr (.inr (.inl ⟨rfl, .inr ⟨hG, h, rfl, rfl⟩⟩)))))))))
  · exact .inr (.inr (.inr (.inr (.inr (.inr (.inr (.inr (.inr (.inr (.inr (.inl ⟨rfl, .inl (.inr ⟨hG, .inl ⟨h, rfl, rfl⟩⟩)⟩)))))))))))
theorem refuse_row {K : PySem.W.Frag} {C : Addr} {H : Hp} {k : Nat} {o r f : V} (e : k = 2 ∨ k = 3 ∨ k = 11) (hG : IsG C H o) (h : BadS K H 4 r) : Refuse K C H k o (.int 4) r f 5 r := by
  rcases e with rfl | rfl | rfl
  · exact .inr (.inr (.inl ⟨rfl, .inr ⟨hG, .inr ⟨4, rfl, by decide, by decide, h, rfl, rfl⟩⟩⟩))
  · exact .inr (.inr (.inr (.inl ⟨rfl, .inr ⟨hG, .inr ⟨4, rfl, by decide, by decide, h, rfl, rfl⟩⟩⟩)))
  · exact .inr (.inr (.inr (.inr (.inr (.inr (.inr (.inr (.inr (.inr (.inr (.inl ⟨rfl, .inl (.inr ⟨hG, .inr ⟨4, rfl, by decide, by decide, h, rfl, rfl⟩⟩)⟩)))))))))))
local macro_rules | `(tactic| walk_at "go") => `(tactic| repeat (first | (with_reducible first | refine iteT ?_ | refine iteF ?_ | refine iteNtt ?_ | refine iteNff ?_ | refine iteET (by omega) ?_ | refine iteEF (by omega) ?_ | refine iteENT (by omega) ?_ | refine iteENF (by omega) ?_ | refine iteDT (by omega) ?_ | refine iteDF (by omega) ?_ | refine iteNT (by omega) ?_ | refine iteNF (by omega) ?_) | refine ⟨_, rfl, ?_⟩ | refine ⟨_, _, rfl, rfl, ?_⟩ | refine ⟨_, _, rfl, ?_⟩ | refine ⟨rfl, ?_⟩ | refine .inl ⟨_, rfl, ?_⟩ | refine .inr ⟨_, rfl, ?_⟩))
local macro_rules | `(tactic| walk_at "b") => `(tactic| try dsimp (config := { proj := false, iota := false, eta := false, zeta := false }) only)
section
variable {P : Program} {w : World} {K : PySem.W.Frag} {mg : Str → Option Value} {base : Heap} [pf : Sup.PF P fileS]
theorem weights_big : Weights [2 ^ (15 : Int).toNat, -(2 ^ (15 : Int).toNat)] := ⟨by decide, fun x hx => by
  simp only [List.mem_cons, List.not_mem_nil, or_false] at hx
  rcases hx with rfl | rfl
  · decide +kernel
  · decide +kernel⟩
def sp_law_made_right : Sp := fun vs H Q _ => vs = [] ∧ ∀ H', Same H H' → Q (.bl true) H'
theorem G_law_made_right (T : Top K mg) : FnG P w K mg base CX0 15 T.f_law_made_right T.fd_law_made_right [] sp_law_made_right := by
  refine FnG.body T.F_law_made_right sc_law_made_right (fun vs H Q E h => by obtain ⟨rfl, _⟩ := h; rfl) (fun cdv A outer s H vs Q E gd hr h => ?_)
  obtain ⟨rfl, q⟩ := h
  refine ⟨_, PSs.nox (pss_cons (ps_for PassesOwn.never rfl (k_piL K rfl (pe_lst (pa_cons pe_non (pa_cons pe_int (pa_cons (pe_tup pa_nil) (pa_cons pe_str (pa_cons pe_dnewK (pa_cons pe_bl (pa_cons (pe_op op_rep (pe_lst (pa_cons pe_int pa_nil)) pe_int) pa_nil))))))))) (pg_name (i := 0) sc_law_made_right.nd rfl (by first | exact Or.inl rfl | exact Or.inr rfl))
    (pss_one (ps_if (pt_cmpR (k_neD K rfl hr.units) (pe_callG (G_law_caught (P := P) T) gd (hr.mono (by decide)) (by rfl) T.g_law_caught T.F_law_caught.kp T.b_law_caught .nil pass0 (pa_cons pe_int (pa_cons (pv 0) (pa_cons pe_non (pa_cons pe_int (pa_cons pe_int pa_nil)))))) (pe_lst (pa_cons pe_int (pa_cons (pe_callB (k_reprX K rfl gd (hu65 hr)) (by rfl) T.n_repr (by decide +kernel) (pa_cons (pv 0) pa_nil)) pa_nil))) (nomark _))
    (pss_one (ps_ret pe_bl))
    pss_nil)))
  (pss_cons (ps_for PassesOwn.never rfl (k_piL K rfl (pe_lst (pa_cons pe_non (pa_cons pe_bl (pa_cons pe_str (pa_cons (pe_lst (pa_cons pe_int pa_nil)) (pa_cons (pe_tup (pa_cons pe_int (pa_cons pe_int pa_nil))) (pa_cons (pe_op op_add (pe_op op_powW pe_int pe_int) pe_int) (pa_cons (pe_op op_sub (pe_un un_neg (pe_op op_powW pe_int pe_int)) pe_int) pa_nil))))))))) (pg_name (i := 0) sc_law_made_right.nd rfl (by first | exact Or.inl rfl | exact Or.inr rfl))
    (pss_one (ps_if (pt_cmpR (k_neD K rfl hr.units) (pe_callG (G_law_caught (P := P) T) gd (hr.mono (by decide)) (by rfl) T.g_law_caught T.F_law_caught.kp T.b_law_caught .nil pass0 (pa_cons pe_int (pa_cons (pe_lst (pa_cons pe_int (pa_cons (pv 0) (pa_cons pe_non pa_nil)))) (pa_cons pe_non (pa_cons pe_int (pa_cons pe_int pa_nil)))))) (pe_lst (pa_cons pe_int (pa_cons (pe_callB (k_reprX K rfl gd (hu65 hr)) (by rfl) T.n_repr (by decide +kernel) (pa_cons (pv 0) pa_nil)) pa_nil))) (nomark _))
    (pss_one (ps_ret pe_bl))
    pss_nil)))
  (pss_cons (ps_for PassesOwn.never rfl (k_piL K rfl (pe_lst (pa_cons pe_non (pa_cons pe_bl (pa_cons (pe_un un_neg pe_int) (pa_cons pe_int (pa_cons (pe_lst pa_nil) (pa_cons pe_str pa_nil)))))))) (pg_name (i := 0) sc_law_made_right.nd rfl (by first | exact Or.inl rfl | exact Or.inr rfl))
    (pss_one (ps_if (pt_cmpR (k_neD K rfl hr.units) (pe_callG (G_law_caught (P := P) T) gd (hr.mono (by decide)) (by rfl) T.g_law_caught T.F_law_caught.kp T.b_law_caught .nil pass0 (pa_cons pe_int (pa_cons (pe_lst (pa_cons (pe_op op_powW pe_int pe_int) (pa_cons (pe_un un_neg (pe_op op_powW pe_int pe_int)) pa_nil))) (pa_cons (pv 0) (pa_cons pe_int (pa_cons pe_int pa_nil)))))) (pe_lst (pa_cons pe_int (pa_cons (pe_callB (k_reprX K rfl gd (hu65 hr)) (by rfl) T.n_repr (by decide +kernel) (pa_cons (pv 0) pa_nil)) pa_nil))) (nomark _))
    (pss_one (ps_ret pe_bl))
    pss_nil)))
  (pss_one (ps_ret (pe_cmpR (k_eqD K rfl hr.units) (pe_lc (own := [("_law_bad", 0)]) (g := gName 0) (by rfl) sc_law_made_right.nd (k_piL K rfl (pe_lst (pa_cons pe_non (pa_cons pe_bl (pa_cons (pe_un un_neg pe_int) (pa_cons pe_int (pa_cons (pe_lst pa_nil) (pa_cons pe_str pa_nil)))))))) (blkOk_by (own := [("_law_bad", 0)]) (N := N_law_made_right) (sc := defScope s_law_made_right) (by decide +kernel)) (fun _ _ _ _ _ => (pg_name (i := 0) sc_law_made_right.nd rfl (by first | exact Or.inl rfl | exact Or.inr rfl))) (fun _ _ _ _ _ => (pts_one (pt_cmpR (k_neD K rfl hr.units) (pe_callG (G_law_caught (P := P) T) gd (hr.mono (by decide)) (by rfl) T.g_law_caught T.F_law_caught.kp T.b_law_caught .nil pass0 (pa_cons pe_int (pa_cons (pv 0) (pa_cons pe_int (pa_cons pe_int (pa_cons pe_int pa_nil)))))) (pe_lst (pa_cons pe_int (pa_cons (pe_callB (k_reprX K rfl gd (hu65 hr)) (by rfl) T.n_repr (by decide +kernel) (pa_cons (pv 0) pa_nil)) pa_nil))) (nomark _)))) (fun _ _ _ _ _ => (pv 0))) (pe_lst pa_nil) (nomark _))))))), ?_⟩
  refine ⟨(by show 0 ≤ sizeLine; decide), fun a1 na1 => ?_⟩
  obtain ⟨Ha1, ea1, sa1, ha1⟩ := fresh (.tup ([] : List V)) na1
  rw [ea1]
  refine fun a2 na2 => ?_
  obtain ⟨Ha2, ea2, sa2, ha2⟩ := fresh (.dK []) na2
  rw [ea2]
  refine ⟨(by show 1 ≤ sizeLine; decide), fun a3 na3 => ?_⟩
  obtain ⟨Ha3, ea3, sa3, ha3⟩ := fresh (.lst [V.int 0]) na3
  rw [ea3]
  refine ⟨a3, _, _, rfl, rfl, ha3, by decide, by decide, by decide, fun a4 na4 => ?_⟩
  obtain ⟨Ha4, ea4, sa4, ha4⟩ := fresh (.lst (List.replicate (Int.toNat 9) [V.int 0]).flatten) na4
  rw [ea4]
  have ha4 : Ha4 a4 = some (.lst [V.int 0, .int 0, .int 0, .int 0, .int 0, .int 0, .int 0, .int 0, .int 0]) := ha4
  refine ⟨(by show 7 ≤ sizeLine; decide), fun a5 na5 => ?_⟩
  obtain ⟨Ha5, ea5, sa5, ha5⟩ := fresh (.lst [V.non, .int 3, .ref a1, .str (("x" : String) : Str), .ref a2, .bl true, .ref a4]) na5
  rw [ea5]
  have f1 : ∀ x ∈ [V.non, .int 3, .ref a1, .str (("x" : String) : Str), .ref a2, .bl true, .ref a4], (BadI K Ha5 x .non 0 x) ∧ ∃ t, ShwX K Ha5 x t ∧ PyData.strOk t = true := by
    intro x hx
    simp only [List.mem_cons, List.not_mem_nil, or_false] at hx
    rcases hx with rfl | rfl | rfl | rfl | rfl | rfl | rfl
    · exact ⟨.inl ⟨.inl ⟨_, .base .non, by decide +kernel⟩, rfl, rfl⟩, shx_ok .non (by decide +kernel)⟩
    · exact ⟨.inl ⟨.inl ⟨_, .base (.int _), by decide +kernel⟩, rfl, rfl⟩, shx_ok (.int _) (by decide +kernel)⟩
    · exact ⟨.inl ⟨.inl ⟨_, .base (.tup (sa5 _ _ (sa4 _ _ (sa3 _ _ (sa2 _ _ ha1))))), by decide +kernel⟩, rfl, rfl⟩, shx_ok (.tup (.inl (.inl (sa5 _ _ (sa4 _ _ (sa3 _ _ (sa2 _ _ ha1)))))) .nil) (by decide +kernel)⟩
    · exact ⟨.inl ⟨.inl ⟨_, .base (.str _), by decide +kernel⟩, rfl, rfl⟩, shx_ok (.str _) (by decide +kernel)⟩
    · exact ⟨.inl ⟨.inl ⟨_, .base (.dK (sa5 _ _ (sa4 _ _ (sa3 _ _ ha2)))), by decide +kernel⟩, rfl, rfl⟩, shx_dict (sa5 _ _ (sa4 _ _ (sa3 _ _ ha2)))⟩
    · exact ⟨.inl ⟨.inl ⟨_, .base (.bl _), by decide +kernel⟩, rfl, rfl⟩, shx_ok (.bl _) (by decide +kernel)⟩
    · exact ⟨.inl ⟨.inr ⟨a4, _, rfl, (sa5 _ _ ha4), by decide, by decide⟩, rfl, rfl⟩, shx_ok (dp_row (ns := ([0, 0, 0, 0, 0, 0, 0, 0, 0] : List Int)) (.inl (.inl (sa5 _ _ ha4)))) (by decide +kernel)⟩
  have s1 := ((((sa1.trans sa2).trans sa3).trans sa4).trans sa5)
  refine ⟨a5, rfl, ⟨_, .inl (.inl ha5)⟩, for_list (K := K) (a := a5) (fun i σ HE => ∃ v0 : Option V, σ = [v0] ∧ Same Ha5 HE) ⟨none, rfl, Same.refl _⟩ (fun i σ HE _ ⟨_, _, s⟩ => .inl (.inl (s _ _ ha5))) ?_ ?_⟩
  · rintro i x σ HE hx ⟨v0, rfl, sE⟩
    obtain ⟨hR, t, hS, hok⟩ := f1 x (List.mem_of_getElem? hx)
    refine ⟨_, rfl, 0, x, .non, .int 0, .int 0, 0, x, t, rfl, .inl ⟨rfl, hR.same sE⟩, hS.same sE, fun HAX pA sXA npA hpA => ?_⟩
    have sYA := sE.trans sXA
    refine ⟨_, rfl, (hS.same sYA).repr ⟨(by show 2 ≤ sizeLine; decide), fun MA nMA => ?_⟩⟩
    obtain ⟨HAZ, eZA, sZA, hMA⟩ := fresh (.lst [.int 0, .str t]) nMA
    rw [eZA]
    refine ⟨_, _, .lst (.inl (.inl (sZA _ _ hpA))) (.cons (.int _) (.cons (.str _) .nil)), .lst (.inl (.inl hMA)) (.cons (.int _) (.cons (.str _) .nil)), kind_shaped hok, kind_shaped hok, _, rfl, ?_⟩
    have sTA := sYA.trans sZA
    have sUA := sXA.trans sZA
    exact iteFx (kind_eqv _ t) ⟨_, rfl, sTA⟩
  · rintro σ HE ⟨v0, rfl, sE⟩
    refine ⟨(by show 1 ≤ sizeLine; decide), fun b1 nb1 => ?_⟩
    obtain ⟨Hb1, eb1, sb1, hb1⟩ := fresh (.lst [V.int 1]) nb1
    rw [eb1]
    refine ⟨(by show 2 ≤ sizeLine; decide), fun b2 nb2 => ?_⟩
    obtain ⟨Hb2, eb2, sb2, hb2⟩ := fresh (.tup [V.int 1, .int 2]) nb2
    rw [eb2]
    refine ⟨_, _, rfl, rfl, ⟨by decide, by decide +kernel⟩, _, _, rfl, rfl, _, _, rfl, rfl, ⟨by decide, by decide +kernel⟩, _, rfl, _, _, rfl, rfl, (by show 7 ≤ sizeLine; decide), fun b3 nb3 => ?_⟩
    obtain ⟨Hb3, eb3, sb3, hb3⟩ := fresh (.lst [V.non, .bl true, .str (("1" : String) : Str), .ref b1, .ref b2, .int (2 ^ (15 : Int).toNat + 1), .int (-(2 ^ (15 : Int).toNat) - 1)]) nb3
    rw [eb3]
    have f2 : ∀ x ∈ [V.non, .bl true, .str (("1" : String) : Str), .ref b1, .ref b2, .int (2 ^ (15 : Int).toNat + 1), .int (-(2 ^ (15 : Int).toNat) - 1)], (NumV K Hb3 x (-32768) (some 32768) false) ∧ ∃ t, ShwX K Hb3 x t ∧ PyData.strOk t = true := by
      intro x hx
      simp only [List.mem_cons, List.not_mem_nil, or_false] at hx
      rcases hx with rfl | rfl | rfl | rfl | rfl | rfl | rfl
      · exact ⟨.inr ⟨.inr ⟨_, .base .non, by decide +kernel⟩, rfl⟩, shx_ok .non (by decide +kernel)⟩
      · exact ⟨.inr ⟨.inl ⟨_, rfl⟩, rfl⟩, shx_ok (.bl _) (by decide +kernel)⟩
      · exact ⟨.inr ⟨.inr ⟨_, .base (.str _), by decide +kernel⟩, rfl⟩, shx_ok (.str _) (by decide +kernel)⟩
      · exact ⟨.inr ⟨.inr ⟨_, .base (.lst (sb3 _ _ (sb2 _ _ hb1))), by decide +kernel⟩, rfl⟩, shx_ok (dp_row (ns := ([1] : List Int)) (.inl (.inl (sb3 _ _ (sb2 _ _ hb1))))) (by decide +kernel)⟩
      · exact ⟨.inr ⟨.inr ⟨_, .base (.tup (sb3 _ _ hb2)), by decide +kernel⟩, rfl⟩, shx_ok (.tup (.inl (.inl (sb3 _ _ hb2))) (.cons (.int _) (.cons (.int _) .nil))) (by decide +kernel)⟩
      · exact ⟨.inl ⟨_, rfl, (decide_eq_false fun z => absurd (z.2 _ rfl) (by decide +kernel)).symm⟩, shx_ok (.int _) (by decide +kernel)⟩
      · exact ⟨.inl ⟨_, rfl, (decide_eq_false fun z => absurd z.1 (by decide +kernel)).symm⟩, shx_ok (.int _) (by decide +kernel)⟩
    have s2 := ((sb1.trans sb2).trans sb3)
    refine ⟨b3, rfl, ⟨_, .inl (.inl hb3)⟩, for_list (K := K) (a := b3) (fun i σ HF => ∃ v0 : Option V, σ = [v0] ∧ Same Hb3 HF) ⟨v0, rfl, Same.refl _⟩ (fun i σ HF _ ⟨_, _, s⟩ => .inl (.inl (s _ _ hb3))) ?_ ?_⟩
    · rintro i x σ HF hx ⟨v0, rfl, sF⟩
      obtain ⟨hR, t, hS, hok⟩ := f2 x (List.mem_of_getElem? hx)
      refine ⟨_, rfl, (by show 3 ≤ sizeLine; decide), fun c1 nc1 => ?_⟩
      obtain ⟨Hc1, ec1, sc1, hc1⟩ := fresh (.lst [V.int 1, x, .non]) nc1
      rw [ec1]
      have sFB := sF.trans (sc1)
      refine ⟨0, .ref c1, .non, .int 0, .int 0, 1, x, t, rfl, .inl ⟨rfl, .inr (.inl ⟨c1, [1], x, [.non], rfl, hc1, by decide, by decide, hR.same sFB, rfl, rfl⟩)⟩, hS.same sFB, fun HBX pB sXB npB hpB => ?_⟩
      have sYB := sFB.trans sXB
      refine ⟨_, rfl, (hS.same sYB).repr ⟨(by show 2 ≤ sizeLine; decide), fun MB nMB => ?_⟩⟩
      obtain ⟨HBZ, eZB, sZB, hMB⟩ := fresh (.lst [.int 1, .str t]) nMB
      rw [eZB]
      refine ⟨_, _, .lst (.inl (.inl (sZB _ _ hpB))) (.cons (.int _) (.cons (.str _) .nil)), .lst (.inl (.inl hMB)) (.cons (.int _) (.cons (.str _) .nil)), kind_shaped hok, kind_shaped hok, _, rfl, ?_⟩
      have sTB := sYB.trans sZB
      have sUB := sXB.trans sZB
      exact iteFx (kind_eqv _ t) ⟨_, rfl, sTB⟩
    · rintro σ HF ⟨v0, rfl, sF⟩
      refine ⟨_, rfl, (by show 0 ≤ sizeLine; decide), fun d1 nd1 => ?_⟩
      obtain ⟨Hd1, ed1, sd1, hd1⟩ := fresh (.lst ([] : List V)) nd1
      rw [ed1]
      refine ⟨(by show 6 ≤ sizeLine; decide), fun d2 nd2 => ?_⟩
      obtain ⟨Hd2, ed2, sd2, hd2⟩ := fresh (.lst [V.non, .bl true, .int (-1), .int 16, .ref d1, .str (("0" : String) : Str)]) nd2
      rw [ed2]
      have f3 : ∀ x ∈ [V.non, .bl true, .int (-1), .int 16, .ref d1, .str (("0" : String) : Str)], (NumV K Hd2 x 0 (some 15) false) ∧ ∃ t, ShwX K Hd2 x t ∧ PyData.strOk t = true := by
        intro x hx
        simp only [List.mem_cons, List.not_mem_nil, or_false] at hx
        rcases hx with rfl | rfl | rfl | rfl | rfl | rfl
        · exact ⟨.inr ⟨.inr ⟨_, .base .non, by decide +kernel⟩, rfl⟩, shx_ok .non (by decide +kernel)⟩
        · exact ⟨.inr ⟨.inl ⟨_, rfl⟩, rfl⟩, shx_ok (.bl _) (by decide +kernel)⟩
        · exact ⟨.inl ⟨-1, rfl, (decide_eq_false fun z => absurd z.1 (by decide)).symm⟩, shx_ok (.int _) (by decide +kernel)⟩
        · exact ⟨.inl ⟨16, rfl, (decide_eq_false fun z => absurd (z.2 _ rfl) (by decide)).symm⟩, shx_ok (.int _) (by decide +kernel)⟩
        · exact ⟨.inr ⟨.inr ⟨_, .base (.lst (sd2 _ _ hd1)), by decide +kernel⟩, rfl⟩, shx_ok (dp_row (ns := ([] : List Int)) (.inl (.inl (sd2 _ _ hd1)))) (by decide +kernel)⟩
        · exact ⟨.inr ⟨.inr ⟨_, .base (.str _), by decide +kernel⟩, rfl⟩, shx_ok (.str _) (by decide +kernel)⟩
      have s3 := (sd1.trans sd2)
      refine ⟨d2, rfl, ⟨_, .inl (.inl hd2)⟩, for_list (K := K) (a := d2) (fun i σ HG => ∃ v0 : Option V, σ = [v0] ∧ Same Hd2 HG) ⟨v0, rfl, Same.refl _⟩ (fun i σ HG _ ⟨_, _, s⟩ => .inl (.inl (s _ _ hd2))) ?_ ?_⟩
      · rintro i x σ HG hx ⟨v0, rfl, sG⟩
        obtain ⟨hR, t, hS, hok⟩ := f3 x (List.mem_of_getElem? hx)
        refine ⟨_, _, rfl, rfl, ⟨by decide, by decide +kernel⟩, _, _, rfl, rfl, ⟨by decide, by decide +kernel⟩, _, rfl, (by show 2 ≤ sizeLine; decide), fun e1 ne1 => ?_⟩
        obtain ⟨He1, ee1, se1, he1⟩ := fresh (.lst [V.int (2 ^ (15 : Int).toNat), .int (-(2 ^ (15 : Int).toNat))]) ne1
        rw [ee1]
        have sGB := sG.trans (se1)
        refine ⟨_, rfl, 0, .ref e1, x, .int 0, .int 0, 2, x, t, rfl, .inl ⟨rfl, .inr (.inr ⟨e1, [2 ^ (15 : Int).toNat, -(2 ^ (15 : Int).toNat)], rfl, he1, weights_big, hR.same sGB, rfl, rfl⟩)⟩, hS.same sGB, fun HCX pC sXC npC hpC => ?_⟩
        have sYC := sGB.trans sXC
        refine ⟨_, rfl, (hS.same sYC).repr ⟨(by show 2 ≤ sizeLine; decide), fun MC nMC => ?_⟩⟩
        obtain ⟨HCZ, eZC, sZC, hMC⟩ := fresh (.lst [.int 2, .str t]) nMC
        rw [eZC]
        refine ⟨_, _, .lst (.inl (.inl (sZC _ _ hpC))) (.cons (.int _) (.cons (.str _) .nil)), .lst (.inl (.inl hMC)) (.cons (.int _) (.cons (.str _) .nil)), kind_shaped hok, kind_shaped hok, _, rfl, ?_⟩
        have sTC := sYC.trans sZC
        have sUC := sXC.trans sZC
        exact iteFx (kind_eqv _ t) ⟨_, rfl, sTC⟩
      · rintro σ HG ⟨v0, rfl, sG⟩
        refine ⟨_, rfl, (by show 0 ≤ sizeLine; decide), fun f1 nf1 => ?_⟩
        obtain ⟨Hf1, ef1, sf1, hf1⟩ := fresh (.lst ([] : List V)) nf1
        rw [ef1]
        refine ⟨(by show 6 ≤ sizeLine; decide), fun f2 nf2 => ?_⟩
        obtain ⟨Hf2, ef2, sf2, hf2⟩ := fresh (.lst [V.non, .bl true, .int (-1), .int 9, .ref f1, .str (("0" : String) : Str)]) nf2
        rw [ef2]
        have f4 : ∀ x ∈ [V.non, .bl true, .int (-1), .int 9, .ref f1, .str (("0" : String) : Str)], (NumV K Hf2 x 0 (some 8) false) ∧ ∃ t, ShwX K Hf2 x t ∧ PyData.strOk t = true := by
          intro x hx
          simp only [List.mem_cons, List.not_mem_nil, or_false] at hx
          rcases hx with rfl | rfl | rfl | rfl | rfl | rfl
          · exact ⟨.inr ⟨.inr ⟨_, .base .non, by decide +kernel⟩, rfl⟩, shx_ok .non (by decide +kernel)⟩
          · exact ⟨.inr ⟨.inl ⟨_, rfl⟩, rfl⟩, shx_ok (.bl _) (by decide +kernel)⟩
          · exact ⟨.inl ⟨-1, rfl, (decide_eq_false fun z => absurd z.1 (by decide)).symm⟩, shx_ok (.int _) (by decide +kernel)⟩
          · exact ⟨.inl ⟨9, rfl, (decide_eq_false fun z => absurd (z.2 _ rfl) (by decide)).symm⟩, shx_ok (.int _) (by decide +kernel)⟩
          · exact ⟨.inr ⟨.inr ⟨_, .base (.lst (sf2 _ _ hf1)), by decide +kernel⟩, rfl⟩, shx_ok (dp_row (ns := ([] : List Int)) (.inl (.inl (sf2 _ _ hf1)))) (by decide +kernel)⟩
          · exact ⟨.inr ⟨.inr ⟨_, .base (.str _), by decide +kernel⟩, rfl⟩, shx_ok (.str _) (by decide +kernel)⟩
        have s4 := (sf1.trans sf2)
        refine ⟨f2, rfl, ⟨_, .inl (.inl hf2)⟩, fun D nD => ?_⟩
        refine lc_selL (K := K) (xs := [V.non, .bl true, .int (-1), .int 9, .ref f1, .str (("0" : String) : Str)]) (List.replicate 6 none) nD (.inl (.inl hf2)) rfl (by show 6 < sizeLine; decide) (fun x => rfl) ?_ ?_
        · intro j x oo HJ hx ho sJ Qt qt
          cases none_rep ho
          obtain ⟨hR, t, hS, hok⟩ := f4 x (List.mem_of_getElem? hx)
          refine ⟨_, rfl, 13, x, .int 0, .int 0, .int 0, 2, x, t, rfl, .inr (.inr (.inr (.inr (.inr (.inr (.inr (.inr (.inr (.inr (.inr (.inr (.inr (⟨rfl, hR.same sJ, rfl, rfl⟩))))))))))))), hS.same sJ, fun HDX pD sXD npD hpD => ?_⟩
          have sYD := sJ.trans sXD
          refine ⟨_, rfl, (hS.same sYD).repr ⟨(by show 2 ≤ sizeLine; decide), fun MD nMD => ?_⟩⟩
          obtain ⟨HDZ, eZD, sZD, hMD⟩ := fresh (.lst [.int 2, .str t]) nMD
          rw [eZD]
          refine ⟨_, _, .lst (.inl (.inl (sZD _ _ hpD))) (.cons (.int _) (.cons (.str _) .nil)), .lst (.inl (.inl hMD)) (.cons (.int _) (.cons (.str _) .nil)), kind_shaped hok, kind_shaped hok, _, rfl, ?_⟩
          have sTD := sYD.trans sZD
          have sUD := sXD.trans sZD
          exact iteFx (kind_eqv _ t) (qt _ sUD)
        · intro HK sK hD
          refine ⟨Nat.zero_le _, fun em nem => ?_⟩
          obtain ⟨HL, eL, sL, hem⟩ := fresh (.lst ([] : List V)) nem
          rw [eL]
          refine eqD_lst (ns := []) (ms := []) (.inl (.inl (sL _ _ hD))) (.inl (.inl hem)) ?_
          exact q _ (((((((s1.trans sE).trans s2).trans sF).trans s3).trans sG).trans s4).trans (sK.trans sL))
def sp_law_doors_right (C : Addr) : Sp := fun vs H Q _ => ∃ gx : Addr, vs = [.ref gx] ∧ IsG C H (.ref gx) ∧ ∀ H', Same H H' → Q (.bl true) H'
theorem G_law_doors_right (T : Top K mg) : FnG P w K mg base CX0 15 T.f_law_doors_right T.fd_law_doors_right ["_law_guesser"] (sp_law_doors_right T.C_Guesser) := by
  refine FnG.body T.F_law_doors_right sc_law_doors_right (fun vs H Q E h => by obtain ⟨gx, rfl, _⟩ := h; rfl) (fun cdv A outer s H vs Q E gd hr h => ?_)
  obtain ⟨gx, rfl, hG, q⟩ := h
  refine ⟨_, PSs.nox (pss_cons (ps_for PassesOwn.never rfl (k_piL K rfl (pe_lst (pa_cons pe_non (pa_cons pe_int (pa_cons (pe_lst (pa_cons pe_int pa_nil)) (pa_cons (pe_tup pa_nil) (pa_cons pe_str (pa_cons pe_dnewK (pa_cons pe_bl pa_nil))))))))) (pg_name (i := 1) sc_law_doors_right.nd rfl (by first | exact Or.inl rfl | exact Or.inr rfl))
    (pss_cons (ps_for PassesOwn.never rfl (k_piL K rfl (pe_lst (pa_cons pe_int (pa_cons pe_int (pa_cons pe_int (pa_cons pe_int (pa_cons pe_int (pa_cons pe_int (pa_cons pe_int (pa_cons pe_int (pa_cons pe_int (pa_cons pe_int (pa_cons pe_int (pa_cons pe_int pa_nil)))))))))))))) (pg_name (i := 2) sc_law_doors_right.nd rfl (by first | exact Or.inl rfl | exact Or.inr rfl))
    (pss_one (ps_if (pt_cmpR (k_neD K rfl hr.units) (pe_callG (G_law_caught (P := P) T) gd (hr.mono (by decide)) (by rfl) T.g_law_caught T.F_law_caught.kp T.b_law_caught .nil pass0 (pa_cons (pv 2) (pa_cons (pv 1) (pa_cons pe_non (pa_cons pe_non (pa_cons pe_non pa_nil)))))) (pe_lst (pa_cons pe_int (pa_cons (pe_callB (k_reprX K rfl gd (hu65 hr)) (by rfl) T.n_repr (by decide +kernel) (pa_cons (pv 1) pa_nil)) pa_nil))) (nomark _))
    (pss_one (ps_ret pe_bl))
    pss_nil)))
  (pss_one (ps_for PassesOwn.never rfl (k_piL K rfl (pe_lst (pa_cons pe_int (pa_cons pe_int pa_nil)))) (pg_name (i := 2) sc_law_doors_right.nd rfl (by first | exact Or.inl rfl | exact Or.inr rfl))
    (pss_one (ps_if (pt_cmpR (k_neD K rfl hr.units) (pe_callG (G_law_caught (P := P) T) gd (hr.mono (by decide)) (by rfl) T.g_law_caught T.F_law_caught.kp T.b_law_caught .nil pass0 (pa_cons (pv 2) (pa_cons (pv 0) (pa_cons (pv 1) (pa_cons pe_int (pa_cons pe_int pa_nil)))))) (pe_lst (pa_cons pe_int (pa_cons (pe_callB (k_reprX K rfl gd (hu65 hr)) (by rfl) T.n_repr (by decide +kernel) (pa_cons (pv 1) pa_nil)) pa_nil))) (nomark _))
    (pss_one (ps_ret pe_bl))
    pss_nil))))))
  (pss_cons (ps_for PassesOwn.never rfl (k_piL K rfl (pe_lst (pa_cons pe_non (pa_cons pe_int (pa_cons pe_int (pa_cons pe_bl (pa_cons (pe_un un_neg pe_int) (pa_cons (pe_lst pa_nil) (pa_cons pe_str pa_nil))))))))) (pg_name (i := 1) sc_law_doors_right.nd rfl (by first | exact Or.inl rfl | exact Or.inr rfl))
    (pss_one (ps_for PassesOwn.never rfl (k_piL K rfl (pe_lst (pa_cons pe_int (pa_cons pe_int (pa_cons pe_int (pa_cons pe_int (pa_cons pe_int (pa_cons pe_int pa_nil)))))))) (pg_name (i := 2) sc_law_doors_right.nd rfl (by first | exact Or.inl rfl | exact Or.inr rfl))
    (pss_one (ps_if (pt_cmpR (k_neD K rfl hr.units) (pe_callG (G_law_caught (P := P) T) gd (hr.mono (by decide)) (by rfl) T.g_law_caught T.F_law_caught.kp T.b_law_caught .nil pass0 (pa_cons (pv 2) (pa_cons (pv 0) (pa_cons (pv 1) (pa_cons pe_non (pa_cons pe_non pa_nil)))))) (pe_lst (pa_cons pe_int (pa_cons (pe_callB (k_reprX K rfl gd (hu65 hr)) (by rfl) T.n_repr (by decide +kernel) (pa_cons (pv 1) pa_nil)) pa_nil))) (nomark _))
    (pss_one (ps_ret pe_bl))
    pss_nil)))))
  (pss_cons (ps_for PassesOwn.never rfl (k_piL K rfl (pe_lst (pa_cons pe_non (pa_cons pe_int (pa_cons (pe_tup pa_nil) (pa_cons (pe_tup (pa_cons pe_int (pa_cons pe_int pa_nil))) (pa_cons pe_dnewK (pa_cons pe_str (pa_cons (pe_lst (pa_cons pe_bl (pa_cons pe_int pa_nil))) (pa_cons (pe_lst (pa_cons pe_non pa_nil)) (pa_cons (pe_lst (pa_cons pe_int (pa_cons pe_int pa_nil))) (pa_cons (pe_lst (pa_cons (pe_un un_neg pe_int) pa_nil)) pa_nil)))))))))))) (pg_name (i := 1) sc_law_doors_right.nd rfl (by first | exact Or.inl rfl | exact Or.inr rfl))
    (pss_one (ps_for PassesOwn.never rfl (k_piL K rfl (pe_lst (pa_cons pe_int (pa_cons pe_int (pa_cons pe_int pa_nil))))) (pg_name (i := 2) sc_law_doors_right.nd rfl (by first | exact Or.inl rfl | exact Or.inr rfl))
    (pss_one (ps_if (pt_cmpR (k_neD K rfl hr.units) (pe_callG (G_law_caught (P := P) T) gd (hr.mono (by decide)) (by rfl) T.g_law_caught T.F_law_caught.kp T.b_law_caught .nil pass0 (pa_cons (pv 2) (pa_cons (pv 0) (pa_cons pe_int (pa_cons (pv 1) (pa_cons pe_non pa_nil)))))) (pe_lst (pa_cons pe_int (pa_cons (pe_callB (k_reprX K rfl gd (hu65 hr)) (by rfl) T.n_repr (by decide +kernel) (pa_cons (pv 1) pa_nil)) pa_nil))) (nomark _))
    (pss_one (ps_ret pe_bl))
    pss_nil)))))
  (pss_one (ps_ret pe_bl))))), ?_⟩
  refine ⟨(by show 1 ≤ sizeLine; decide), fun a1 na1 => ?_⟩
  obtain ⟨Ha1, ea1, sa1, ha1⟩ := fresh (.lst [V.int 1]) na1
  rw [ea1]
  refine ⟨(by show 0 ≤ sizeLine; decide), fun a2 na2 => ?_⟩
  obtain ⟨Ha2, ea2, sa2, ha2⟩ := fresh (.tup ([] : List V)) na2
  rw [ea2]
  refine fun a3 na3 => ?_
  obtain ⟨Ha3, ea3, sa3, ha3⟩ := fresh (.dK []) na3
  rw [ea3]
  refine ⟨(by show 7 ≤ sizeLine; decide), fun a4 na4 => ?_⟩
  obtain ⟨Ha4, ea4, sa4, ha4⟩ := fresh (.lst [V.non, .int 3, .ref a1, .ref a2, .str (("guesser" : String) : Str), .ref a3, .bl true]) na4
  rw [ea4]
  have f1 : ∀ x ∈ [V.non, .int 3, .ref a1, .ref a2, .str (("guesser" : String) : Str), .ref a3, .bl true], (NoG K Ha4 x) ∧ ∃ t, ShwX K Ha4 x t ∧ PyData.strOk t = true := by
    intro x hx
    simp only [List.mem_cons, List.not_mem_nil, or_false] at hx
    rcases hx with rfl | rfl | rfl | rfl | rfl | rfl | rfl
    · exact ⟨⟨_, (by simp [notTys]), .base .non⟩, shx_ok .non (by decide +kernel)⟩
    · exact ⟨⟨_, (by simp [notTys]), .base (.int _)⟩, shx_ok (.int _) (by decide +kernel)⟩
    · exact ⟨⟨_, (by simp [notTys]), .base (.lst (sa4 _ _ (sa3 _ _ (sa2 _ _ ha1))))⟩, shx_ok (dp_row (ns := ([1] : List Int)) (.inl (.inl (sa4 _ _ (sa3 _ _ (sa2 _ _ ha1)))))) (by decide +kernel)⟩
    · exact ⟨⟨_, (by simp [notTys]), .base (.tup (sa4 _ _ (sa3 _ _ ha2)))⟩, shx_ok (.tup (.inl (.inl (sa4 _ _ (sa3 _ _ ha2)))) .nil) (by decide +kernel)⟩
    · exact ⟨⟨_, (by simp [notTys]), .base (.str _)⟩, shx_ok (.str _) (by decide +kernel)⟩
    · exact ⟨⟨_, (by simp [notTys]), .base (.dK (sa4 _ _ ha3))⟩, shx_dict (sa4 _ _ ha3)⟩
    · exact ⟨⟨_, (by simp [notTys]), .base (.bl _)⟩, shx_ok (.bl _) (by decide +kernel)⟩
  have s1 := (((sa1.trans sa2).trans sa3).trans sa4)
  refine ⟨a4, rfl, ⟨_, .inl (.inl ha4)⟩, for_list (K := K) (a := a4) (fun i σ HE => ∃ v1 v2 : Option V, σ = [some (.ref gx), v1, v2] ∧ Same Ha4 HE) ⟨none, none, rfl, Same.refl _⟩ (fun i σ HE _ ⟨_, _, _, s⟩ => .inl (.inl (s _ _ ha4))) ?_ ?_⟩
  · rintro i x σ HE hx ⟨v1, v2, rfl, sE⟩
    obtain ⟨hR, t, hS, hok⟩ := f1 x (List.mem_of_getElem? hx)
    refine ⟨(by show 12 ≤ sizeLine; decide), fun b1 nb1 => ?_⟩
    obtain ⟨Hb1, eb1, sb1, hb1⟩ := fresh (.lst [V.int 1, .int 2, .int 3, .int 4, .int 5, .int 6, .int 7, .int 8, .int 9, .int 10, .int 11, .int 12]) nb1
    rw [eb1]
    have g0 : ∀ e ∈ [V.int 1, .int 2, .int 3, .int 4, .int 5, .int 6, .int 7, .int 8, .int 9, .int 10, .int 11, .int 12], ∃ k : Nat, e = .int k ∧ (1 ≤ k ∧ k ≤ 12) := by
      intro e he
      simp only [List.mem_cons, List.not_mem_nil, or_false] at he
      rcases he with rfl | rfl | rfl | rfl | rfl | rfl | rfl | rfl | rfl | rfl | rfl | rfl
      · exact ⟨1, rfl, by decide⟩
      · exact ⟨2, rfl, by decide⟩
      · exact ⟨3, rfl, by decide⟩
      · exact ⟨4, rfl, by decide⟩
      · exact ⟨5, rfl, by decide⟩
      · exact ⟨6, rfl, by decide⟩
      · exact ⟨7, rfl, by decide⟩
      · exact ⟨8, rfl, by decide⟩
      · exact ⟨9, rfl, by decide⟩
      · exact ⟨10, rfl, by decide⟩
      · exact ⟨11, rfl, by decide⟩
      · exact ⟨12, rfl, by decide⟩
    refine ⟨b1, rfl, ⟨_, .inl (.inl hb1)⟩, for_list (K := K) (a := b1) (fun i σ HQ => ∃ v2 : Option V, σ = [some (.ref gx), some x, v2] ∧ Same Hb1 HQ) ⟨v2, rfl, Same.refl _⟩ (fun i σ HQ _ ⟨_, _, s⟩ => .inl (.inl (s _ _ hb1))) ?_ ?_⟩
    · rintro j e σ HQ he ⟨v2, rfl, sQ⟩
      obtain ⟨k, rfl, hk⟩ := g0 e (List.mem_of_getElem? he)
      have sWA := (sE).trans ((sb1).trans sQ)
      refine ⟨_, rfl, _, rfl, k, x, .non, .non, .non, 3, x, t, rfl, refuse_nog hk.1 hk.2 (hR.same sWA), hS.same sWA, fun HAX pA sXA npA hpA => ?_⟩
      have sYA := sWA.trans sXA
      refine ⟨_, rfl, (hS.same sYA).repr ⟨(by show 2 ≤ sizeLine; decide), fun MA nMA => ?_⟩⟩
      obtain ⟨HAZ, eZA, sZA, hMA⟩ := fresh (.lst [.int 3, .str t]) nMA
      rw [eZA]
      refine ⟨_, _, .lst (.inl (.inl (sZA _ _ hpA))) (.cons (.int _) (.cons (.str _) .nil)), .lst (.inl (.inl hMA)) (.cons (.int _) (.cons (.str _) .nil)), kind_shaped hok, kind_shaped hok, _, rfl, ?_⟩
      have sTA := sYA.trans sZA
      have sUA := sXA.trans sZA
      exact iteFx (kind_eqv _ t) ⟨_, rfl, sQ.trans sUA⟩
    · rintro σ HQ ⟨v2, rfl, sQ⟩
      refine ⟨(by show 2 ≤ sizeLine; decide), fun y1 ny1 => ?_⟩
      obtain ⟨Hy1, ey1, sy1, hy1⟩ := fresh (.lst [V.int 5, .int 6]) ny1
      rw [ey1]
      have g1 : ∀ e ∈ [V.int 5, .int 6], ∃ k : Nat, e = .int k ∧ (5 ≤ k ∧ k ≤ 6) := by
        intro e he
        simp only [List.mem_cons, List.not_mem_nil, or_false] at he
        rcases he with rfl | rfl
        · exact ⟨5, rfl, by decide⟩
        · exact ⟨6, rfl, by decide⟩
      refine ⟨y1, rfl, ⟨_, .inl (.inl hy1)⟩, for_list (K := K) (a := y1) (fun i σ HR => ∃ v2 : Option V, σ = [some (.ref gx), some x, v2] ∧ Same Hy1 HR) ⟨v2, rfl, Same.refl _⟩ (fun i σ HR _ ⟨_, _, s⟩ => .inl (.inl (s _ _ hy1))) ?_ ?_⟩
      · rintro j e σ HR he ⟨v2, rfl, sR⟩
        obtain ⟨k, rfl, hk⟩ := g1 e (List.mem_of_getElem? he)
        have sWB := (sE.trans ((sb1).trans sQ)).trans ((sy1).trans sR)
        refine ⟨_, rfl, _, rfl, _, rfl, k, .ref gx, x, .int 0, .int 0, 3, x, t, rfl, refuse_two hk.1 hk.2 (hG.same (s1.trans sWB)) (hR.same sWB), hS.same sWB, fun HBX pB sXB npB hpB => ?_⟩
        have sYB := sWB.trans sXB
        refine ⟨_, rfl, (hS.same sYB).repr ⟨(by show 2 ≤ sizeLine; decide), fun MB nMB => ?_⟩⟩
        obtain ⟨HBZ, eZB, sZB, hMB⟩ := fresh (.lst [.int 3, .str t]) nMB
        rw [eZB]
        refine ⟨_, _, .lst (.inl (.inl (sZB _ _ hpB))) (.cons (.int _) (.cons (.str _) .nil)), .lst (.inl (.inl hMB)) (.cons (.int _) (.cons (.str _) .nil)), kind_shaped hok, kind_shaped hok, _, rfl, ?_⟩
        have sTB := sYB.trans sZB
        have sUB := sXB.trans sZB
        exact iteFx (kind_eqv _ t) ⟨_, rfl, sR.trans sUB⟩
      · rintro σ HR ⟨v2, rfl, sR⟩
        exact ⟨_, _, rfl, (sE.trans ((sb1).trans sQ)).trans ((sy1).trans sR)⟩
  · rintro σ HE ⟨v1, v2, rfl, sE⟩
    refine ⟨_, rfl, (by show 0 ≤ sizeLine; decide), fun r1 nr1 => ?_⟩
    obtain ⟨Hr1, er1, sr1, hr1⟩ := fresh (.lst ([] : List V)) nr1
    rw [er1]
    refine ⟨(by show 7 ≤ sizeLine; decide), fun r2 nr2 => ?_⟩
    obtain ⟨Hr2, er2, sr2, hr2⟩ := fresh (.lst [V.non, .int 0, .int 33, .bl true, .int (-1), .ref r1, .str (("4" : String) : Str)]) nr2
    rw [er2]
    have f2 : ∀ x ∈ [V.non, .int 0, .int 33, .bl true, .int (-1), .ref r1, .str (("4" : String) : Str)], (NumV K Hr2 x 1 (some 32) false) ∧ ∃ t, ShwX K Hr2 x t ∧ PyData.strOk t = true := by
      intro x hx
      simp only [List.mem_cons, List.not_mem_nil, or_false] at hx
      rcases hx with rfl | rfl | rfl | rfl | rfl | rfl | rfl
      · exact ⟨.inr ⟨.inr ⟨_, .base .non, by decide +kernel⟩, rfl⟩, shx_ok .non (by decide +kernel)⟩
      · exact ⟨.inl ⟨0, rfl, (decide_eq_false fun z => absurd z.1 (by decide)).symm⟩, shx_ok (.int _) (by decide +kernel)⟩
      · exact ⟨.inl ⟨33, rfl, (decide_eq_false fun z => absurd (z.2 _ rfl) (by decide)).symm⟩, shx_ok (.int _) (by decide +kernel)⟩
      · exact ⟨.inr ⟨.inl ⟨_, rfl⟩, rfl⟩, shx_ok (.bl _) (by decide +kernel)⟩
      · exact ⟨.inl ⟨-1, rfl, (decide_eq_false fun z => absurd z.1 (by decide)).symm⟩, shx_ok (.int _) (by decide +kernel)⟩
      · exact ⟨.inr ⟨.inr ⟨_, .base (.lst (sr2 _ _ hr1)), by decide +kernel⟩, rfl⟩, shx_ok (dp_row (ns := ([] : List Int)) (.inl (.inl (sr2 _ _ hr1)))) (by decide +kernel)⟩
      · exact ⟨.inr ⟨.inr ⟨_, .base (.str _), by decide +kernel⟩, rfl⟩, shx_ok (.str _) (by decide +kernel)⟩
    have s2 := (sr1.trans sr2)
    refine ⟨r2, rfl, ⟨_, .inl (.inl hr2)⟩, for_list (K := K) (a := r2) (fun i σ HM => ∃ v1 v2 : Option V, σ = [some (.ref gx), v1, v2] ∧ Same Hr2 HM) ⟨v1, v2, rfl, Same.refl _⟩ (fun i σ HM _ ⟨_, _, _, s⟩ => .inl (.inl (s _ _ hr2))) ?_ ?_⟩
    · rintro i x σ HM hx ⟨v1, v2, rfl, sM⟩
      obtain ⟨hR, t, hS, hok⟩ := f2 x (List.mem_of_getElem? hx)
      refine ⟨(by show 6 ≤ sizeLine; decide), fun v1 nv1 => ?_⟩
      obtain ⟨Hv1, ev1, sv1, hv1⟩ := fresh (.lst [V.int 2, .int 3, .int 7, .int 8, .int 9, .int 11]) nv1
      rw [ev1]
      have g2 : ∀ e ∈ [V.int 2, .int 3, .int 7, .int 8, .int 9, .int 11], ∃ k : Nat, e = .int k ∧ (k = 2 ∨ k = 3 ∨ k = 7 ∨ k = 8 ∨ k = 9 ∨ k = 11) := by
        intro e he
        simp only [List.mem_cons, List.not_mem_nil, or_false] at he
        rcases he with rfl | rfl | rfl | rfl | rfl | rfl
        · exact ⟨2, rfl, by decide⟩
        · exact ⟨3, rfl, by decide⟩
        · exact ⟨7, rfl, by decide⟩
        · exact ⟨8, rfl, by decide⟩
        · exact ⟨9, rfl, by decide⟩
        · exact ⟨11, rfl, by decide⟩
      refine ⟨v1, rfl, ⟨_, .inl (.inl hv1)⟩, for_list (K := K) (a := v1) (fun i σ HQ => ∃ v2 : Option V, σ = [some (.ref gx), some x, v2] ∧ Same Hv1 HQ) ⟨v2, rfl, Same.refl _⟩ (fun i σ HQ _ ⟨_, _, s⟩ => .inl (.inl (s _ _ hv1))) ?_ ?_⟩
      · rintro j e σ HQ he ⟨v2, rfl, sQ⟩
        obtain ⟨k, rfl, hk⟩ := g2 e (List.mem_of_getElem? he)
        have sWE := (sM).trans ((sv1).trans sQ)
        refine ⟨_, rfl, _, rfl, _, rfl, k, .ref gx, x, .non, .non, 4, x, t, rfl, refuse_dep hk (hG.same (((s1.trans sE).trans s2).trans sWE)) (hR.same sWE), hS.same sWE, fun HEX pE sXE npE hpE => ?_⟩
        have sYE := sWE.trans sXE
        refine ⟨_, rfl, (hS.same sYE).repr ⟨(by show 2 ≤ sizeLine; decide), fun ME nME => ?_⟩⟩
        obtain ⟨HEZ, eZE, sZE, hME⟩ := fresh (.lst [.int 4, .str t]) nME
        rw [eZE]
        refine ⟨_, _, .lst (.inl (.inl (sZE _ _ hpE))) (.cons (.int _) (.cons (.str _) .nil)), .lst (.inl (.inl hME)) (.cons (.int _) (.cons (.str _) .nil)), kind_shaped hok, kind_shaped hok, _, rfl, ?_⟩
        have sTE := sYE.trans sZE
        have sUE := sXE.trans sZE
        exact iteFx (kind_eqv _ t) ⟨_, rfl, sQ.trans sUE⟩
      · rintro σ HQ ⟨v2, rfl, sQ⟩
        exact ⟨_, _, rfl, sM.trans ((sv1).trans sQ)⟩
    · rintro σ HM ⟨v1, v2, rfl, sM⟩
      refine ⟨(by show 0 ≤ sizeLine; decide), fun u1 nu1 => ?_⟩
      obtain ⟨Hu1, eu1, su1, hu1⟩ := fresh (.tup ([] : List V)) nu1
      rw [eu1]
      refine ⟨(by show 2 ≤ sizeLine; decide), fun u2 nu2 => ?_⟩
      obtain ⟨Hu2, eu2, su2, hu2⟩ := fresh (.tup [V.int 1, .int 2]) nu2
      rw [eu2]
      refine fun u3 nu3 => ?_
      obtain ⟨Hu3, eu3, su3, hu3⟩ := fresh (.dK []) nu3
      rw [eu3]
      refine ⟨(by show 2 ≤ sizeLine; decide), fun u4 nu4 => ?_⟩
      obtain ⟨Hu4, eu4, su4, hu4⟩ := fresh (.lst [V.bl true, .int 0]) nu4
      rw [eu4]
      refine ⟨(by show 1 ≤ sizeLine; decide), fun u5 nu5 => ?_⟩
      obtain ⟨Hu5, eu5, su5, hu5⟩ := fresh (.lst [V.non]) nu5
      rw [eu5]
      refine ⟨(by show 2 ≤ sizeLine; decide), fun u6 nu6 => ?_⟩
      obtain ⟨Hu6, eu6, su6, hu6⟩ := fresh (.lst [V.int 0, .int 8]) nu6
      rw [eu6]
      refine ⟨_, rfl, (by show 1 ≤ sizeLine; decide), fun u7 nu7 => ?_⟩
      obtain ⟨Hu7, eu7, su7, hu7⟩ := fresh (.lst [V.int (-9)]) nu7
      rw [eu7]
      refine ⟨(by show 10 ≤ sizeLine; decide), fun u8 nu8 => ?_⟩
      obtain ⟨Hu8, eu8, su8, hu8⟩ := fresh (.lst [V.non, .int 3, .ref u1, .ref u2, .ref u3, .str (("12" : String) : Str), .ref u4, .ref u5, .ref u6, .ref u7]) nu8
      rw [eu8]
      have f3 : ∀ x ∈ [V.non, .int 3, .ref u1, .ref u2, .ref u3, .str (("12" : String) : Str), .ref u4, .ref u5, .ref u6, .ref u7], (BadS K Hu8 4 x) ∧ ∃ t, ShwX K Hu8 x t ∧ PyData.strOk t = true := by
        intro x hx
        simp only [List.mem_cons, List.not_mem_nil, or_false] at hx
        rcases hx with rfl | rfl | rfl | rfl | rfl | rfl | rfl | rfl | rfl | rfl
        · exact ⟨.inl ⟨_, .base .non, by decide +kernel⟩, shx_ok .non (by decide +kernel)⟩
        · exact ⟨.inl ⟨_, .base (.int _), by decide +kernel⟩, shx_ok (.int _) (by decide +kernel)⟩
        · exact ⟨.inl ⟨_, .base (.tup (su8 _ _ (su7 _ _ (su6 _ _ (su5 _ _ (su4 _ _ (su3 _ _ (su2 _ _ hu1)))))))), by decide +kernel⟩, shx_ok (.tup (.inl (.inl (su8 _ _ (su7 _ _ (su6 _ _ (su5 _ _ (su4 _ _ (su3 _ _ (su2 _ _ hu1))))))))) .nil) (by decide +kernel)⟩
        · exact ⟨.inl ⟨_, .base (.tup (su8 _ _ (su7 _ _ (su6 _ _ (su5 _ _ (su4 _ _ (su3 _ _ hu2))))))), by decide +kernel⟩, shx_ok (.tup (.inl (.inl (su8 _ _ (su7 _ _ (su6 _ _ (su5 _ _ (su4 _ _ (su3 _ _ hu2)))))))) (.cons (.int _) (.cons (.int _) .nil))) (by decide +kernel)⟩
        · exact ⟨.inl ⟨_, .base (.dK (su8 _ _ (su7 _ _ (su6 _ _ (su5 _ _ (su4 _ _ hu3)))))), by decide +kernel⟩, shx_dict (su8 _ _ (su7 _ _ (su6 _ _ (su5 _ _ (su4 _ _ hu3)))))⟩
        · exact ⟨.inl ⟨_, .base (.str _), by decide +kernel⟩, shx_ok (.str _) (by decide +kernel)⟩
        · exact ⟨.inr ⟨u4, _, rfl, (su8 _ _ (su7 _ _ (su6 _ _ (su5 _ _ hu4)))), by decide, (items2 (item_bl _) (.inl ⟨_, rfl⟩)), rfl⟩, shx_ok (.lst (.inl (.inl (su8 _ _ (su7 _ _ (su6 _ _ (su5 _ _ hu4)))))) (.cons (.bl _) (.cons (.int _) .nil))) (by decide +kernel)⟩
        · exact ⟨.inr ⟨u5, _, rfl, (su8 _ _ (su7 _ _ (su6 _ _ hu5))), by decide, (items1 (item_non)), rfl⟩, shx_ok (.lst (.inl (.inl (su8 _ _ (su7 _ _ (su6 _ _ hu5))))) (.cons .non .nil)) (by decide +kernel)⟩
        · exact ⟨.inr ⟨u6, _, rfl, (su8 _ _ (su7 _ _ hu6)), by decide, (simple_ints ([0, 8] : List Int)), rfl⟩, shx_ok (dp_row (ns := ([0, 8] : List Int)) (.inl (.inl (su8 _ _ (su7 _ _ hu6))))) (by decide +kernel)⟩
        · exact ⟨.inr ⟨u7, _, rfl, (su8 _ _ hu7), by decide, (simple_ints ([-9] : List Int)), rfl⟩, shx_ok (dp_row (ns := ([-9] : List Int)) (.inl (.inl (su8 _ _ hu7)))) (by decide +kernel)⟩
      have s3 := (((((((su1.trans su2).trans su3).trans su4).trans su5).trans su6).trans su7).trans su8)
      refine ⟨u8, rfl, ⟨_, .inl (.inl hu8)⟩, for_list (K := K) (a := u8) (fun i σ HP => ∃ v1 v2 : Option V, σ = [some (.ref gx), v1, v2] ∧ Same Hu8 HP) ⟨v1, v2, rfl, Same.refl _⟩ (fun i σ HP _ ⟨_, _, _, s⟩ => .inl (.inl (s _ _ hu8))) ?_ ?_⟩
      · rintro i x σ HP hx ⟨v1, v2, rfl, sP⟩
        obtain ⟨hR, t, hS, hok⟩ := f3 x (List.mem_of_getElem? hx)
        refine ⟨(by show 3 ≤ sizeLine; decide), fun w1 nw1 => ?_⟩
        obtain ⟨Hw1, ew1, sw1, hw1⟩ := fresh (.lst [V.int 2, .int 3, .int 11]) nw1
        rw [ew1]
        have g3 : ∀ e ∈ [V.int 2, .int 3, .int 11], ∃ k : Nat, e = .int k ∧ (k = 2 ∨ k = 3 ∨ k = 11) := by
          intro e he
          simp only [List.mem_cons, List.not_mem_nil, or_false] at he
          rcases he with rfl | rfl | rfl
          · exact ⟨2, rfl, by decide⟩
          · exact ⟨3, rfl, by decide⟩
          · exact ⟨11, rfl, by decide⟩
        refine ⟨w1, rfl, ⟨_, .inl (.inl hw1)⟩, for_list (K := K) (a := w1) (fun i σ HQ => ∃ v2 : Option V, σ = [some (.ref gx), some x, v2] ∧ Same Hw1 HQ) ⟨v2, rfl, Same.refl _⟩ (fun i σ HQ _ ⟨_, _, s⟩ => .inl (.inl (s _ _ hw1))) ?_ ?_⟩
        · rintro j e σ HQ he ⟨v2, rfl, sQ⟩
          obtain ⟨k, rfl, hk⟩ := g3 e (List.mem_of_getElem? he)
          have sWF := (sP).trans ((sw1).trans sQ)
          refine ⟨_, rfl, _, rfl, _, rfl, k, .ref gx, .int 4, x, .non, 5, x, t, rfl, refuse_row hk (hG.same (((((s1.trans sE).trans s2).trans sM).trans s3).trans sWF)) (hR.same sWF), hS.same sWF, fun HFX pF sXF npF hpF => ?_⟩
          have sYF := sWF.trans sXF
          refine ⟨_, rfl, (hS.same sYF).repr ⟨(by show 2 ≤ sizeLine; decide), fun MF nMF => ?_⟩⟩
          obtain ⟨HFZ, eZF, sZF, hMF⟩ := fresh (.lst [.int 5, .str t]) nMF
          rw [eZF]
          refine ⟨_, _, .lst (.inl (.inl (sZF _ _ hpF))) (.cons (.int _) (.cons (.str _) .nil)), .lst (.inl (.inl hMF)) (.cons (.int _) (.cons (.str _) .nil)), kind_shaped hok, kind_shaped hok, _, rfl, ?_⟩
          have sTF := sYF.trans sZF
          have sUF := sXF.trans sZF
          exact iteFx (kind_eqv _ t) ⟨_, rfl, sQ.trans sUF⟩
        · rintro σ HQ ⟨v2, rfl, sQ⟩
          exact ⟨_, _, rfl, sP.trans ((sw1).trans sQ)⟩
      · rintro σ HP ⟨v1, v2, rfl, sP⟩
        exact q _ (((((s1.trans sE).trans s2).trans sM).trans s3).trans sP)
end
end My

namespace My
open PySem PySem.Spec PyProof.Rows L2 Pre
/-! ### the law of guessers refused -/
/-- unlike [1]: refused as a row of any length -/
def NeO (K : PySem.W.Frag) (H : Hp) (x : V) : Prop := ∃ c : Bool, (c = true → BadB K H 0 x) ∧ ∀ H' b Q, Same H H' → H' b = some (.lst [V.int 1]) → Q (.bl c) H' → rNeX K x (.ref b) H' Q
theorem neO_data {K : PySem.W.Frag} {H : Hp} {x : V} {d : PyData} (hd : Dp K H x d) (hs : SeqAt.shaped d = true) (h : (!PyData.eqv d (.list [.int 1])) = true → BadB K H 0 x) : NeO K H x :=
  ⟨_, h, fun H' b Q s hb q => .inl ⟨d, .list [.int 1], Pre.dp_same s _ _ hd, .lst (.inl (.inl hb)) (.cons (.int _) .nil), hs, by decide +kernel, q⟩⟩
theorem neO_dict {K : PySem.W.Frag} {H : Hp} {a : Addr} (ha : H a = some (.dK [])) (hB : BadB K H 0 (.ref a)) : NeO K H (.ref a) :=
  ⟨true, fun _ => hB, fun H' b Q s hb q => .inr ⟨a, b, _, rfl, rfl, s _ _ ha, .inl (.inl hb), q⟩⟩
theorem refuse_any {K : PySem.W.Frag} {C : Addr} {H : Hp} {k : Nat} {o t r f : V} (e : k = 4 ∨ k = 10) (hG : IsG C H o) (h : BadB K H 0 t) : Refuse K C H k o t r f 5 t := by
  rcases e with rfl | rfl
  · exact .inr (.inr (.inr (.inr (.inl ⟨rfl, .inr ⟨hG, h, rfl, rfl⟩⟩))))
  · exact .inr (.inr (.inr (.inr (.inr (.inr (.inr (.inr (.inr (.inr (.inl ⟨rfl, .inr ⟨hG, h, rfl, rfl⟩⟩))))))))))
local macro_rules | `(tactic| walk_at "go") => `(tactic| repeat (first | (with_reducible first | refine iteT ?_ | refine iteF ?_ | refine iteNtt ?_ | refine iteNff ?_ | refine iteET (by omega) ?_ | refine iteEF (by omega) ?_ | refine iteENT (by omega) ?_ | refine iteENF (by omega) ?_ | refine iteDT (by omega) ?_ | refine iteDF (by omega) ?_ | refine iteNT (by omega) ?_ | refine iteNF (by omega) ?_) | refine ⟨_, rfl, ?_⟩ | refine ⟨_, _, rfl, rfl, ?_⟩ | refine ⟨_, _, rfl, ?_⟩ | refine ⟨rfl, ?_⟩ | refine .inl ⟨_, rfl, ?_⟩ | refine .inr ⟨_, rfl, ?_⟩))
local macro_rules | `(tactic| walk_at "b") => `(tactic| try dsimp (config := { proj := false, iota := false, eta := false, zeta := false }) only)
section
variable {P : Program} {w : World} {K : PySem.W.Frag} {mg : Str → Option Value} {base : Heap} [pf : Sup.PF P fileS]
def sp_law (K : PySem.W.Frag) : Sp := fun vs H Q _ => ∃ (a : Addr) (ns : List Int), vs = [.ref a] ∧ SqL K H a (ns.map V.int) ∧ ns.length ≤ 63 ∧ ∀ H', Q (.bl true) H'
theorem G_law (T : Top K mg) : FnG P w K mg base CX0 16 T.f_law T.fd_law ["_law_script"] (sp_law K) := by
  refine FnG.body T.F_law sc_law (fun vs H Q E h => by obtain ⟨a, ns, rfl, _⟩ := h; rfl) (fun cdv A outer s H vs Q E gd hr h => ?_)
  obtain ⟨a, ns, rfl, hS, hz, q⟩ := h
  refine ⟨_, PSs.nox (pss_cons (ps_for PassesOwn.never rfl (pi_range1 (by rfl) T.n_range (pa_cons pe_int pa_nil)) (pg_name (i := 1) sc_law.nd rfl (by first | exact Or.inl rfl | exact Or.inr rfl))
    (pss_cons (ps_set (i := 4) sc_law.nd rfl (by first | exact Or.inl rfl | exact Or.inr rfl) (pe_call (G_law_generator (P := P) T) (hr.mono (by decide)) (by rfl) T.g_law_generator T.F_law_generator.kp T.b_law_generator .nil pass0 (pa_cons (pv 0) (pa_cons (pv 1) pa_nil))))
  (pss_cons (ps_par (by rfl) sc_law.nd (i := 5) (j := 6) rfl rfl (by decide) rfl rfl (pa_cons (pe_call (G_law_weights (P := P) T) (hr.mono (by decide)) (by rfl) T.g_law_weights T.F_law_weights.kp T.b_law_weights .nil pass0 (pa_cons (pv 4) (pa_cons (pe_call (G_law_random (P := P) T) (hr.mono (by decide)) (by rfl) T.g_law_random T.F_law_random.kp T.b_law_random .nil pass0 (pa_cons (pv 4) (pa_cons pe_int pa_nil))) pa_nil))) (pa_cons (pe_call (G_law_random (P := P) T) (hr.mono (by decide)) (by rfl) T.g_law_random T.F_law_random.kp T.b_law_random .nil pass0 (pa_cons (pv 4) (pa_cons pe_int pa_nil))) pa_nil)) (by rfl))
  (pss_one (ps_if (PW.pt (pw_or (pt_not (pt_val (pe_call (G_law_hangs_right (P := P) T) (hr.mono (by decide)) (by rfl) T.g_law_hangs_right T.F_law_hangs_right.kp T.b_law_hangs_right .nil pass0 (pa_cons (pv 4) (pa_cons (pv 5) (pa_cons (pv 6) pa_nil)))))) (pw_or1 (pt_not (pt_val (pe_call (G_law_tells_right (P := P) T) (hr.mono (by decide)) (by rfl) T.g_law_tells_right T.F_law_tells_right.kp T.b_law_tells_right .nil pass0 (pa_cons (pv 4) (pa_cons (pv 5) (pa_cons (pv 6) pa_nil)))))))))
    (pss_one (ps_ret pe_bl))
    pss_nil)))))
  (pss_cons (ps_set (i := 2) sc_law.nd rfl (by first | exact Or.inl rfl | exact Or.inr rfl) (pe_make T.mk_Guesser (G_Guesser___init__ (P := P) T) (hr.mono (by decide)) (by rfl) T.gc_Guesser T.b_Guesser___init__ .nil passL (pa_cons (pe_lst (pa_cons pe_int (pa_cons pe_int pa_nil))) (pa_cons pe_int pa_nil))))
  (pss_cons (ps_for PassesOwn.never rfl (k_piL K rfl (pe_lst (pa_cons pe_non (pa_cons pe_int (pa_cons (pe_tup pa_nil) (pa_cons (pe_lst (pa_cons pe_int pa_nil)) (pa_cons (pe_lst (pa_cons pe_int (pa_cons pe_bl pa_nil))) (pa_cons (pe_lst (pa_cons pe_int (pa_cons pe_non pa_nil))) (pa_cons pe_str (pa_cons pe_dnewK pa_nil)))))))))) (pg_name (i := 3) sc_law.nd rfl (by first | exact Or.inl rfl | exact Or.inr rfl))
    (pss_cons (ps_if (pt_cmpR (k_neX K rfl hr.units) (pe_callG (G_law_caught (P := P) T) gd (hr.mono (by decide)) (by rfl) T.g_law_caught T.F_law_caught.kp T.b_law_caught .nil pass0 (pa_cons pe_int (pa_cons (pv 2) (pa_cons (pv 3) (pa_cons pe_int (pa_cons pe_int pa_nil)))))) (pe_lst (pa_cons pe_int (pa_cons (pe_callB (k_reprX K rfl gd (hu65 hr)) (by rfl) T.n_repr (by decide +kernel) (pa_cons (pv 3) pa_nil)) pa_nil))) (nomark _))
    (pss_one (ps_ret pe_bl))
    pss_nil)
  (pss_one (ps_if (PW.pt (pw_and (pt_cmpR (k_neX K rfl hr.units) (pv 3) (pe_lst (pa_cons pe_int pa_nil)) (nomark _)) (pw_and1 (pt_cmpR (k_neD K rfl hr.units) (pe_lc (own := [("_law_door", 7)]) (g := gName 7) (by rfl) sc_law.nd (k_piL K rfl (pe_lst (pa_cons pe_int (pa_cons pe_int pa_nil)))) (blkOk_by (own := [("_law_door", 7)]) (N := N_law) (sc := defScope s_law) (by decide +kernel)) (fun _ _ _ _ _ => (pg_name (i := 7) sc_law.nd rfl (by first | exact Or.inl rfl | exact Or.inr rfl))) (fun _ _ _ _ _ => (pts_one (pt_cmpR (k_neX K rfl hr.units) (pe_callG (G_law_caught (P := P) T) gd (hr.mono (by decide)) (by rfl) T.g_law_caught T.F_law_caught.kp T.b_law_caught .nil pass0 (pa_cons (pv 7) (pa_cons (pv 2) (pa_cons (pv 3) (pa_cons pe_int (pa_cons pe_int pa_nil)))))) (pe_lst (pa_cons pe_int (pa_cons (pe_callB (k_reprX K rfl gd (hu65 hr)) (by rfl) T.n_repr (by decide +kernel) (pa_cons (pv 3) pa_nil)) pa_nil))) (nomark _)))) (fun _ _ _ _ _ => (pv 7))) (pe_lst pa_nil) (nomark _)))))
    (pss_one (ps_ret pe_bl))
    pss_nil))))
  (pss_cons (ps_if (pt_cmpR (k_neD K rfl hr.units) (pe_lc (own := [("_law_bad", 3)]) (g := gName 3) (by rfl) sc_law.nd (k_piL K rfl (pe_lst (pa_cons pe_non (pa_cons pe_bl (pa_cons (pe_un un_neg pe_int) (pa_cons pe_int (pa_cons (pe_lst pa_nil) (pa_cons pe_str pa_nil)))))))) (blkOk_by (own := [("_law_bad", 3)]) (N := N_law) (sc := defScope s_law) (by decide +kernel)) (fun _ _ _ _ _ => (pg_name (i := 3) sc_law.nd rfl (by first | exact Or.inl rfl | exact Or.inr rfl))) (fun _ _ _ _ _ => (pts_one (pt_cmpR (k_neX K rfl hr.units) (pe_callG (G_law_caught (P := P) T) gd (hr.mono (by decide)) (by rfl) T.g_law_caught T.F_law_caught.kp T.b_law_caught .nil pass0 (pa_cons pe_int (pa_cons (pv 2) (pa_cons pe_int (pa_cons (pe_lst (pa_cons pe_int (pa_cons pe_int pa_nil))) (pa_cons (pv 3) pa_nil)))))) (pe_lst (pa_cons pe_int (pa_cons (pe_callB (k_reprX K rfl gd (hu65 hr)) (by rfl) T.n_repr (by decide +kernel) (pa_cons (pv 3) pa_nil)) pa_nil))) (nomark _)))) (fun _ _ _ _ _ => (pv 3))) (pe_lst pa_nil) (nomark _))
    (pss_one (ps_ret pe_bl))
    pss_nil)
  (pss_one (ps_ret (pe_and (pe_callG0 (G_law_made_right (P := P) T) gd (hr.mono (by decide)) (by rfl) T.g_law_made_right T.F_law_made_right.kp T.b_law_made_right .nil pass0) (pe_one (pe_callG (G_law_doors_right (P := P) T) gd (hr.mono (by decide)) (by rfl) T.g_law_doors_right T.F_law_doors_right.kp T.b_law_doors_right .nil pass0 (pa_cons (pv 2) pa_nil)))))))))), ?_⟩
  refine ⟨_, rfl, by decide, by decide, ?_⟩
  refine for_range (lo := 0) (n := 2) (fun i σ H1 => ∃ v1 v4 v5 v6 : Option V, σ = [some (.ref a), v1, none, none, v4, v5, v6, none] ∧ Same H H1) ⟨none, none, none, none, rfl, Same.refl _⟩ ?_ ?_
  · rintro i σ H1 hi ⟨v1, v4, v5, v6, rfl, s1⟩
    refine ⟨_, rfl, _, rfl, a, ns, i, by rw [Int.zero_add]; rfl, s1.seq hS, fun H2 g s2 ng gG => ?_⟩
    refine ⟨_, rfl, _, rfl, g, _, _, rfl, gG, by omega, by decide, by decide, fun r1 H3 r10 r11 g3 b3 => ?_⟩
    obtain ⟨m, rfl⟩ : ∃ m : Nat, r1 = (m : Int) := ⟨r1.toNat, by omega⟩
    refine ⟨g, m, _, rfl, g3, by omega, by omega, fun H4 p ws b4 np hp g4 hW hl => ?_⟩
    refine ⟨_, rfl, g, _, _, rfl, g4, by omega, by decide, by decide, fun r2 H5 r20 r21 g5 b5 => ?_⟩
    obtain ⟨sh, rfl⟩ : ∃ sh : Nat, r2 = (sh : Int) := ⟨r2.toNat, by omega⟩
    refine ⟨_, _, rfl, ?_⟩
    have wg : p ≠ g := g3.ne np
    have hp5 := b5 _ _ wg hp
    walk_at "b"
    refine ⟨_, rfl, _, rfl, _, rfl, g, p, _, ws, sh, rfl, g5, by omega, hp5, wg, hW, by omega, fun H6 b6 g6 => ⟨_, rfl, iteNtt ?_⟩⟩
    refine ⟨_, rfl, _, rfl, _, rfl, g, p, _, ws, sh, rfl, g6, by omega, b6 _ _ wg hp5, wg, hW, by omega, fun H7 b7 g7 => ⟨_, rfl, iteNtt ?_⟩⟩
    exact ⟨_, _, _, _, rfl, But.fresh (s1.trans s2) (s1.free ng) ((((b3.trans b4).trans b5).trans b6).trans b7)⟩
  · rintro σ H1 ⟨v1, v4, v5, v6, rfl, s1⟩
    refine ⟨(by show 2 ≤ sizeLine; decide), fun g1 ng1 => ?_⟩
    obtain ⟨Hg1, eg1, sg1, hg1⟩ := fresh (.lst [V.int 1, .int 1]) ng1
    rw [eg1]
    intro gx dx nx ndx nex
    have hW : Weights [1, 1] := ⟨by decide, fun x hx => by
      simp only [List.mem_cons, List.not_mem_nil, or_false] at hx
      rcases hx with rfl | rfl
      · decide
      · decide⟩
    have sx : Same Hg1 (upd (upd Hg1 dx (.own gx)) gx (.ins T.C_Guesser dx [])) := fun b o e => by
      rw [upd_ne (ne_of_none e nx), upd_ne (ne_of_none e ndx)]
      exact e
    refine ⟨gx, dx, _, _, rfl, upd_same, .inl ⟨g1, [1, 1], 0, rfl, rfl, sx _ _ hg1, hW, by decide, fun H2 kp hG _ => ⟨rfl, ?_⟩⟩⟩
    clear sx kp nx ndx nex
    refine ⟨(by show 0 ≤ sizeLine; decide), fun a1 na1 => ?_⟩
    obtain ⟨Ha1, ea1, sa1, ha1⟩ := fresh (.tup ([] : List V)) na1
    rw [ea1]
    refine ⟨(by show 1 ≤ sizeLine; decide), fun a2 na2 => ?_⟩
    obtain ⟨Ha2, ea2, sa2, ha2⟩ := fresh (.lst [V.int 1]) na2
    rw [ea2]
    refine ⟨(by show 2 ≤ sizeLine; decide), fun a3 na3 => ?_⟩
    obtain ⟨Ha3, ea3, sa3, ha3⟩ := fresh (.lst [V.int 1, .bl true]) na3
    rw [ea3]
    refine ⟨(by show 2 ≤ sizeLine; decide), fun a4 na4 => ?_⟩
    obtain ⟨Ha4, ea4, sa4, ha4⟩ := fresh (.lst [V.int 1, .non]) na4
    rw [ea4]
    refine fun a5 na5 => ?_
    obtain ⟨Ha5, ea5, sa5, ha5⟩ := fresh (.dK []) na5
    rw [ea5]
    refine ⟨(by show 8 ≤ sizeLine; decide), fun a6 na6 => ?_⟩
    obtain ⟨Ha6, ea6, sa6, ha6⟩ := fresh (.lst [V.non, .int 3, .ref a1, .ref a2, .ref a3, .ref a4, .str (("12" : String) : Str), .ref a5]) na6
    rw [ea6]
    have f1 : ∀ x ∈ [V.non, .int 3, .ref a1, .ref a2, .ref a3, .ref a4, .str (("12" : String) : Str), .ref a5], (BadB K Ha6 2 x ∧ NeO K Ha6 x) ∧ ∃ t, ShwX K Ha6 x t ∧ PyData.strOk t = true := by
      intro x hx
      simp only [List.mem_cons, List.not_mem_nil, or_false] at hx
      rcases hx with rfl | rfl | rfl | rfl | rfl | rfl | rfl | rfl
      · exact ⟨⟨.inl ⟨_, .base .non, by decide +kernel⟩, neO_data .non (by decide +kernel) fun _ => .inl ⟨_, .base .non, by decide +kernel⟩⟩, shx_ok .non (by decide +kernel)⟩
      · exact ⟨⟨.inl ⟨_, .base (.int _), by decide +kernel⟩, neO_data (.int _) (by decide +kernel) fun _ => .inl ⟨_, .base (.int _), by decide +kernel⟩⟩, shx_ok (.int _) (by decide +kernel)⟩
      · exact ⟨⟨.inl ⟨_, .base (.tup (sa6 _ _ (sa5 _ _ (sa4 _ _ (sa3 _ _ (sa2 _ _ ha1)))))), by decide +kernel⟩, neO_data (.tup (.inl (.inl (sa6 _ _ (sa5 _ _ (sa4 _ _ (sa3 _ _ (sa2 _ _ ha1))))))) .nil) (by decide +kernel) fun _ => .inl ⟨_, .base (.tup (sa6 _ _ (sa5 _ _ (sa4 _ _ (sa3 _ _ (sa2 _ _ ha1)))))), by decide +kernel⟩⟩, shx_ok (.tup (.inl (.inl (sa6 _ _ (sa5 _ _ (sa4 _ _ (sa3 _ _ (sa2 _ _ ha1))))))) .nil) (by decide +kernel)⟩
      · exact ⟨⟨.inr ⟨a2, _, rfl, (sa6 _ _ (sa5 _ _ (sa4 _ _ (sa3 _ _ ha2)))), by decide, (simple_ints ([1] : List Int)), .inr ⟨([1] : List Int), rfl, by decide⟩⟩, neO_data (dp_row (ns := ([1] : List Int)) (.inl (.inl (sa6 _ _ (sa5 _ _ (sa4 _ _ (sa3 _ _ ha2))))))) (by decide +kernel) fun z => absurd z (by decide +kernel)⟩, shx_ok (dp_row (ns := ([1] : List Int)) (.inl (.inl (sa6 _ _ (sa5 _ _ (sa4 _ _ (sa3 _ _ ha2))))))) (by decide +kernel)⟩
      · exact ⟨⟨.inr ⟨a3, _, rfl, (sa6 _ _ (sa5 _ _ (sa4 _ _ ha3))), by decide, (items2 (.inl ⟨_, rfl⟩) (item_bl _)), .inl rfl⟩, neO_data (.lst (.inl (.inl (sa6 _ _ (sa5 _ _ (sa4 _ _ ha3))))) (.cons (.int _) (.cons (.bl _) .nil))) (by decide +kernel) fun _ => .inr ⟨a3, _, rfl, (sa6 _ _ (sa5 _ _ (sa4 _ _ ha3))), by decide, (items2 (.inl ⟨_, rfl⟩) (item_bl _)), .inl rfl⟩⟩, shx_ok (.lst (.inl (.inl (sa6 _ _ (sa5 _ _ (sa4 _ _ ha3))))) (.cons (.int _) (.cons (.bl _) .nil))) (by decide +kernel)⟩
      · exact ⟨⟨.inr ⟨a4, _, rfl, (sa6 _ _ (sa5 _ _ ha4)), by decide, (items2 (.inl ⟨_, rfl⟩) (item_non)), .inl rfl⟩, neO_data (.lst (.inl (.inl (sa6 _ _ (sa5 _ _ ha4)))) (.cons (.int _) (.cons .non .nil))) (by decide +kernel) fun _ => .inr ⟨a4, _, rfl, (sa6 _ _ (sa5 _ _ ha4)), by decide, (items2 (.inl ⟨_, rfl⟩) (item_non)), .inl rfl⟩⟩, shx_ok (.lst (.inl (.inl (sa6 _ _ (sa5 _ _ ha4)))) (.cons (.int _) (.cons .non .nil))) (by decide +kernel)⟩
      · exact ⟨⟨.inl ⟨_, .base (.str _), by decide +kernel⟩, neO_data (.str _) (by decide +kernel) fun _ => .inl ⟨_, .base (.str _), by decide +kernel⟩⟩, shx_ok (.str _) (by decide +kernel)⟩
      · exact ⟨⟨.inl ⟨_, .base (.dK (sa6 _ _ ha5)), by decide +kernel⟩, neO_dict (sa6 _ _ ha5) (.inl ⟨_, .base (.dK (sa6 _ _ ha5)), by decide +kernel⟩)⟩, shx_dict (sa6 _ _ ha5)⟩
    have s2 := (((((sa1.trans sa2).trans sa3).trans sa4).trans sa5).trans sa6)
    refine ⟨a6, rfl, ⟨_, .inl (.inl ha6)⟩, for_list (K := K) (a := a6) (fun i σ HE => ∃ v1 v3 v4 v5 v6 : Option V, σ = [some (.ref a), v1, some (.ref gx), v3, v4, v5, v6, none] ∧ Same Ha6 HE) ⟨v1, none, v4, v5, v6, rfl, Same.refl _⟩ (fun i σ HE _ ⟨_, _, _, _, _, _, s⟩ => .inl (.inl (s _ _ ha6))) ?_ ?_⟩
    · rintro i x σ HE hx ⟨v1, v3, v4, v5, v6, rfl, sE⟩
      obtain ⟨⟨hB, c, hc, hne⟩, t, hS, hok⟩ := f1 x (List.mem_of_getElem? hx)
      refine ⟨_, rfl, _, rfl, 1, .ref gx, x, .int 0, .int 0, 5, x, t, rfl, .inr (.inl ⟨rfl, .inr ⟨gx, [1, 1], 0, rfl, hG.same (s2.trans sE), hB.same sE, rfl, rfl⟩⟩), hS.same sE, fun HAX pA sXA npA hpA => ?_⟩
      have sYA := sE.trans sXA
      refine ⟨_, rfl, (hS.same sYA).repr ⟨(by show 2 ≤ sizeLine; decide), fun MA nMA => ?_⟩⟩
      obtain ⟨HAZ, eZA, sZA, hMA⟩ := fresh (.lst [.int 5, .str t]) nMA
      rw [eZA]
      refine .inl ⟨_, _, .lst (.inl (.inl (sZA _ _ hpA))) (.cons (.int _) (.cons (.str _) .nil)), .lst (.inl (.inl hMA)) (.cons (.int _) (.cons (.str _) .nil)), kind_shaped hok, kind_shaped hok, _, rfl, ?_⟩
      have sTA := sYA.trans sZA
      have sUA := sXA.trans sZA
      refine iteFx (kind_eqv _ t) ?_
      refine ⟨_, rfl, (by show 1 ≤ sizeLine; decide), fun b1 nb1 => ?_⟩
      obtain ⟨Hb1, eb1, sb1, hb1⟩ := fresh (.lst [V.int 1]) nb1
      rw [eb1]
      have sB := sTA.trans (sb1)
      refine hne _ b1 _ sB hb1 ⟨_, rfl, ?_⟩
      cases c with
      | false => exact iteF ⟨_, _, _, _, _, rfl, sB⟩
      | true =>
        have hB0 := hc rfl
        refine iteT ?_
        refine ⟨(by show 2 ≤ sizeLine; decide), fun c1 nc1 => ?_⟩
        obtain ⟨Hc1, ec1, sc1, hc1⟩ := fresh (.lst [V.int 4, .int 10]) nc1
        rw [ec1]
        have g1 : ∀ e ∈ [V.int 4, .int 10], ∃ k : Nat, e = .int k ∧ (k = 4 ∨ k = 10) := by
          intro e he
          simp only [List.mem_cons, List.not_mem_nil, or_false] at he
          rcases he with rfl | rfl
          · exact ⟨4, rfl, by decide⟩
          · exact ⟨10, rfl, by decide⟩
        refine ⟨c1, rfl, ⟨_, .inl (.inl hc1)⟩, fun D nD => ?_⟩
        refine lc_selL (K := K) (xs := [V.int 4, .int 10]) (List.replicate 2 none) nD (.inl (.inl hc1)) rfl (by show 2 < sizeLine; decide) (fun x => rfl) ?_ ?_
        · intro j e oo HJ he ho sJ Qt qt
          cases none_rep ho
          obtain ⟨k, rfl, hk⟩ := g1 e (List.mem_of_getElem? he)
          have sW := sB.trans ((sc1).trans sJ)
          refine ⟨_, rfl, _, rfl, _, rfl, k, .ref gx, x, .int 0, .int 0, 5, x, t, rfl, refuse_any hk (hG.same (s2.trans sW)).isG (hB0.same sW), hS.same sW, fun HBX pB sXB npB hpB => ?_⟩
          have sYB := sW.trans sXB
          refine ⟨_, rfl, (hS.same sYB).repr ⟨(by show 2 ≤ sizeLine; decide), fun MB nMB => ?_⟩⟩
          obtain ⟨HBZ, eZB, sZB, hMB⟩ := fresh (.lst [.int 5, .str t]) nMB
          rw [eZB]
          refine .inl ⟨_, _, .lst (.inl (.inl (sZB _ _ hpB))) (.cons (.int _) (.cons (.str _) .nil)), .lst (.inl (.inl hMB)) (.cons (.int _) (.cons (.str _) .nil)), kind_shaped hok, kind_shaped hok, _, rfl, ?_⟩
          have sTB := sYB.trans sZB
          have sUB := sXB.trans sZB
          exact iteFx (kind_eqv _ t) (qt _ sUB)
        · intro HK sK hD
          refine ⟨Nat.zero_le _, fun em nem => ?_⟩
          obtain ⟨HL, eL, sL, hem⟩ := fresh (.lst ([] : List V)) nem
          rw [eL]
          refine ne_lst (ns := []) (.inl (.inl (sL _ _ hD))) (.inl (.inl hem)) ⟨_, rfl, iteF ?_⟩
          exact ⟨_, _, _, _, _, rfl, sB.trans ((sc1).trans (sK.trans sL))⟩
    · rintro σ HE ⟨v1, v3, v4, v5, v6, rfl, sE⟩
      refine ⟨_, rfl, (by show 0 ≤ sizeLine; decide), fun d1 nd1 => ?_⟩
      obtain ⟨Hd1, ed1, sd1, hd1⟩ := fresh (.lst ([] : List V)) nd1
      rw [ed1]
      refine ⟨(by show 6 ≤ sizeLine; decide), fun d2 nd2 => ?_⟩
      obtain ⟨Hd2, ed2, sd2, hd2⟩ := fresh (.lst [V.non, .bl true, .int (-1), .int 2, .ref d1, .str (("0" : String) : Str)]) nd2
      rw [ed2]
      have f2 : ∀ x ∈ [V.non, .bl true, .int (-1), .int 2, .ref d1, .str (("0" : String) : Str)], (NumV K Hd2 x 0 (some (((([1, 2] : List Int).length : Nat) : Int) - 1)) false) ∧ ∃ t, ShwX K Hd2 x t ∧ PyData.strOk t = true := by
        intro x hx
        simp only [List.mem_cons, List.not_mem_nil, or_false] at hx
        rcases hx with rfl | rfl | rfl | rfl | rfl | rfl
        · exact ⟨.inr ⟨.inr ⟨_, .base .non, by decide +kernel⟩, rfl⟩, shx_ok .non (by decide +kernel)⟩
        · exact ⟨.inr ⟨.inl ⟨_, rfl⟩, rfl⟩, shx_ok (.bl _) (by decide +kernel)⟩
        · exact ⟨.inl ⟨-1, rfl, (decide_eq_false fun z => absurd z.1 (by decide)).symm⟩, shx_ok (.int _) (by decide +kernel)⟩
        · exact ⟨.inl ⟨2, rfl, (decide_eq_false fun z => absurd (z.2 _ rfl) (by decide)).symm⟩, shx_ok (.int _) (by decide +kernel)⟩
        · exact ⟨.inr ⟨.inr ⟨_, .base (.lst (sd2 _ _ hd1)), by decide +kernel⟩, rfl⟩, shx_ok (dp_row (ns := ([] : List Int)) (.inl (.inl (sd2 _ _ hd1)))) (by decide +kernel)⟩
        · exact ⟨.inr ⟨.inr ⟨_, .base (.str _), by decide +kernel⟩, rfl⟩, shx_ok (.str _) (by decide +kernel)⟩
      have s3 := (s2.trans sE).trans (sd1.trans sd2)
      refine ⟨d2, rfl, ⟨_, .inl (.inl hd2)⟩, fun D nD => ?_⟩
      refine lc_selL (K := K) (xs := [V.non, .bl true, .int (-1), .int 2, .ref d1, .str (("0" : String) : Str)]) (List.replicate 6 none) nD (.inl (.inl hd2)) rfl (by show 6 < sizeLine; decide) (fun x => rfl) ?_ ?_
      · intro j x oo HJ hx ho sJ Qt qt
        cases none_rep ho
        obtain ⟨hR, t, hS, hok⟩ := f2 x (List.mem_of_getElem? hx)
        refine ⟨_, rfl, (by show 2 ≤ sizeLine; decide), fun e1 ne1 => ?_⟩
        obtain ⟨He1, ee1, se1, he1⟩ := fresh (.lst [V.int 1, .int 2]) ne1
        rw [ee1]
        have sW := sJ.trans (se1)
        refine ⟨_, rfl, 11, .ref gx, .int 4, .ref e1, x, 2, x, t, rfl, .inr (.inr (.inr (.inr (.inr (.inr (.inr (.inr (.inr (.inr (.inr (.inl ⟨rfl, .inr ⟨gx, e1, [1, 1], 0, 4, [1, 2], rfl, rfl, rfl, hG.same (s3.trans sW), he1, by decide, by decide, (by unfold Smp; decide), by decide, hR.same sW, rfl, rfl⟩⟩))))))))))), hS.same sW, fun HCX pC sXC npC hpC => ?_⟩
        have sYC := sW.trans sXC
        refine ⟨_, rfl, (hS.same sYC).repr ⟨(by show 2 ≤ sizeLine; decide), fun MC nMC => ?_⟩⟩
        obtain ⟨HCZ, eZC, sZC, hMC⟩ := fresh (.lst [.int 2, .str t]) nMC
        rw [eZC]
        refine .inl ⟨_, _, .lst (.inl (.inl (sZC _ _ hpC))) (.cons (.int _) (.cons (.str _) .nil)), .lst (.inl (.inl hMC)) (.cons (.int _) (.cons (.str _) .nil)), kind_shaped hok, kind_shaped hok, _, rfl, ?_⟩
        have sTC := sYC.trans sZC
        have sUC := sXC.trans sZC
        exact iteFx (kind_eqv _ t) (qt _ ((se1).trans sUC))
      · intro HK sK hD
        refine ⟨Nat.zero_le _, fun em nem => ?_⟩
        obtain ⟨HL, eL, sL, hem⟩ := fresh (.lst ([] : List V)) nem
        rw [eL]
        refine ne_lst (ns := []) (.inl (.inl (sL _ _ hD))) (.inl (.inl hem)) ⟨_, rfl, iteF ?_⟩
        have s4 := s3.trans (sK.trans sL)
        refine ⟨rfl, fun HM sM => ⟨_, rfl, iteT ?_⟩⟩
        exact ⟨_, rfl, gx, rfl, (hG.same (s4.trans sM)).isG, fun HN sN => q _⟩
end
end My

open PySem PySem.W PySem.Calls PyProof.Rows
set_option maxRecDepth 100000 in
set_option maxHeartbeats 0 in
theorem PySem.Challenge.cw_wholesound_k14_guessers_refused_and_what_holds : PySem.Challenge.rw_wholesound_k14_guessers_refused_and_what.Holds := by
  w_on; o_law
  refine HandSHeadRun.head_any (r := OpenLaw.row PySem.Challenge.rw_wholesound_k14_guessers_refused_and_what) (q := view (OpenLaw.row PySem.Challenge.rw_wholesound_k14_guessers_refused_and_what).prog [64]) (H := My.hk) (ob := My.ob) (M := 8000) (loose := My.loose) (d := HandSHeadRun.topDef (OpenLaw.row PySem.Challenge.rw_wholesound_k14_guessers_refused_and_what).prog 64) (kwd := []) My.ob_eq
    (by kernel_rfl) (fun s => by kernel_rfl) My.run (by kernel_rfl) (by kernel_rfl) (by kernel_rfl) (by rfl) (by first | assumption | decide +kernel) (by decide +kernel) ⟨rfl, rfl, rfl, rfl, rfl, by decide +kernel⟩ ?hw ?hc
  case hw => w_witness2
  case hc =>
    refine My.end_g (l := PySem.Challenge.rw_wholesound_k14_guessers_refused_and_what) (n := 63) (k := 16) (x := "_law_script") rfl (by decide) (by kernel_rfl) ⟨rfl, by decide, by decide⟩ ?F
    intro w mg fa h Y G hmg0
    obtain ⟨K, KX, c⟩ := Y
    have hmg : mg ("law" : PySem.Str) = some (.ref fa) := by
      have e : (HandSHeadRun.topDef (OpenLaw.row PySem.Challenge.rw_wholesound_k14_guessers_refused_and_what).prog 64).name = ("law" : PySem.Str) := by kernel_rfl
      rw [← e]
      exact hmg0
    have T : My.Top K mg := My.top_mk KX G c
    have e := hmg.symm.trans T.g_law
    cases e
    have b := L2.FunD.bindsA (ps := ["_law_script"]) T.F_law fun _ _ _ _ _ _ us hl => match us, hl with | [_], _ => rfl
    exact ⟨K, T.fd_law, My.sp_law K, KX, fun s v => b s [v] rfl, fun H a ns hl hS => ⟨a, ns, rfl, hS, hl, fun _ => rfl⟩, fun base _ _ => My.G_law (pf := ⟨by kernel_rfl, by kernel_rfl⟩) T⟩


