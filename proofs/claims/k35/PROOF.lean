import PyProof.Rows.All
import Wide.All
import OpenK.AllK
import Wide.FinOn
import KE.KStateDown
import Lean
import HandS.ForMost
import HandS.Exc
import HandS.Flow
import HandS.DictComp
import HandS.Style
import HandS.Wide
import HandS.WideBits
import HandS.IsInst
import HandS.Codes
import HandS.Walk
import HandS.Words
import HandS.WordsExc
import HandS.Defaults
import HandS.Head0
import HandS.Head1
import HandS.Head2
import HandS.HeadEnd
import HandS.HeadHook1
import HandS.HeadHook2
import HandS.SortInts
import PyProof.Rows.SortShellAny
import PyProof.InstNe
import KE.DataMinMax
import KE.SortData
import KE.IntBitsLaws
import KE.BitLaws
import HandS.Deep
import HandS.SetKeys
import PyProof.Rows.StrMul
import HandS.TupLe
import HandS.Property
import HandS.Conv
import HandS.NoneIn
import HandS.SetFor
import HandS.Strs
import HandS.Sort
import KE.GoesZip
import KE.GoesMore
import HandS.Zip
import PyProof.CallType
import PyProof.ZipIter
import PyProof.TupleIter
import PyProof.Rows.CallKwBuiltin
import HandS.Star
import PyProof.LongRange
import PySem.Challenge.RW_wholesound_k35_whole_enough_for_all_samp
set_option Elab.async false
set_option linter.all false
set_option maxRecDepth 100000
set_option maxHeartbeats 4000000
set_option exponentiation.threshold 100000
namespace Pre
open PySem PySem.Spec PyProof.Rows L2
/-! ### heaps -/
theorem same_upd {H : Hp} {p : Addr} {o : HO} (h : H p = none) : Same H (upd H p o) := fun b x e => by
  rw [upd_ne (ne_of_none e h)]
  exact e
/-- a fresh thing that is then changed is no change of what was -/
theorem same_over {H H' : Hp} {p : Addr} {o : HO} (n : H p = none) (s : Same H H') : Same H (upd H' p o) := fun b x e => by
  rw [upd_ne (ne_of_none e n)]
  exact s b x e
theorem Same.tup {K : PySem.W.Frag} {H H' : Hp} {a : Addr} {xs : List V} (e : Same H H') (h : SqT K H a xs) : SqT K H' a xs := by
  rcases h with (h | ⟨o, h⟩) | h
  · exact .inl (.inl (e _ _ h))
  · exact .inl (.inr ⟨o, e _ _ h⟩)
  · exact .inr h
mutual
theorem dp_same {K : PySem.W.Frag} {H H' : Hp} (s : Same H H') : ∀ (d : PyData) (v : V), Dp K H v d → Dp K H' v d
  | .none, _, h => by cases h; exact .non
  | .bool _, _, h => by cases h; exact .bl _
  | .int _, _, h => by cases h; exact .int _
  | .str _, _, h => by cases h; exact .str _
  | .list ds, _, h => by cases h with | lst a b => exact .lst (s.seq a) (dps_same s ds _ b)
  | .tuple ds, _, h => by cases h with | tup a b => exact .tup (Same.tup s a) (dps_same s ds _ b)
  | .dict _, _, h => nomatch h
theorem dps_same {K : PySem.W.Frag} {H H' : Hp} (s : Same H H') : ∀ (ds : List PyData) (vs : List V), DpAll K H vs ds → DpAll K H' vs ds
  | [], _, h => by cases h; exact .nil
  | d :: ds, _, h => by cases h with | cons a b => exact .cons (dp_same s d _ a) (dps_same s ds _ b)
end
theorem dp_ints {K : PySem.W.Frag} {H : Hp} : ∀ ns : List Int, DpAll K H (ns.map V.int) (ns.map PyData.int)
  | [] => .nil
  | n :: r => .cons (.int n) (dp_ints r)
theorem eqv_ints : ∀ ns ms : List Int, PyData.eqvAll (ns.map PyData.int) (ms.map PyData.int) = decide (ns = ms)
  | [], [] => rfl
  | [], _ :: _ => rfl
  | _ :: _, [] => rfl
  | n :: r, m :: q => by
    show (PyData.eqv (.int n) (.int m) && PyData.eqvAll (r.map PyData.int) (q.map PyData.int)) = decide (n :: r = m :: q)
    rw [eqv_ints r q]
    show ((n == m) && decide (r = q)) = decide (n :: r = m :: q)
    by_cases h : n = m
    · subst h; simp
    · simp [h]
theorem lay_ints : ∀ ns : List Int, PyData.canLayAll0 (ns.map PyData.int) = true
  | [] => rfl
  | n :: r => by
    show (PyData.canLay0 (.int n) && PyData.canLayAll0 (r.map PyData.int)) = true
    rw [lay_ints r]
    rfl
theorem depth_ints : ∀ ns : List Int, PyData.depthAll (ns.map PyData.int) = 0
  | [] => by simp [PyData.depthAll]
  | n :: r => by
    show PyData.depthAll (.int n :: r.map PyData.int) = 0
    rw [PyData.depthAll, depth_ints r]
    simp [PyData.depth]
theorem shaped_ints (ns : List Int) : SeqAt.shaped (.list (ns.map PyData.int)) = true := by
  unfold SeqAt.shaped
  rw [PyData.canLay0, lay_ints, PyData.depth, depth_ints]
  rfl
theorem shaped_tup (ns : List Int) : SeqAt.shaped (.tuple (ns.map PyData.int)) = true := by
  unfold SeqAt.shaped
  rw [PyData.canLay0, lay_ints, PyData.depth, depth_ints]
  rfl
/-! ### comparisons of lists and tuples of whole numbers that are told alike -/
theorem ne_tup {K : PySem.W.Frag} {H : Hp} {a b : Addr} {ns : List Int} {Q : V → Hp → Prop} (ha : SqT K H a (ns.map V.int)) (hb : SqT K H b (ns.map V.int)) (q : Q (.bl false) H) : rNeD K (.ref a) (.ref b) H Q := by
  refine ⟨.tuple (ns.map PyData.int), .tuple (ns.map PyData.int), .tup ha (dp_ints ns), .tup hb (dp_ints ns), shaped_tup ns, shaped_tup ns, ?_⟩
  rw [PyData.eqv, eqv_ints, decide_eq_true rfl]
  exact q
theorem eq_tup {K : PySem.W.Frag} {H : Hp} {a b : Addr} {ns : List Int} {Q : V → Hp → Prop} (ha : SqT K H a (ns.map V.int)) (hb : SqT K H b (ns.map V.int)) (q : Q (.bl true) H) : rEqD K (.ref a) (.ref b) H Q := by
  refine ⟨.tuple (ns.map PyData.int), .tuple (ns.map PyData.int), .tup ha (dp_ints ns), .tup hb (dp_ints ns), shaped_tup ns, shaped_tup ns, ?_⟩
  rw [PyData.eqv, eqv_ints, decide_eq_true rfl]
  exact q
/-- lists of whole numbers, compared -/
theorem eqD_lst {K : PySem.W.Frag} {H : Hp} {a b : Addr} {ns ms : List Int} {Q : V → Hp → Prop} (ha : SqL K H a (ns.map V.int)) (hb : SqL K H b (ms.map V.int)) (q : Q (.bl (decide (ns = ms))) H) : rEqD K (.ref a) (.ref b) H Q := by
  refine ⟨.list (ns.map PyData.int), .list (ms.map PyData.int), .lst ha (dp_ints ns), .lst hb (dp_ints ms), shaped_ints ns, shaped_ints ms, ?_⟩
  rw [PyData.eqv, eqv_ints]
  exact q
theorem neD_lst {K : PySem.W.Frag} {H : Hp} {a b : Addr} {ns ms : List Int} {Q : V → Hp → Prop} (ha : SqL K H a (ns.map V.int)) (hb : SqL K H b (ms.map V.int)) (q : Q (.bl (!decide (ns = ms))) H) : rNeD K (.ref a) (.ref b) H Q := by
  refine ⟨.list (ns.map PyData.int), .list (ms.map PyData.int), .lst ha (dp_ints ns), .lst hb (dp_ints ms), shaped_ints ns, shaped_ints ms, ?_⟩
  rw [PyData.eqv, eqv_ints]
  exact q
theorem ne_lst {K : PySem.W.Frag} {H : Hp} {a b : Addr} {ns : List Int} {Q : V → Hp → Prop} (ha : SqL K H a (ns.map V.int)) (hb : SqL K H b (ns.map V.int)) (q : Q (.bl false) H) : rNeD K (.ref a) (.ref b) H Q :=
  neD_lst ha hb (by rw [decide_eq_true rfl]; exact q)
theorem eq_lst {K : PySem.W.Frag} {H : Hp} {a b : Addr} {ns : List Int} {Q : V → Hp → Prop} (ha : SqL K H a (ns.map V.int)) (hb : SqL K H b (ns.map V.int)) (q : Q (.bl true) H) : rEqD K (.ref a) (.ref b) H Q :=
  eqD_lst ha hb (by rw [decide_eq_true rfl]; exact q)
/-! ### powers -/
def CPowW (i j : Int) : Prop := 0 ≤ j ∧ (Builtin.Int.intBits i : Int) * j ≤ 2 ^ 27
theorem op_powW {X : Cx} : OpR X (binaryOp .Pow) (rI CPowW fun i j => .int (i ^ j.toNat)) := opI fun _ _ _ _ _ _ _ hc q => pow_int hc.1 hc.2 q
/-! ### comprehensions whose parts leave what is tracked as it is: sel tells of each item what comes of it -/
theorem take_fm {α : Type} {l : List (Option α)} {i : Nat} {o : Option α} (h : l[i]? = some o) : (l.take (i + 1)).filterMap id = (l.take i).filterMap id ++ o.toList := by
  rw [List.take_add_one, h, List.filterMap_append]
  cases o <;> rfl
theorem fm_len {α : Type} (l : List (Option α)) (i : Nat) : ((l.take i).filterMap id).length ≤ l.length :=
  Nat.le_trans (List.length_filterMap_le _ _) (by rw [List.length_take]; omega)
theorem lc_selL {K : PySem.W.Frag} {a : Addr} {xs : List V} {j : Nat} {tt : TT} {te : TE} {vs : List Nat} {σ : L2.St} {H1 : Hp} {D : Addr} {Qd : Hp → Prop} (sel : List (Option V)) (nD : H1 D = none) (hS : SqL K H1 a xs) (hlen : sel.length = xs.length) (hz : xs.length < sizeLine)
    (hw : ∀ x, wipe ((wipe σ vs).set j (some x)) vs = wipe σ vs)
    (hs : ∀ (i : Nat) (x : V) (o : Option V) (H' : Hp), xs[i]? = some x → sel[i]? = some o → Same H1 H' → ∀ Qt : Option V → Hp → Prop, (∀ H'', Same H' H'' → Qt o H'') →
      tt ((wipe σ vs).set j (some x)) H' fun b H3 => if b = true then te ((wipe σ vs).set j (some x)) H3 fun y H4 => Qt (some y) H4 else Qt none H3)
    (hd : ∀ H', Same H1 H' → H' D = some (.lst (sel.filterMap id)) → Qd H') :
    ∃ W : Nat → Nat → Hp → Prop, (∃ m, W 0 m (upd H1 D (.lst []))) ∧ ∀ i m H, W i m H →
      ((Itl K a).stop i H ∧ Qd H) ∨ ((Itl K a).go i H ∧ ∃ Nx : Hp → Prop, (∀ H', Nx H' → ∃ m', m' < m ∧ W (i + 1) m' H') ∧ ∀ x H', (Itl K a).yld i H x H' → gName j x (wipe σ vs) H' fun σ2 H2 => wipe σ2 vs = wipe σ vs ∧ tt σ2 H2 fun b H3 =>
        if b = true then te σ2 H3 fun y H4 => ∃ acc, H4 D = some (.lst acc) ∧ acc.length < sizeLine ∧ Nx (upd H4 D (.lst (acc ++ [y]))) else Nx H3) := by
  refine lc_list (K := K) (a := a) (xs := xs) (fun i H => Same H1 H ∧ H D = some (.lst ((sel.take i).filterMap id))) ⟨same_upd nD, upd_same⟩ (fun i H _ p => p.1.seq hS) ?_ ?_
  · rintro i x H hx ⟨s, hD⟩
    refine ⟨hw x, ?_⟩
    have hi : i < sel.length := by rw [hlen]; exact (List.getElem?_eq_some_iff.mp hx).1
    have ho : sel[i]? = some sel[i] := List.getElem?_eq_getElem hi
    have hl : ((sel.take i).filterMap id).length < sizeLine := Nat.lt_of_le_of_lt (fm_len sel i) (by omega)
    refine hs i x sel[i] H hx ho s (fun o H4 => match o with
      | some y => ∃ acc, H4 D = some (.lst acc) ∧ acc.length < sizeLine ∧ (Same H1 (upd H4 D (.lst (acc ++ [y]))) ∧ (upd H4 D (.lst (acc ++ [y]))) D = some (.lst ((sel.take (i + 1)).filterMap id)))
      | none => Same H1 H4 ∧ H4 D = some (.lst ((sel.take (i + 1)).filterMap id))) fun H4 s4 => ?_
    generalize sel[i] = o at ho ⊢
    cases o with
    | some y =>
      refine ⟨_, s4 _ _ hD, hl, same_over nD (s.trans s4), ?_⟩
      rw [upd_same, take_fm ho]
      rfl
    | none =>
      refine ⟨s.trans s4, ?_⟩
      rw [take_fm ho, s4 _ _ hD]
      simp
  · rintro H ⟨s, hD⟩
    refine hd H s ?_
    rw [hD, ← hlen, List.take_length]
theorem lc_selR {lo : Int} {n : Nat} {j : Nat} {tt : TT} {te : TE} {vs : List Nat} {σ : L2.St} {H1 : Hp} {D : Addr} {Qd : Hp → Prop} (sel : List (Option V)) (nD : H1 D = none) (hlen : sel.length = n) (hz : n < sizeLine)
    (hw : ∀ x, wipe ((wipe σ vs).set j (some x)) vs = wipe σ vs)
    (hs : ∀ (i : Nat) (o : Option V) (H' : Hp), i < n → sel[i]? = some o → Same H1 H' → ∀ Qt : Option V → Hp → Prop, (∀ H'', Same H' H'' → Qt o H'') →
      tt ((wipe σ vs).set j (some (.int (lo + (i : Int))))) H' fun b H3 => if b = true then te ((wipe σ vs).set j (some (.int (lo + (i : Int))))) H3 fun y H4 => Qt (some y) H4 else Qt none H3)
    (hd : ∀ H', Same H1 H' → H' D = some (.lst (sel.filterMap id)) → Qd H') :
    ∃ W : Nat → Nat → Hp → Prop, (∃ m, W 0 m (upd H1 D (.lst []))) ∧ ∀ i m H, W i m H →
      ((Itr lo n).stop i H ∧ Qd H) ∨ ((Itr lo n).go i H ∧ ∃ Nx : Hp → Prop, (∀ H', Nx H' → ∃ m', m' < m ∧ W (i + 1) m' H') ∧ ∀ x H', (Itr lo n).yld i H x H' → gName j x (wipe σ vs) H' fun σ2 H2 => wipe σ2 vs = wipe σ vs ∧ tt σ2 H2 fun b H3 =>
        if b = true then te σ2 H3 fun y H4 => ∃ acc, H4 D = some (.lst acc) ∧ acc.length < sizeLine ∧ Nx (upd H4 D (.lst (acc ++ [y]))) else Nx H3) := by
  refine lc_range (lo := lo) (n := n) (fun i H => Same H1 H ∧ H D = some (.lst ((sel.take i).filterMap id))) ⟨same_upd nD, upd_same⟩ ?_ ?_
  · rintro i H hi' ⟨s, hD⟩
    refine ⟨hw _, ?_⟩
    have hi : i < sel.length := by rw [hlen]; exact hi'
    have ho : sel[i]? = some sel[i] := List.getElem?_eq_getElem hi
    have hl : ((sel.take i).filterMap id).length < sizeLine := Nat.lt_of_le_of_lt (fm_len sel i) (by omega)
    refine hs i sel[i] H hi' ho s (fun o H4 => match o with
      | some y => ∃ acc, H4 D = some (.lst acc) ∧ acc.length < sizeLine ∧ (Same H1 (upd H4 D (.lst (acc ++ [y]))) ∧ (upd H4 D (.lst (acc ++ [y]))) D = some (.lst ((sel.take (i + 1)).filterMap id)))
      | none => Same H1 H4 ∧ H4 D = some (.lst ((sel.take (i + 1)).filterMap id))) fun H4 s4 => ?_
    generalize sel[i] = o at ho ⊢
    cases o with
    | some y =>
      refine ⟨_, s4 _ _ hD, hl, same_over nD (s.trans s4), ?_⟩
      rw [upd_same, take_fm ho]
      rfl
    | none =>
      refine ⟨s.trans s4, ?_⟩
      rw [take_fm ho, s4 _ _ hD]
      simp
  · rintro H ⟨s, hD⟩
    refine hd H s ?_
    rw [hD, ← hlen, List.take_length]
theorem fm_some {α : Type} (ys : List α) : (ys.map some).filterMap id = ys := by
  rw [List.filterMap_map]
  show List.filterMap (fun y => some y) ys = ys
  exact List.filterMap_some
/-- no test: ys tells what comes of each item -/
theorem lc_mapL {K : PySem.W.Frag} {a : Addr} {xs : List V} {j : Nat} {te : TE} {vs : List Nat} {σ : L2.St} {H1 : Hp} {D : Addr} {Qd : Hp → Prop} (ys : List V) (nD : H1 D = none) (hS : SqL K H1 a xs) (hlen : ys.length = xs.length) (hz : xs.length < sizeLine)
    (hw : ∀ x, wipe ((wipe σ vs).set j (some x)) vs = wipe σ vs)
    (hs : ∀ (i : Nat) (x y : V) (H' : Hp), xs[i]? = some x → ys[i]? = some y → Same H1 H' → ∀ Qt : V → Hp → Prop, (∀ H'', Same H' H'' → Qt y H'') → te ((wipe σ vs).set j (some x)) H' Qt)
    (hd : ∀ H', Same H1 H' → H' D = some (.lst ys) → Qd H') :
    ∃ W : Nat → Nat → Hp → Prop, (∃ m, W 0 m (upd H1 D (.lst []))) ∧ ∀ i m H, W i m H →
      ((Itl K a).stop i H ∧ Qd H) ∨ ((Itl K a).go i H ∧ ∃ Nx : Hp → Prop, (∀ H', Nx H' → ∃ m', m' < m ∧ W (i + 1) m' H') ∧ ∀ x H', (Itl K a).yld i H x H' → gName j x (wipe σ vs) H' fun σ2 H2 => wipe σ2 vs = wipe σ vs ∧ tYes σ2 H2 fun b H3 =>
        if b = true then te σ2 H3 fun y H4 => ∃ acc, H4 D = some (.lst acc) ∧ acc.length < sizeLine ∧ Nx (upd H4 D (.lst (acc ++ [y]))) else Nx H3) := by
  refine lc_selL (K := K) (a := a) (xs := xs) (tt := tYes) (ys.map some) nD hS (by rw [List.length_map]; exact hlen) hz hw ?_ ?_
  · intro i x o H' hx ho s Qt qt
    rw [List.getElem?_map] at ho
    obtain ⟨y, hy, rfl⟩ := Option.map_eq_some_iff.mp ho
    show if true = true then te ((wipe σ vs).set j (some x)) H' (fun y H4 => Qt (some y) H4) else Qt none H'
    exact iteT (hs i x y H' hx hy s (fun y H4 => Qt (some y) H4) qt)
  · intro H' s hD
    rw [fm_some] at hD
    exact hd H' s hD
theorem lc_mapR {lo : Int} {n : Nat} {j : Nat} {te : TE} {vs : List Nat} {σ : L2.St} {H1 : Hp} {D : Addr} {Qd : Hp → Prop} (ys : List V) (nD : H1 D = none) (hlen : ys.length = n) (hz : n < sizeLine)
    (hw : ∀ x, wipe ((wipe σ vs).set j (some x)) vs = wipe σ vs)
    (hs : ∀ (i : Nat) (y : V) (H' : Hp), i < n → ys[i]? = some y → Same H1 H' → ∀ Qt : V → Hp → Prop, (∀ H'', Same H' H'' → Qt y H'') → te ((wipe σ vs).set j (some (.int (lo + (i : Int))))) H' Qt)
    (hd : ∀ H', Same H1 H' → H' D = some (.lst ys) → Qd H') :
    ∃ W : Nat → Nat → Hp → Prop, (∃ m, W 0 m (upd H1 D (.lst []))) ∧ ∀ i m H, W i m H →
      ((Itr lo n).stop i H ∧ Qd H) ∨ ((Itr lo n).go i H ∧ ∃ Nx : Hp → Prop, (∀ H', Nx H' → ∃ m', m' < m ∧ W (i + 1) m' H') ∧ ∀ x H', (Itr lo n).yld i H x H' → gName j x (wipe σ vs) H' fun σ2 H2 => wipe σ2 vs = wipe σ vs ∧ tYes σ2 H2 fun b H3 =>
        if b = true then te σ2 H3 fun y H4 => ∃ acc, H4 D = some (.lst acc) ∧ acc.length < sizeLine ∧ Nx (upd H4 D (.lst (acc ++ [y]))) else Nx H3) := by
  refine lc_selR (lo := lo) (n := n) (tt := tYes) (ys.map some) nD (by rw [List.length_map]; exact hlen) hz hw ?_ ?_
  · intro i o H' hi ho s Qt qt
    rw [List.getElem?_map] at ho
    obtain ⟨y, hy, rfl⟩ := Option.map_eq_some_iff.mp ho
    show if true = true then te ((wipe σ vs).set j (some (.int (lo + (i : Int))))) H' (fun y H4 => Qt (some y) H4) else Qt none H'
    exact iteT (hs i y H' hi hy s (fun y H4 => Qt (some y) H4) qt)
  · intro H' s hD
    rw [fm_some] at hD
    exact hd H' s hD
/-- an item of a list of whole numbers -/
theorem int_at {ns : List Int} {i : Nat} {x : V} (h : (ns.map V.int)[i]? = some x) : ∃ n, ns[i]? = some n ∧ x = .int n := by
  rw [List.getElem?_map] at h
  obtain ⟨n, hn, e⟩ := Option.map_eq_some_iff.mp h
  exact ⟨n, hn, e.symm⟩
/-! ### rules with the written part named (within a comprehension Lean doesn't find it) -/
section
variable {X : Cx}
theorem k_len (K : PySem.W.Frag) (h : X.K = K) : CallR X (.builtin "len") (fun xs H Q => ∃ p ys, xs = [.ref p] ∧ (SqL K H p ys ∨ SqT K H p ys) ∧ Q (.int ys.length) H) := by subst h; exact call_len_seq
theorem k_sum (K : PySem.W.Frag) (h : X.K = K) (hc : X.calm = true) : CallR X (.builtin "sum") (rSum K) := by subst h; exact cr_sum hc
theorem k_max (K : PySem.W.Frag) (h : X.K = K) (hc : X.calm = true) : CallR X (.builtin "max") (rMax K) := by subst h; exact cr_max hc
theorem k_min (K : PySem.W.Frag) (h : X.K = K) (hc : X.calm = true) : CallR X (.builtin "min") (rMin K) := by subst h; exact cr_min hc
theorem k_isi (K : PySem.W.Frag) (h : X.K = K) : CallR X (.builtin "isinstance") (rIsi K) := by subst h; exact call_isi
theorem k_listOf (K : PySem.W.Frag) (h : X.K = K) : CallR X (.type "list") (fun xs H Q => ∃ p ys, xs = [.ref p] ∧ (SqL K H p ys ∨ SqT K H p ys) ∧ ∀ l, H l = none → Q (.ref l) (upd H l (.lst ys))) := by subst h; exact call_list_of
theorem k_tupleOf (K : PySem.W.Frag) (h : X.K = K) : CallR X (.type "tuple") (fun xs H Q => ∃ p ys, xs = [.ref p] ∧ ((SqL K H p ys ∧ ∀ l, H l = none → Q (.ref l) (upd H l (.tup ys))) ∨ (SqT K H p ys ∧ Q (.ref p) H))) := by subst h; exact call_tuple_of
theorem k_ixL (K : PySem.W.Frag) (h : X.K = K) : IxR X (rIxL K) := by subst h; exact ix_list
theorem k_ixT (K : PySem.W.Frag) (h : X.K = K) : IxR X (rIxT K) := by subst h; exact ix_tup
theorem k_slL (K : PySem.W.Frag) (h : X.K = K) : SlR X (rSlL K) := by subst h; exact sl_list
theorem k_slT (K : PySem.W.Frag) (h : X.K = K) : SlR X (rSlT K) := by subst h; exact sl_tup
theorem k_eqD (K : PySem.W.Frag) (h : X.K = K) (hu : X.A.units + 64 < cLine) : OpR X (compareOp .Eq) (rEqD K) := by subst h; exact op_eqD hu
theorem k_neD (K : PySem.W.Frag) (h : X.K = K) (hu : X.A.units + 64 < cLine) : OpR X (compareOp .NotEq) (rNeD K) := by subst h; exact op_neD hu
theorem k_in (K : PySem.W.Frag) (h : X.K = K) : OpR X (compareOp .In) (rIn K false) := by subst h; exact op_in_seq
theorem k_notIn (K : PySem.W.Frag) (h : X.K = K) : OpR X (compareOp .NotIn) (rIn K true) := by subst h; exact op_notIn_seq
theorem k_piL (K : PySem.W.Frag) (h : X.K = K) {tg l : Expr} {tl : TE} (hl : PE X l tl) : PI X tg l (iList K tl) := by subst h; exact pi_list hl
theorem k_piT (K : PySem.W.Frag) (h : X.K = K) {tg l : Expr} {tl : TE} (hl : PE X l tl) : PI X tg l (iTup K tl) := by subst h; exact pi_tup hl
theorem k_piE (K : PySem.W.Frag) (h : X.K = K) {e : Expr} {ta : TA} {p pos tpos : Pos} {elts : List Expr} {kk : Nat} (hg : Gl X "enumerate") (hm : X.mg "enumerate" = none) (ha : PA X [e] ta) (hs : starEach [e] X.env = [(false, eval e X.env)] := by rfl) : PI X (.Tuple elts kk tpos) (.Call (.Name "enumerate" p) [e] [] pos) (iEnum K ta) := by subst h; exact pi_enum hg hm ha hs
theorem k_pgT (K : PySem.W.Frag) (h : X.K = K) {es : List Expr} {k : Nat} {t : TGs} {n : Nat} {pos : Pos} (hc : X.calm = true) (hp : PGs X es t) (hn : (assignEach es X.env).length = n := by rfl) (hst : (assignEach es X.env).findIdx? (·.1) = none := by rfl) : PG X (.Tuple es k pos) (gTup K n t) := by subst h; exact pg_tup hc hp hn hst
theorem k_pgL (K : PySem.W.Frag) (h : X.K = K) {es : List Expr} {k : Nat} {t : TGs} {n : Nat} {pos : Pos} (hc : X.calm = true) (hp : PGs X es t) (hn : (assignEach es X.env).length = n := by rfl) (hst : (assignEach es X.env).findIdx? (·.1) = none := by rfl) : PG X (.Tuple es k pos) (gUnl K n t) := by subst h; exact pg_unl hc hp hn hst
theorem k_fld (K : PySem.W.Frag) (h : X.K = K) {e : Expr} {f : Str} {pos : Pos} {ta : TE} (he : PE X e ta) (hb : attributeBase e f X.env (eval e X.env) = eval e X.env) : PE X (.Attribute e f pos) (tFld K ta f) := by subst h; exact pe_fld he hb
theorem k_index (K : PySem.W.Frag) (h : X.K = K) : MtR X "list.index" (rIndex K) := by subst h; exact mt_index
end
/-! ### small things -/
theorem fresh {H : Hp} {p : Addr} (o : HO) (np : H p = none) : ∃ H', upd H p o = H' ∧ Same H H' ∧ H' p = some o := ⟨_, rfl, same_upd np, upd_same⟩
theorem cut_take (xs : List V) (k : Nat) : cutV xs none (some (k : Int)) = xs.take k := by
  unfold cutV
  rw [HT.sIx_nat, HT.sIx_none, List.drop_zero, Nat.sub_zero]
  rcases Nat.le_total k xs.length with h | h
  · rw [Nat.min_eq_left h]
  · rw [Nat.min_eq_right h, List.take_of_length_le h, List.take_length]
theorem cut_drop (xs : List V) (k : Nat) : cutV xs (some (k : Int)) none = xs.drop k := by
  unfold cutV
  rw [HT.sIx_nat, HT.sIx_none]
  rcases Nat.le_total k xs.length with h | h
  · rw [Nat.min_eq_left h, List.take_of_length_le (by rw [List.length_drop]; exact Nat.le_refl _)]
  · rw [Nat.min_eq_right h, List.drop_length, List.drop_of_length_le h, List.take_nil]
theorem rep_ints (k : Nat) (ks : List Int) : (List.replicate k (ks.map V.int)).flatten = ((List.replicate k ks).flatten).map V.int := by
  rw [List.map_flatten, List.map_replicate]
theorem rep_len {α : Type} (k : Nat) (ks : List α) : ((List.replicate k ks).flatten).length = k * ks.length := by
  induction k with
  | zero => simp
  | succ k ih => rw [List.replicate_succ, List.flatten_cons, List.length_append, ih, Nat.succ_mul]; omega
theorem rep_mem {α : Type} {k : Nat} {ks : List α} {x : α} (h : x ∈ (List.replicate k ks).flatten) : x ∈ ks := by
  obtain ⟨l, hl, hx⟩ := List.mem_flatten.mp h
  rw [(List.mem_replicate.mp hl).2] at hx
  exact hx
/-! ### comprehensions that make new things: R tells what is known of the i-th; D is no part of it -/
def Off (D : Addr) (H H' : Hp) : Prop := ∀ b o, b ≠ D → H b = some o → H' b = some o
def RelPv (R : Nat → V → Hp → Prop) (H1 : Hp) (D : Addr) (i : Nat) (H : Hp) : Prop := ∃ ys : List V, Same H1 H ∧ H D = some (.lst ys) ∧ ys.length = i ∧ ∀ (k : Nat) (y : V), ys[k]? = some y → R k y H
theorem lc_relR {lo : Int} {n : Nat} {j : Nat} {te : TE} {vs : List Nat} {σ : L2.St} {H1 : Hp} {D : Addr} {Qd : Hp → Prop} (R : Nat → V → Hp → Prop) (nD : H1 D = none) (hz : n < sizeLine)
    (mono : ∀ i y H H', Off D H H' → R i y H → R i y H')
    (hw : ∀ x, wipe ((wipe σ vs).set j (some x)) vs = wipe σ vs)
    (hs : ∀ (i : Nat) (H' : Hp) (xs : List V), i < n → Same H1 H' → H' D = some (.lst xs) → ∀ Qt : V → Hp → Prop, (∀ y H'', Same H' H'' → R i y H'' → Qt y H'') → te ((wipe σ vs).set j (some (.int (lo + (i : Int))))) H' Qt)
    (hd : ∀ H' ys, Same H1 H' → H' D = some (.lst ys) → ys.length = n → (∀ (i : Nat) (y : V), ys[i]? = some y → R i y H') → Qd H') :
    ∃ W : Nat → Nat → Hp → Prop, (∃ m, W 0 m (upd H1 D (.lst []))) ∧ ∀ i m H, W i m H →
      ((Itr lo n).stop i H ∧ Qd H) ∨ ((Itr lo n).go i H ∧ ∃ Nx : Hp → Prop, (∀ H', Nx H' → ∃ m', m' < m ∧ W (i + 1) m' H') ∧ ∀ x H', (Itr lo n).yld i H x H' → gName j x (wipe σ vs) H' fun σ2 H2 => wipe σ2 vs = wipe σ vs ∧ tYes σ2 H2 fun b H3 =>
        if b = true then te σ2 H3 fun y H4 => ∃ acc, H4 D = some (.lst acc) ∧ acc.length < sizeLine ∧ Nx (upd H4 D (.lst (acc ++ [y]))) else Nx H3) := by
  refine lc_range (lo := lo) (n := n) (RelPv R H1 D) ⟨[], same_upd nD, upd_same, rfl, fun k y h => by simp at h⟩ ?_ ?_
  · rintro i H hi ⟨ys, s, hD, hl, hR⟩
    refine ⟨hw _, ?_⟩
    show if true = true then te ((wipe σ vs).set j (some (.int (lo + (i : Int))))) H (fun y H4 => ∃ acc, H4 D = some (.lst acc) ∧ acc.length < sizeLine ∧ RelPv R H1 D (i + 1) (upd H4 D (.lst (acc ++ [y])))) else RelPv R H1 D (i + 1) H
    refine iteT (hs i H ys hi s hD _ fun y H4 s4 r4 => ?_)
    refine ⟨ys, s4 _ _ hD, by omega, ys ++ [y], same_over nD (s.trans s4), upd_same, by rw [List.length_append, hl]; rfl, fun k z hz => ?_⟩
    have off : Off D H4 (upd H4 D (.lst (ys ++ [y]))) := fun b o nb h => by rw [upd_ne nb]; exact h
    by_cases hk : k < ys.length
    · rw [List.getElem?_append_left hk] at hz
      exact mono k z H _ (fun b o nb h => off b o nb (s4 b o h)) (hR k z hz)
    · rw [List.getElem?_append_right (by omega)] at hz
      have hk2 : k - ys.length = 0 := by
        have h2 := (List.getElem?_eq_some_iff.mp hz).1
        rw [List.length_singleton] at h2
        omega
      rw [hk2] at hz
      cases hz
      have ek : k = i := by omega
      rw [ek]
      exact mono i y H4 _ off r4
  · rintro H ⟨ys, s, hD, hl, hR⟩
    exact hd H ys s hD hl hR
/-! ### ways that are told by whole numbers -/
theorem iteDT {p A B : Prop} [Decidable p] (hp : p) (h : A) : if decide p = true then A else B := by rw [decide_eq_true hp]; exact iteT h
theorem iteDF {p A B : Prop} [Decidable p] (hp : ¬ p) (h : B) : if decide p = true then A else B := by rw [decide_eq_false hp]; exact iteF h
theorem iteNT {p A B : Prop} [Decidable p] (hp : ¬ p) (h : A) : if (!decide p) = true then A else B := by rw [decide_eq_false hp]; exact iteT h
theorem iteNF {p A B : Prop} [Decidable p] (hp : p) (h : B) : if (!decide p) = true then A else B := by rw [decide_eq_true hp]; exact iteF h
theorem iteET {a b : Int} {A B : Prop} [Decidable (V.int a = V.int b)] (hp : a = b) (h : A) : if decide (V.int a = V.int b) = true then A else B := iteDT (congrArg V.int hp) h
theorem iteEF {a b : Int} {A B : Prop} [Decidable (V.int a = V.int b)] (hp : ¬ a = b) (h : B) : if decide (V.int a = V.int b) = true then A else B := iteDF (fun z => hp (V.int.inj z)) h
theorem iteENT {a b : Int} {A B : Prop} [Decidable (V.int a = V.int b)] (hp : ¬ a = b) (h : A) : if (!decide (V.int a = V.int b)) = true then A else B := iteNT (fun z => hp (V.int.inj z)) h
theorem iteENF {a b : Int} {A B : Prop} [Decidable (V.int a = V.int b)] (hp : a = b) (h : B) : if (!decide (V.int a = V.int b)) = true then A else B := iteNF (congrArg V.int hp) h
theorem iteNtt {A B : Prop} (h : B) : if (!true) = true then A else B := h
theorem iteNff {A B : Prop} (h : A) : if (!false) = true then A else B := h
/-- 1 or 0 of a comparison -/
theorem int_if {p : Prop} [Decidable p] : (if decide p = true then (1 : Int) else 0) = if p then 1 else 0 := by by_cases h : p <;> simp [h]
end Pre

namespace My
open PySem PySem.Spec PyProof.Rows L2 Pre
/-! ### == and != of instances by their class's own __eq__ -/
/-- != of a class with own __eq__, without own __ne__ -/
theorem own_ne {prog : Program} {w : World} {A : Around} {E : Value → Shared → Prop} {s : Shared} {K : PySem.W.Frag} {x C f : Addr} {ox : Obj} {od : Option Obj} {b tb : Value} {Q : Value → Shared → Prop} (room : A.units + 1 < cLine) (kin : K.In s.heap)
    (inst : PySem.W.InstAt s.heap x ox C od) (tyb : PySem.W.Looks (model prog w) s.heap (typeOf b) tb) (nf : PySem.W.notFirst K C tb = true) (hne : PySem.W.findIn K (.ref C) "__ne__" = some (some (.builtin "object.__ne__")))
    (heq : PySem.W.findIn K (.ref C) "__eq__" = some (some (.ref f))) (isf : PySem.W.isFn K (.ref f) = true) (hob : PySem.W.subIn K (.ref C) (.type "object") = some true)
    (h : wpAny (model prog w) A.in1 (call (.ref f) [.ref x, b]) (fun v s' => ∃ r, v = .bool r ∧ Q (.bool (!r)) s') E s) : wpAny (model prog w) A (richCompare .NotEq (.ref x) b) Q E s := by
  have body : wpAny (model prog w) A.in1 (Builtin.«object.__ne__» ⟨[.ref x, b], []⟩) (fun fin s' => ∃ r, fin = .done (.ret (.bool r)) ∧ Q (.bool r) s') E s := by
    unfold Builtin.«object.__ne__»
    refine wpAny_bind (wpAny_of_eq (a := ((Value.ref x : Value), [b])) (by first | rfl | (simp only [slotArgs]; rfl)) ?_)
    refine wpAny_bind (wpAny_cRoomFor (show A.in1.units < cLine from room) ?_)
    refine wpAny_bind (PySem.W.ifBound_K kin inst heq isf (wpAny_mono h (fun v s' hv => ?_) fun _ _ e => e))
    obtain ⟨r, rfl, q⟩ := hv
    refine wpAny_bind (wpAny_truthy_bool ?_)
    exact wpAny_pure ⟨!r, rfl, q⟩
  have one : wpAny (model prog w) A (tryCompare (.ref x) "__ne__" b) (fun o s' => ∃ v, o = some v ∧ Q v s') E s := by
    have called : wpAny (model prog w) A (call (.builtin "object.__ne__") ([.ref x] ++ [b]) >>= fun v => pure (some v)) (fun o s' => ∃ v r, o = some v ∧ v = .bool r ∧ Q v s') E s := by
      refine wpAny_bind (wpAny_call (codeAny_call_builtin PySem.F.cmp_object.ne.plain PySem.F.cmpEntry_ne (PySem.W.check_slot PySem.F.cmpKind_ne PySem.F.cmpSplit_ne (inst.type.andThen (PySem.W.looks_subIn kin hob)) (PySem.F.cmpArgs_ne _ _) ?_)))
      refine wpAny_mono body (fun fin s' hf => ?_) fun _ _ e => e
      obtain ⟨r, rfl, q⟩ := hf
      exact wpAny_pure ⟨_, r, rfl, rfl, q⟩
    have inner : wpAny (model prog w) A (callSpecialIfBound? (.ref x) "__ne__" [b]) (fun o s' => ∃ v r, o = some v ∧ v = .bool r ∧ Q v s') E s := by
      simp only [callSpecialIfBound?, bindSpecialIfBound?]
      refine wpAny_holding (wpAny_bind (wpAny_bind (wpAny_bind (inst.type.here ((PySem.W.looks_findIn kin hne).here ?_)))))
      refine wpAny_bind (wpAny_askSetting (wpAny_ite ?_))
      rw [PySem.F.cmp_object.ne.bind]
      split
      · exact wpAny_bind (wpAny_pure (wpAny_pure called))
      · exact wpAny_tryCatch (wpAny_bind (wpAny_pure (wpAny_pure called)))
    unfold tryCompare
    refine wpAny_bind (wpAny_mono inner (fun o s' ho => ?_) fun _ _ e => e)
    obtain ⟨v, r, rfl, rfl, q⟩ := ho
    exact wpAny_pure ⟨_, rfl, q⟩
  unfold richCompare
  simp only [oneThing_ref]
  refine wpAny_holding (wpAny_bind (wpAny_cRoomFor (by omega) ?_))
  refine wpAny_bind (inst.type.here (wpAny_bind (tyb.here ?_)))
  have last : wpAny (model prog w) A (tryCompare (.ref x) "__ne__" b) (fun o s' => ∃ v, o = some v ∧ Q v s') E s := one
  split
  · rename_i q
    have e : PySem.W.subIn K tb (.ref C) = some false := by
      rcases Bool.or_eq_true_iff.mp nf with e | e
      · rw [beq_iff_eq.mp e] at q; simp at q
      · exact beq_iff_eq.mp e
    refine wpAny_bind ((PySem.W.looks_subIn kin e).here ?_)
    simp only [Bool.false_eq_true, if_false]
    refine wpAny_bind (wpAny_mono last (fun o s' z => ?_) fun _ _ e => e)
    obtain ⟨v, rfl, hq⟩ := z
    exact wpAny_pure hq
  · refine wpAny_bind (wpAny_pure ?_)
    simp only [Bool.false_eq_true, if_false]
    refine wpAny_bind (wpAny_mono last (fun o s' z => ?_) fun _ _ e => e)
    obtain ⟨v, rfl, hq⟩ := z
    exact wpAny_pure hq
/-- what is asked of a class with own __eq__ -/
structure EqC (K : PySem.W.Frag) (C f : Addr) : Prop where
  eq : PySem.W.findIn K (.ref C) "__eq__" = some (some (.ref f))
  fn : PySem.W.isFn K (.ref f) = true
  ne : PySem.W.findIn K (.ref C) "__ne__" = some (some (.builtin "object.__ne__"))
  ob : PySem.W.subIn K (.ref C) (.type "object") = some true
  li : PySem.W.subIn K (.type "list") (.ref C) = some false
  ki : PySem.W.kitOne K (.type "list") (.ref C) = some false
  tu : PySem.W.subIn K (.type "tuple") (.ref C) = some false
  kt : PySem.W.kitOne K (.type "tuple") (.ref C) = some false
/-- what stands right of ==: an instance of the same class, a list or a tuple -/
def Rhs (K : PySem.W.Frag) (H : Hp) (C : Addr) (y : V) : Prop := ∃ b, y = .ref b ∧ ((∃ dy gs, H b = some (.ins C dy gs)) ∨ (∃ xs, SqL K H b xs) ∨ ∃ xs, SqT K H b xs)
section
variable {X : Cx} {CX : CXT} {k : Nat} {f C : Addr} {fd : FuncData} {ps : List Str} {sp : Sp} {E : XK}
theorem rhs_ty {pins : List (Addr × Obj)} {σ : L2.St} {H : Hp} {s : Shared} {y : V} {u : Value} (I : Inv X pins σ H s) (c : EqC X.K C f) (h : Rhs X.K H C y) (r : RelV y u) : ∃ tb, PySem.W.Looks (model X.prog X.w) s.heap (typeOf u) tb ∧ PySem.W.notFirst X.K C tb = true := by
  obtain ⟨b, rfl, h⟩ := h
  cases r
  rcases h with ⟨dy, gs, hb⟩ | ⟨xs, hb⟩ | ⟨xs, hb⟩
  · obtain ⟨mB, J, _⟩ := ins_get I.hok hb
    obtain ⟨od, J, _⟩ := J.look
    exact ⟨_, J.type, by simp [PySem.W.notFirst]⟩
  · obtain ⟨us, _, ⟨o, n, ho, hc, _⟩, _⟩ := I.list hb
    refine ⟨.type "list", fun A Q E s' k q => wpAny_typeOf_ref (k _ _ ho) (by rw [hc]; exact q), ?_⟩
    simp only [PySem.W.notFirst, c.li]
    simp
  · obtain ⟨us, _, ⟨o, ho, hc, _⟩, _⟩ := I.tuple hb
    refine ⟨.type "tuple", fun A Q E s' k q => wpAny_typeOf_ref (k _ _ ho) (by rw [hc]; exact q), ?_⟩
    simp only [PySem.W.notFirst, c.tu]
    simp
theorem run_eq {A : Around} {pins : List (Addr × Obj)} {σ : L2.St} {H : Hp} {s : Shared} {Q : VK} {x y : V} {a : Addr} {u : Value} (F : FnOk X.prog X.w X.K X.mg X.base CX k f fd ps sp) (hr : Room k A) (fr : A.frames = X.A.frames) (hb : Binds X.K fd ps [])
    (hx : Passes CX X E) (I : Inv X pins σ H s) (ry : RelV y u) (h : sp [.ref a, y] H Q E) : wpAny (model X.prog X.w) A (call (.ref f) [.ref a, u]) (EP X pins σ Q) X.xe s := by
  have rr : Vals [V.ref a, y] [Value.ref a, u] := .cons rfl (.cons ry .nil)
  have e := I.env0
  have e0 : Env0 X.prog X.w X.K X.mg X.base A X.stack s H := ⟨by rw [fr]; exact e.frames, e.mod, e.bs, e.bsz, e.funs, e.frf, e.hok, e.bare⟩
  have bn := hb s [.ref a, u] I.kIn (by have := F.len _ _ _ _ h; simpa using this)
  rw [List.append_nil] at bn
  refine wpAny_call (codeAny_mono (F.run A X.stack s H ⟨[.ref a, u], []⟩ [.ref a, u] [.ref a, y] Q E hr e0 bn rr h) fun z s2 hz => ?_)
  match z, hz with
  | .error e, hz => exact hx pins σ H s e s2 I hz
  | .ok (.ret v), hz => exact I.after hz
def rOwn (K : PySem.W.Frag) (C : Addr) (sp : Sp) (E : XK) (no : Bool) : R2 := fun x y H Q => ∃ (a dx : Addr) (fs : List (Str × V)), x = .ref a ∧ H a = some (.ins C dx fs) ∧ Rhs K H C y ∧ sp [x, y] H (fun v H' => ∃ b, v = .bl b ∧ Q (.bl (b != no)) H') E
theorem op_own_eq (c : EqC X.K C f) (F : FnOk X.prog X.w X.K X.mg X.base CX k f fd ps sp) (hr : Room (k + 1) X.A) (hb : Binds X.K fd ps []) (hx : Passes CX X E) : OpR X (compareOp .Eq) (rOwn X.K C sp E false) := by
  intro pins s σ H x y v u Q I rx ry h
  obtain ⟨a, dx, fs, rfl, ha, hy, h⟩ := h
  cases rx
  obtain ⟨tb, lb, nf⟩ := rhs_ty I c hy ry
  obtain ⟨mA, J, _⟩ := ins_get I.hok ha
  obtain ⟨od, J, _⟩ := J.look
  obtain ⟨m, hF⟩ := I.fr
  refine PySem.W.cmp_K (op := .Eq) hr.units0 hF I.ok.mod.kin J lb nf c.eq c.fn (wpAny_mono (run_eq (x := .ref a) F (hr.mono (by omega)) rfl hb hx I ry h) (fun v s2 hv => ?_) fun _ _ z => z)
  obtain ⟨z, H2, I2, r2, b, rfl, q⟩ := hv
  cases r2
  refine ⟨.bl b, H2, I2, rfl, ?_⟩
  have e : (b != false) = b := by cases b <;> rfl
  rw [e] at q
  exact q
theorem op_own_ne (c : EqC X.K C f) (F : FnOk X.prog X.w X.K X.mg X.base CX k f fd ps sp) (hr : Room (k + 1) X.A) (hb : Binds X.K fd ps []) (hx : Passes CX X E) : OpR X (compareOp .NotEq) (rOwn X.K C sp E true) := by
  intro pins s σ H x y v u Q I rx ry h
  obtain ⟨a, dx, fs, rfl, ha, hy, h⟩ := h
  cases rx
  obtain ⟨tb, lb, nf⟩ := rhs_ty I c hy ry
  obtain ⟨mA, J, _⟩ := ins_get I.hok ha
  obtain ⟨od, J, _⟩ := J.look
  refine own_ne (by have := hr.units; omega) I.kIn J lb nf c.ne c.eq c.fn c.ob (wpAny_mono (run_eq (x := .ref a) F hr.in1 rfl hb hx I ry h) (fun v s2 hv => ?_) fun _ _ z => z)
  obtain ⟨z, H2, I2, r2, b, rfl, q⟩ := hv
  cases r2
  refine ⟨b, rfl, .bl (!b), H2, I2, rfl, ?_⟩
  have e : (b != true) = !b := by cases b <;> rfl
  rw [e] at q
  exact q
end
end My

namespace My
open PySem PySem.Spec PyProof.Rows L2
theorem nil_binds {K : PySem.W.Frag} {fd : FuncData} {ps : List Str} (h : ∃ ds, Vals [] ds ∧ Binds K fd ps ds) : Binds K fd ps [] := by
  obtain ⟨ds, v, b⟩ := h
  cases v
  exact b
def top (i : Nat) : Stmt := PySem.Challenge.pw_wholesound_k35_whole_enough_for_all_samp.main.body.getD i (.Pass ⟨0, 0, 0, 0⟩)
abbrev s_is_whole : Stmt := top 10
abbrev N_is_whole : List Str := ["value"]
theorem sc_is_whole : FnScope N_is_whole ["value"] (defScope s_is_whole) := ⟨rfl, rfl, rfl, by decide +kernel, rfl, by decide +kernel, by decide +kernel⟩
abbrev s_is_between : Stmt := top 11
abbrev N_is_between : List Str := ["value", "low", "high"]
theorem sc_is_between : FnScope N_is_between ["value", "low", "high"] (defScope s_is_between) := ⟨rfl, rfl, rfl, by decide +kernel, rfl, by decide +kernel, by decide +kernel⟩
abbrev s_are_wholes : Stmt := top 12
abbrev N_are_wholes : List Str := ["value", "item"]
theorem sc_are_wholes : FnScope N_are_wholes ["value"] (defScope s_are_wholes) := ⟨rfl, rfl, rfl, by decide +kernel, rfl, by decide +kernel, by decide +kernel⟩
abbrev s_check_depth : Stmt := top 13
abbrev N_check_depth : List Str := ["depth", "most"]
theorem sc_check_depth : FnScope N_check_depth ["depth", "most"] (defScope s_check_depth) := ⟨rfl, rfl, rfl, by decide +kernel, rfl, by decide +kernel, by decide +kernel⟩
abbrev s_check_number : Stmt := top 14
abbrev N_check_number : List Str := ["number", "low", "high"]
theorem sc_check_number : FnScope N_check_number ["number", "low", "high"] (defScope s_check_number) := ⟨rfl, rfl, rfl, by decide +kernel, rfl, by decide +kernel, by decide +kernel⟩
abbrev s_is_sample : Stmt := top 16
abbrev N_is_sample : List Str := ["value", "depth"]
theorem sc_is_sample : FnScope N_is_sample ["value", "depth"] (defScope s_is_sample) := ⟨rfl, rfl, rfl, by decide +kernel, rfl, by decide +kernel, by decide +kernel⟩
abbrev s_are_samples : Stmt := top 17
abbrev N_are_samples : List Str := ["value", "depth", "item"]
theorem sc_are_samples : FnScope N_are_samples ["value", "depth"] (defScope s_are_samples) := ⟨rfl, rfl, rfl, by decide +kernel, rfl, by decide +kernel, by decide +kernel⟩
abbrev s_wrapped : Stmt := top 18
abbrev N_wrapped : List Str := ["number", "depth", "half"]
theorem sc_wrapped : FnScope N_wrapped ["number", "depth"] (defScope s_wrapped) := ⟨rfl, rfl, rfl, by decide +kernel, rfl, by decide +kernel, by decide +kernel⟩
abbrev s_is_lift : Stmt := top 22
abbrev N_is_lift : List Str := ["value", "wide"]
theorem sc_is_lift : FnScope N_is_lift ["value", "wide"] (defScope s_is_lift) := ⟨rfl, rfl, rfl, by decide +kernel, rfl, by decide +kernel, by decide +kernel⟩
abbrev s_is_step : Stmt := top 23
abbrev N_is_step : List Str := ["value", "wide", "at"]
theorem sc_is_step : FnScope N_is_step ["value", "wide"] (defScope s_is_step) := ⟨rfl, rfl, rfl, by decide +kernel, rfl, by decide +kernel, by decide +kernel⟩
abbrev s_closed : Stmt := top 24
abbrev N_closed : List Str := ["step"]
theorem sc_closed : FnScope N_closed ["step"] (defScope s_closed) := ⟨rfl, rfl, rfl, by decide +kernel, rfl, by decide +kernel, by decide +kernel⟩
abbrev s_opened : Stmt := top 25
abbrev N_opened : List Str := ["row"]
theorem sc_opened : FnScope N_opened ["row"] (defScope s_opened) := ⟨rfl, rfl, rfl, by decide +kernel, rfl, by decide +kernel, by decide +kernel⟩
abbrev s_check_mixer : Stmt := top 27
abbrev N_check_mixer : List Str := ["mixer"]
theorem sc_check_mixer : FnScope N_check_mixer ["mixer"] (defScope s_check_mixer) := ⟨rfl, rfl, rfl, by decide +kernel, rfl, by decide +kernel, by decide +kernel⟩
abbrev s_check_moment : Stmt := top 28
abbrev N_check_moment : List Str := ["mixer", "samples"]
theorem sc_check_moment : FnScope N_check_moment ["mixer", "samples"] (defScope s_check_moment) := ⟨rfl, rfl, rfl, by decide +kernel, rfl, by decide +kernel, by decide +kernel⟩
abbrev s_check_moment_within : Stmt := top 29
abbrev N_check_moment_within : List Str := ["mixer", "depth", "samples"]
theorem sc_check_moment_within : FnScope N_check_moment_within ["mixer", "depth", "samples"] (defScope s_check_moment_within) := ⟨rfl, rfl, rfl, by decide +kernel, rfl, by decide +kernel, by decide +kernel⟩
abbrev s_summed : Stmt := top 30
abbrev N_summed : List Str := ["weights", "numbers", "weight", "number"]
theorem sc_summed : FnScope N_summed ["weights", "numbers"] (defScope s_summed) := ⟨rfl, rfl, rfl, by decide +kernel, rfl, by decide +kernel, by decide +kernel⟩
abbrev s_stepped : Stmt := top 31
abbrev N_stepped : List Str := ["row", "numbers", "way", "found"]
theorem sc_stepped : FnScope N_stepped ["row", "numbers", "way"] (defScope s_stepped) := ⟨rfl, rfl, rfl, by decide +kernel, rfl, by decide +kernel, by decide +kernel⟩
abbrev s_played : Stmt := top 32
abbrev N_played : List Str := ["rows", "numbers", "found", "row"]
theorem sc_played : FnScope N_played ["rows", "numbers"] (defScope s_played) := ⟨rfl, rfl, rfl, by decide +kernel, rfl, by decide +kernel, by decide +kernel⟩
abbrev s_mixed : Stmt := top 33
abbrev N_mixed : List Str := ["mixer", "samples"]
theorem sc_mixed : FnScope N_mixed ["mixer", "samples"] (defScope s_mixed) := ⟨rfl, rfl, rfl, by decide +kernel, rfl, by decide +kernel, by decide +kernel⟩
abbrev s_mixed_within : Stmt := top 34
abbrev N_mixed_within : List Str := ["mixer", "depth", "samples", "found", "row", "number"]
theorem sc_mixed_within : FnScope N_mixed_within ["mixer", "depth", "samples"] (defScope s_mixed_within) := ⟨rfl, rfl, rfl, by decide +kernel, rfl, by decide +kernel, by decide +kernel⟩
abbrev s_shifts_of : Stmt := top 35
abbrev N_shifts_of : List Str := ["rows", "row"]
theorem sc_shifts_of : FnScope N_shifts_of ["rows"] (defScope s_shifts_of) := ⟨rfl, rfl, rfl, by decide +kernel, rfl, by decide +kernel, by decide +kernel⟩
abbrev s_numbers_of : Stmt := top 36
abbrev N_numbers_of : List Str := ["rows", "wide", "found", "row", "one", "more", "other", "at", "line", "number"]
theorem sc_numbers_of : FnScope N_numbers_of ["rows", "wide"] (defScope s_numbers_of) := ⟨rfl, rfl, rfl, by decide +kernel, rfl, by decide +kernel, by decide +kernel⟩
abbrev s_every_rest : Stmt := top 38
abbrev N_every_rest : List Str := ["wide", "bits", "found", "turn", "row", "number"]
theorem sc_every_rest : FnScope N_every_rest ["wide", "bits"] (defScope s_every_rest) := ⟨rfl, rfl, rfl, by decide +kernel, rfl, by decide +kernel, by decide +kernel⟩
abbrev s_widened : Stmt := top 39
abbrev N_widened : List Str := ["end", "number", "row", "least", "low", "greatest", "high"]
theorem sc_widened : FnScope N_widened ["end", "number", "row"] (defScope s_widened) := ⟨rfl, rfl, rfl, by decide +kernel, rfl, by decide +kernel, by decide +kernel⟩
abbrev s_span_of : Stmt := top 40
abbrev N_span_of : List Str := ["box", "rest", "bits", "many", "first", "last"]
theorem sc_span_of : FnScope N_span_of ["box", "rest", "bits"] (defScope s_span_of) := ⟨rfl, rfl, rfl, by decide +kernel, rfl, by decide +kernel, by decide +kernel⟩
abbrev s_spans_of : Stmt := top 41
abbrev N_spans_of : List Str := ["boxes", "rests", "bits", "found", "box", "rest"]
theorem sc_spans_of : FnScope N_spans_of ["boxes", "rests", "bits"] (defScope s_spans_of) := ⟨rfl, rfl, rfl, by decide +kernel, rfl, by decide +kernel, by decide +kernel⟩
abbrev s_end_of : Stmt := top 42
abbrev N_end_of : List Str := ["rows", "boxes", "at", "line", "rests", "wide", "bits", "end", "spans", "low", "high", "span", "number"]
theorem sc_end_of : FnScope N_end_of ["rows", "boxes", "at"] (defScope s_end_of) := ⟨rfl, rfl, rfl, by decide +kernel, rfl, by decide +kernel, by decide +kernel⟩
abbrev s_box_of : Stmt := top 43
abbrev N_box_of : List Str := ["depth"]
theorem sc_box_of : FnScope N_box_of ["depth"] (defScope s_box_of) := ⟨rfl, rfl, rfl, by decide +kernel, rfl, by decide +kernel, by decide +kernel⟩
abbrev s_depth_of : Stmt := top 44
abbrev N_depth_of : List Str := ["end", "low", "high", "number"]
theorem sc_depth_of : FnScope N_depth_of ["end"] (defScope s_depth_of) := ⟨rfl, rfl, rfl, by decide +kernel, rfl, by decide +kernel, by decide +kernel⟩
abbrev s_enough : Stmt := top 45
abbrev N_enough : List Str := ["mixer", "depth", "boxes", "at"]
theorem sc_enough : FnScope N_enough ["mixer", "depth"] (defScope s_enough) := ⟨rfl, rfl, rfl, by decide +kernel, rfl, by decide +kernel, by decide +kernel⟩
abbrev s_on_the_way : Stmt := top 46
abbrev N_on_the_way : List Str := ["mixer", "depth", "boxes", "most", "many", "row", "at"]
theorem sc_on_the_way : FnScope N_on_the_way ["mixer", "depth"] (defScope s_on_the_way) := ⟨rfl, rfl, rfl, by decide +kernel, rfl, by decide +kernel, by decide +kernel⟩
abbrev s_law_purse : Stmt := top 48
abbrev N_law_purse : List Str := ["_law_script", "_law_at", "_law_cell"]
theorem sc_law_purse : FnScope N_law_purse ["_law_script", "_law_at"] (defScope s_law_purse) := ⟨rfl, rfl, rfl, by decide +kernel, rfl, by decide +kernel, by decide +kernel⟩
abbrev s_law_draw : Stmt := top 49
abbrev N_law_draw : List Str := ["_law_purse_here", "_law_many", "_law_number", "_law_digit"]
theorem sc_law_draw : FnScope N_law_draw ["_law_purse_here", "_law_many"] (defScope s_law_draw) := ⟨rfl, rfl, rfl, by decide +kernel, rfl, by decide +kernel, by decide +kernel⟩
abbrev s_law_part : Stmt := top 50
abbrev N_law_part : List Str := ["_law_over", "_law_under", "_law_one", "_law_other"]
theorem sc_law_part : FnScope N_law_part ["_law_over", "_law_under"] (defScope s_law_part) := ⟨rfl, rfl, rfl, by decide +kernel, rfl, by decide +kernel, by decide +kernel⟩
abbrev s_law_plus : Stmt := top 51
abbrev N_law_plus : List Str := ["_law_one", "_law_other"]
theorem sc_law_plus : FnScope N_law_plus ["_law_one", "_law_other"] (defScope s_law_plus) := ⟨rfl, rfl, rfl, by decide +kernel, rfl, by decide +kernel, by decide +kernel⟩
abbrev s_law_times : Stmt := top 52
abbrev N_law_times : List Str := ["_law_one", "_law_other"]
theorem sc_law_times : FnScope N_law_times ["_law_one", "_law_other"] (defScope s_law_times) := ⟨rfl, rfl, rfl, by decide +kernel, rfl, by decide +kernel, by decide +kernel⟩
abbrev s_law_weight : Stmt := top 53
abbrev N_law_weight : List Str := ["_law_purse_here", "_law_small"]
theorem sc_law_weight : FnScope N_law_weight ["_law_purse_here"] (defScope s_law_weight) := ⟨rfl, rfl, rfl, by decide +kernel, rfl, by decide +kernel, by decide +kernel⟩
abbrev s_law_lift : Stmt := top 54
abbrev N_law_lift : List Str := ["_law_purse_here", "_law_broad", "_law_most", "_law_weights", "_law_to", "_law_shift", "_law_way"]
theorem sc_law_lift : FnScope N_law_lift ["_law_purse_here", "_law_broad", "_law_most"] (defScope s_law_lift) := ⟨rfl, rfl, rfl, by decide +kernel, rfl, by decide +kernel, by decide +kernel⟩
abbrev s_law_steps : Stmt := top 55
abbrev N_law_steps : List Str := ["_law_purse_here", "_law_broad", "_law_many", "_law_bits_here", "_law_turn", "_law_found", "_law_left", "_law_way", "_law_step"]
theorem sc_law_steps : FnScope N_law_steps ["_law_purse_here", "_law_broad", "_law_many", "_law_bits_here"] (defScope s_law_steps) := ⟨rfl, rfl, rfl, by decide +kernel, rfl, by decide +kernel, by decide +kernel⟩
abbrev s_law_copied : Stmt := top 56
abbrev N_law_copied : List Str := ["_law_steps_here", "_law_step"]
theorem sc_law_copied : FnScope N_law_copied ["_law_steps_here"] (defScope s_law_copied) := ⟨rfl, rfl, rfl, by decide +kernel, rfl, by decide +kernel, by decide +kernel⟩
abbrev s_law_stepped : Stmt := top 57
abbrev N_law_stepped : List Str := ["_law_step", "_law_row", "_law_way", "_law_found", "_law_total", "_law_at"]
theorem sc_law_stepped : FnScope N_law_stepped ["_law_step", "_law_row", "_law_way"] (defScope s_law_stepped) := ⟨rfl, rfl, rfl, by decide +kernel, rfl, by decide +kernel, by decide +kernel⟩
abbrev s_law_played : Stmt := top 58
abbrev N_law_played : List Str := ["_law_steps_here", "_law_row", "_law_found", "_law_step"]
theorem sc_law_played : FnScope N_law_played ["_law_steps_here", "_law_row"] (defScope s_law_played) := ⟨rfl, rfl, rfl, by decide +kernel, rfl, by decide +kernel, by decide +kernel⟩
abbrev s_law_bits : Stmt := top 59
abbrev N_law_bits : List Str := ["_law_steps_here", "_law_step"]
theorem sc_law_bits : FnScope N_law_bits ["_law_steps_here"] (defScope s_law_bits) := ⟨rfl, rfl, rfl, by decide +kernel, rfl, by decide +kernel, by decide +kernel⟩
abbrev s_law_matrix : Stmt := top 60
abbrev N_law_matrix : List Str := ["_law_steps_here", "_law_broad", "_law_found", "_law_step", "_law_one", "_law_line", "_law_at", "_law_other", "_law_weight_here", "_law_k"]
theorem sc_law_matrix : FnScope N_law_matrix ["_law_steps_here", "_law_broad"] (defScope s_law_matrix) := ⟨rfl, rfl, rfl, by decide +kernel, rfl, by decide +kernel, by decide +kernel⟩
abbrev s_law_lists : Stmt := top 61
abbrev N_law_lists : List Str := ["_law_broad", "_law_low", "_law_high", "_law_found", "_law_turn", "_law_longer", "_law_row", "_law_number"]
theorem sc_law_lists : FnScope N_law_lists ["_law_broad", "_law_low", "_law_high"] (defScope s_law_lists) := ⟨rfl, rfl, rfl, by decide +kernel, rfl, by decide +kernel, by decide +kernel⟩
abbrev s_law_whole : Stmt := top 62
abbrev N_law_whole : List Str := ["_law_value"]
theorem sc_law_whole : FnScope N_law_whole ["_law_value"] (defScope s_law_whole) := ⟨rfl, rfl, rfl, by decide +kernel, rfl, by decide +kernel, by decide +kernel⟩
abbrev s_law_numbers_right : Stmt := top 63
abbrev N_law_numbers_right : List Str := ["_law_row", "_law_broad", "_law_one"]
theorem sc_law_numbers_right : FnScope N_law_numbers_right ["_law_row", "_law_broad"] (defScope s_law_numbers_right) := ⟨rfl, rfl, rfl, by decide +kernel, rfl, by decide +kernel, by decide +kernel⟩
abbrev s_law_depth : Stmt := top 64
abbrev N_law_depth : List Str := ["_law_low", "_law_high", "_law_depth_here"]
theorem sc_law_depth : FnScope N_law_depth ["_law_low", "_law_high"] (defScope s_law_depth) := ⟨rfl, rfl, rfl, by decide +kernel, rfl, by decide +kernel, by decide +kernel⟩
abbrev s_law_all_ends : Stmt := top 65
abbrev N_law_all_ends : List Str := ["_law_steps_here", "_law_broad", "_law_depth_here", "_law_bits_here", "_law_low", "_law_at", "_law_found", "_law_many", "_law_lines", "_law_ends", "_law_k", "_law_least", "_law_greatest", "_law_step", "_law_row"]
theorem sc_law_all_ends : FnScope N_law_all_ends ["_law_steps_here", "_law_broad", "_law_depth_here"] (defScope s_law_all_ends) := ⟨rfl, rfl, rfl, by decide +kernel, rfl, by decide +kernel, by decide +kernel⟩
abbrev s_law_wide : Stmt := top 66
abbrev N_law_wide : List Str := ["_law_steps_here", "_law_broad", "_law_depth_here", "_law_low", "_law_high"]
theorem sc_law_wide : FnScope N_law_wide ["_law_steps_here", "_law_broad", "_law_depth_here"] (defScope s_law_wide) := ⟨rfl, rfl, rfl, by decide +kernel, rfl, by decide +kernel, by decide +kernel⟩
abbrev s_law_way_due : Stmt := top 67
abbrev N_law_way_due : List Str := ["_law_steps_here", "_law_wide_here", "_law_depth_here", "_law_many"]
theorem sc_law_way_due : FnScope N_law_way_due ["_law_steps_here", "_law_wide_here", "_law_depth_here"] (defScope s_law_way_due) := ⟨rfl, rfl, rfl, by decide +kernel, rfl, by decide +kernel, by decide +kernel⟩
abbrev s_law_right : Stmt := top 68
abbrev N_law_right : List Str := ["_law_purse_here", "_law_mixer", "_law_steps_here", "_law_wide_here", "_law_depth_here", "_law_way", "_law_half", "_law_turn", "_law_due", "_law_told", "_law_row", "_law_out", "_law_spot", "_law_one", "_law_at"]
theorem sc_law_right : FnScope N_law_right ["_law_purse_here", "_law_mixer", "_law_steps_here", "_law_wide_here", "_law_depth_here"] (defScope s_law_right) := ⟨rfl, rfl, rfl, by decide +kernel, rfl, by decide +kernel, by decide +kernel⟩
abbrev s_law : Stmt := top 69
abbrev N_law : List Str := ["_law_script", "_law_at", "_law_side", "_law_back", "_law_purse_here", "_law_wide_here", "_law_steps_here", "_law_mixer", "_law_depth_here", "_law_k"]
theorem sc_law : FnScope N_law ["_law_script"] (defScope s_law) := ⟨rfl, rfl, rfl, by decide +kernel, rfl, by decide +kernel, by decide +kernel⟩
abbrev s_Mixer___init__ : Stmt := inClass (top 26) 0
abbrev N_Mixer___init__ : List Str := ["self", "wide", "steps", "item"]
theorem sc_Mixer___init__ : FnScope N_Mixer___init__ ["self", "wide", "steps"] (defScope s_Mixer___init__) := ⟨rfl, rfl, rfl, by decide +kernel, rfl, by decide +kernel, by decide +kernel⟩
abbrev s_Mixer_wide : Stmt := inClass (top 26) 1
abbrev N_Mixer_wide : List Str := ["self"]
theorem sc_Mixer_wide : FnScope N_Mixer_wide ["self"] (defScope s_Mixer_wide) := ⟨rfl, rfl, rfl, by decide +kernel, rfl, by decide +kernel, by decide +kernel⟩
abbrev s_Mixer_steps : Stmt := inClass (top 26) 2
abbrev N_Mixer_steps : List Str := ["self", "row"]
theorem sc_Mixer_steps : FnScope N_Mixer_steps ["self"] (defScope s_Mixer_steps) := ⟨rfl, rfl, rfl, by decide +kernel, rfl, by decide +kernel, by decide +kernel⟩
abbrev s_Mixer___eq__ : Stmt := inClass (top 26) 3
abbrev N_Mixer___eq__ : List Str := ["self", "other"]
theorem sc_Mixer___eq__ : FnScope N_Mixer___eq__ ["self", "other"] (defScope s_Mixer___eq__) := ⟨rfl, rfl, rfl, by decide +kernel, rfl, by decide +kernel, by decide +kernel⟩
/-- what the top has left -/
structure Top (K : PySem.W.Frag) (mg : Str → Option Value) where
  C_Mixer : Addr
  gc_Mixer : mg "Mixer" = some (.ref C_Mixer)
  cl_Mixer : Cls K C_Mixer
  ic_Mixer : C8.InsC K C_Mixer
  f_Mixer___eq__ : Addr
  ec_Mixer : EqC K C_Mixer f_Mixer___eq__
  na_Mixer_many : NoAttr K C_Mixer "many"
  na_Mixer_rows : NoAttr K C_Mixer "rows"
  f_is_whole : Addr
  fd_is_whole : FuncData
  F_is_whole : FunD K "is_whole" "is_whole" (defArgs s_is_whole) (defBody s_is_whole) (defScope s_is_whole) [] [] f_is_whole fd_is_whole
  b_is_whole : Binds K fd_is_whole ["value"] []
  g_is_whole : mg "is_whole" = some (.ref f_is_whole)
  f_is_between : Addr
  fd_is_between : FuncData
  F_is_between : FunD K "is_between" "is_between" (defArgs s_is_between) (defBody s_is_between) (defScope s_is_between) [] [] f_is_between fd_is_between
  b_is_between : Binds K fd_is_between ["value", "low", "high"] []
  g_is_between : mg "is_between" = some (.ref f_is_between)
  f_are_wholes : Addr
  fd_are_wholes : FuncData
  F_are_wholes : FunD K "are_wholes" "are_wholes" (defArgs s_are_wholes) (defBody s_are_wholes) (defScope s_are_wholes) [] [] f_are_wholes fd_are_wholes
  b_are_wholes : Binds K fd_are_wholes ["value"] []
  g_are_wholes : mg "are_wholes" = some (.ref f_are_wholes)
  f_check_depth : Addr
  fd_check_depth : FuncData
  F_check_depth : FunD K "check_depth" "check_depth" (defArgs s_check_depth) (defBody s_check_depth) (defScope s_check_depth) [.int 24] [] f_check_depth fd_check_depth
  b_check_depth : Binds K fd_check_depth ["depth", "most"] []
  g_check_depth : mg "check_depth" = some (.ref f_check_depth)
  e0_check_depth : List Value
  v0_check_depth : Vals [.int 24] e0_check_depth
  b0_check_depth : Binds K fd_check_depth ["depth", "most"] e0_check_depth
  f_check_number : Addr
  fd_check_number : FuncData
  F_check_number : FunD K "check_number" "check_number" (defArgs s_check_number) (defBody s_check_number) (defScope s_check_number) [] [] f_check_number fd_check_number
  b_check_number : Binds K fd_check_number ["number", "low", "high"] []
  g_check_number : mg "check_number" = some (.ref f_check_number)
  f_is_sample : Addr
  fd_is_sample : FuncData
  F_is_sample : FunD K "is_sample" "is_sample" (defArgs s_is_sample) (defBody s_is_sample) (defScope s_is_sample) [] [] f_is_sample fd_is_sample
  b_is_sample : Binds K fd_is_sample ["value", "depth"] []
  g_is_sample : mg "is_sample" = some (.ref f_is_sample)
  f_are_samples : Addr
  fd_are_samples : FuncData
  F_are_samples : FunD K "are_samples" "are_samples" (defArgs s_are_samples) (defBody s_are_samples) (defScope s_are_samples) [] [] f_are_samples fd_are_samples
  b_are_samples : Binds K fd_are_samples ["value", "depth"] []
  g_are_samples : mg "are_samples" = some (.ref f_are_samples)
  f_wrapped : Addr
  fd_wrapped : FuncData
  F_wrapped : FunD K "wrapped" "wrapped" (defArgs s_wrapped) (defBody s_wrapped) (defScope s_wrapped) [] [] f_wrapped fd_wrapped
  b_wrapped : Binds K fd_wrapped ["number", "depth"] []
  g_wrapped : mg "wrapped" = some (.ref f_wrapped)
  f_is_lift : Addr
  fd_is_lift : FuncData
  F_is_lift : FunD K "is_lift" "is_lift" (defArgs s_is_lift) (defBody s_is_lift) (defScope s_is_lift) [] [] f_is_lift fd_is_lift
  b_is_lift : Binds K fd_is_lift ["value", "wide"] []
  g_is_lift : mg "is_lift" = some (.ref f_is_lift)
  f_is_step : Addr
  fd_is_step : FuncData
  F_is_step : FunD K "is_step" "is_step" (defArgs s_is_step) (defBody s_is_step) (defScope s_is_step) [] [] f_is_step fd_is_step
  b_is_step : Binds K fd_is_step ["value", "wide"] []
  g_is_step : mg "is_step" = some (.ref f_is_step)
  f_closed : Addr
  fd_closed : FuncData
  F_closed : FunD K "closed" "closed" (defArgs s_closed) (defBody s_closed) (defScope s_closed) [] [] f_closed fd_closed
  b_closed : Binds K fd_closed ["step"] []
  g_closed : mg "closed" = some (.ref f_closed)
  f_opened : Addr
  fd_opened : FuncData
  F_opened : FunD K "opened" "opened" (defArgs s_opened) (defBody s_opened) (defScope s_opened) [] [] f_opened fd_opened
  b_opened : Binds K fd_opened ["row"] []
  g_opened : mg "opened" = some (.ref f_opened)
  f_check_mixer : Addr
  fd_check_mixer : FuncData
  F_check_mixer : FunD K "check_mixer" "check_mixer" (defArgs s_check_mixer) (defBody s_check_mixer) (defScope s_check_mixer) [] [] f_check_mixer fd_check_mixer
  b_check_mixer : Binds K fd_check_mixer ["mixer"] []
  g_check_mixer : mg "check_mixer" = some (.ref f_check_mixer)
  f_check_moment : Addr
  fd_check_moment : FuncData
  F_check_moment : FunD K "check_moment" "check_moment" (defArgs s_check_moment) (defBody s_check_moment) (defScope s_check_moment) [] [] f_check_moment fd_check_moment
  b_check_moment : Binds K fd_check_moment ["mixer", "samples"] []
  g_check_moment : mg "check_moment" = some (.ref f_check_moment)
  f_check_moment_within : Addr
  fd_check_moment_within : FuncData
  F_check_moment_within : FunD K "check_moment_within" "check_moment_within" (defArgs s_check_moment_within) (defBody s_check_moment_within) (defScope s_check_moment_within) [] [] f_check_moment_within fd_check_moment_within
  b_check_moment_within : Binds K fd_check_moment_within ["mixer", "depth", "samples"] []
  g_check_moment_within : mg "check_moment_within" = some (.ref f_check_moment_within)
  f_summed : Addr
  fd_summed : FuncData
  F_summed : FunD K "summed" "summed" (defArgs s_summed) (defBody s_summed) (defScope s_summed) [] [] f_summed fd_summed
  b_summed : Binds K fd_summed ["weights", "numbers"] []
  g_summed : mg "summed" = some (.ref f_summed)
  f_stepped : Addr
  fd_stepped : FuncData
  F_stepped : FunD K "stepped" "stepped" (defArgs s_stepped) (defBody s_stepped) (defScope s_stepped) [.int 1] [] f_stepped fd_stepped
  b_stepped : Binds K fd_stepped ["row", "numbers", "way"] []
  g_stepped : mg "stepped" = some (.ref f_stepped)
  e0_stepped : List Value
  v0_stepped : Vals [.int 1] e0_stepped
  b0_stepped : Binds K fd_stepped ["row", "numbers", "way"] e0_stepped
  f_played : Addr
  fd_played : FuncData
  F_played : FunD K "played" "played" (defArgs s_played) (defBody s_played) (defScope s_played) [] [] f_played fd_played
  b_played : Binds K fd_played ["rows", "numbers"] []
  g_played : mg "played" = some (.ref f_played)
  f_mixed : Addr
  fd_mixed : FuncData
  F_mixed : FunD K "mixed" "mixed" (defArgs s_mixed) (defBody s_mixed) (defScope s_mixed) [] [] f_mixed fd_mixed
  b_mixed : Binds K fd_mixed ["mixer", "samples"] []
  g_mixed : mg "mixed" = some (.ref f_mixed)
  f_mixed_within : Addr
  fd_mixed_within : FuncData
  F_mixed_within : FunD K "mixed_within" "mixed_within" (defArgs s_mixed_within) (defBody s_mixed_within) (defScope s_mixed_within) [] [] f_mixed_within fd_mixed_within
  b_mixed_within : Binds K fd_mixed_within ["mixer", "depth", "samples"] []
  g_mixed_within : mg "mixed_within" = some (.ref f_mixed_within)
  f_shifts_of : Addr
  fd_shifts_of : FuncData
  F_shifts_of : FunD K "shifts_of" "shifts_of" (defArgs s_shifts_of) (defBody s_shifts_of) (defScope s_shifts_of) [] [] f_shifts_of fd_shifts_of
  b_shifts_of : Binds K fd_shifts_of ["rows"] []
  g_shifts_of : mg "shifts_of" = some (.ref f_shifts_of)
  f_numbers_of : Addr
  fd_numbers_of : FuncData
  F_numbers_of : FunD K "numbers_of" "numbers_of" (defArgs s_numbers_of) (defBody s_numbers_of) (defScope s_numbers_of) [] [] f_numbers_of fd_numbers_of
  b_numbers_of : Binds K fd_numbers_of ["rows", "wide"] []
  g_numbers_of : mg "numbers_of" = some (.ref f_numbers_of)
  f_every_rest : Addr
  fd_every_rest : FuncData
  F_every_rest : FunD K "every_rest" "every_rest" (defArgs s_every_rest) (defBody s_every_rest) (defScope s_every_rest) [] [] f_every_rest fd_every_rest
  b_every_rest : Binds K fd_every_rest ["wide", "bits"] []
  g_every_rest : mg "every_rest" = some (.ref f_every_rest)
  f_widened : Addr
  fd_widened : FuncData
  F_widened : FunD K "widened" "widened" (defArgs s_widened) (defBody s_widened) (defScope s_widened) [] [] f_widened fd_widened
  b_widened : Binds K fd_widened ["end", "number", "row"] []
  g_widened : mg "widened" = some (.ref f_widened)
  f_span_of : Addr
  fd_span_of : FuncData
  F_span_of : FunD K "span_of" "span_of" (defArgs s_span_of) (defBody s_span_of) (defScope s_span_of) [] [] f_span_of fd_span_of
  b_span_of : Binds K fd_span_of ["box", "rest", "bits"] []
  g_span_of : mg "span_of" = some (.ref f_span_of)
  f_spans_of : Addr
  fd_spans_of : FuncData
  F_spans_of : FunD K "spans_of" "spans_of" (defArgs s_spans_of) (defBody s_spans_of) (defScope s_spans_of) [] [] f_spans_of fd_spans_of
  b_spans_of : Binds K fd_spans_of ["boxes", "rests", "bits"] []
  g_spans_of : mg "spans_of" = some (.ref f_spans_of)
  f_end_of : Addr
  fd_end_of : FuncData
  F_end_of : FunD K "end_of" "end_of" (defArgs s_end_of) (defBody s_end_of) (defScope s_end_of) [] [] f_end_of fd_end_of
  b_end_of : Binds K fd_end_of ["rows", "boxes", "at"] []
  g_end_of : mg "end_of" = some (.ref f_end_of)
  f_box_of : Addr
  fd_box_of : FuncData
  F_box_of : FunD K "box_of" "box_of" (defArgs s_box_of) (defBody s_box_of) (defScope s_box_of) [] [] f_box_of fd_box_of
  b_box_of : Binds K fd_box_of ["depth"] []
  g_box_of : mg "box_of" = some (.ref f_box_of)
  f_depth_of : Addr
  fd_depth_of : FuncData
  F_depth_of : FunD K "depth_of" "depth_of" (defArgs s_depth_of) (defBody s_depth_of) (defScope s_depth_of) [] [] f_depth_of fd_depth_of
  b_depth_of : Binds K fd_depth_of ["end"] []
  g_depth_of : mg "depth_of" = some (.ref f_depth_of)
  f_enough : Addr
  fd_enough : FuncData
  F_enough : FunD K "enough" "enough" (defArgs s_enough) (defBody s_enough) (defScope s_enough) [] [] f_enough fd_enough
  b_enough : Binds K fd_enough ["mixer", "depth"] []
  g_enough : mg "enough" = some (.ref f_enough)
  f_on_the_way : Addr
  fd_on_the_way : FuncData
  F_on_the_way : FunD K "on_the_way" "on_the_way" (defArgs s_on_the_way) (defBody s_on_the_way) (defScope s_on_the_way) [] [] f_on_the_way fd_on_the_way
  b_on_the_way : Binds K fd_on_the_way ["mixer", "depth"] []
  g_on_the_way : mg "on_the_way" = some (.ref f_on_the_way)
  f_law_purse : Addr
  fd_law_purse : FuncData
  F_law_purse : FunD K "_law_purse" "_law_purse" (defArgs s_law_purse) (defBody s_law_purse) (defScope s_law_purse) [] [] f_law_purse fd_law_purse
  b_law_purse : Binds K fd_law_purse ["_law_script", "_law_at"] []
  g_law_purse : mg "_law_purse" = some (.ref f_law_purse)
  f_law_draw : Addr
  fd_law_draw : FuncData
  F_law_draw : FunD K "_law_draw" "_law_draw" (defArgs s_law_draw) (defBody s_law_draw) (defScope s_law_draw) [] [] f_law_draw fd_law_draw
  b_law_draw : Binds K fd_law_draw ["_law_purse_here", "_law_many"] []
  g_law_draw : mg "_law_draw" = some (.ref f_law_draw)
  f_law_part : Addr
  fd_law_part : FuncData
  F_law_part : FunD K "_law_part" "_law_part" (defArgs s_law_part) (defBody s_law_part) (defScope s_law_part) [] [] f_law_part fd_law_part
  b_law_part : Binds K fd_law_part ["_law_over", "_law_under"] []
  g_law_part : mg "_law_part" = some (.ref f_law_part)
  f_law_plus : Addr
  fd_law_plus : FuncData
  F_law_plus : FunD K "_law_plus" "_law_plus" (defArgs s_law_plus) (defBody s_law_plus) (defScope s_law_plus) [] [] f_law_plus fd_law_plus
  b_law_plus : Binds K fd_law_plus ["_law_one", "_law_other"] []
  g_law_plus : mg "_law_plus" = some (.ref f_law_plus)
  f_law_times : Addr
  fd_law_times : FuncData
  F_law_times : FunD K "_law_times" "_law_times" (defArgs s_law_times) (defBody s_law_times) (defScope s_law_times) [] [] f_law_times fd_law_times
  b_law_times : Binds K fd_law_times ["_law_one", "_law_other"] []
  g_law_times : mg "_law_times" = some (.ref f_law_times)
  f_law_weight : Addr
  fd_law_weight : FuncData
  F_law_weight : FunD K "_law_weight" "_law_weight" (defArgs s_law_weight) (defBody s_law_weight) (defScope s_law_weight) [] [] f_law_weight fd_law_weight
  b_law_weight : Binds K fd_law_weight ["_law_purse_here"] []
  g_law_weight : mg "_law_weight" = some (.ref f_law_weight)
  f_law_lift : Addr
  fd_law_lift : FuncData
  F_law_lift : FunD K "_law_lift" "_law_lift" (defArgs s_law_lift) (defBody s_law_lift) (defScope s_law_lift) [] [] f_law_lift fd_law_lift
  b_law_lift : Binds K fd_law_lift ["_law_purse_here", "_law_broad", "_law_most"] []
  g_law_lift : mg "_law_lift" = some (.ref f_law_lift)
  f_law_steps : Addr
  fd_law_steps : FuncData
  F_law_steps : FunD K "_law_steps" "_law_steps" (defArgs s_law_steps) (defBody s_law_steps) (defScope s_law_steps) [] [] f_law_steps fd_law_steps
  b_law_steps : Binds K fd_law_steps ["_law_purse_here", "_law_broad", "_law_many", "_law_bits_here"] []
  g_law_steps : mg "_law_steps" = some (.ref f_law_steps)
  f_law_copied : Addr
  fd_law_copied : FuncData
  F_law_copied : FunD K "_law_copied" "_law_copied" (defArgs s_law_copied) (defBody s_law_copied) (defScope s_law_copied) [] [] f_law_copied fd_law_copied
  b_law_copied : Binds K fd_law_copied ["_law_steps_here"] []
  g_law_copied : mg "_law_copied" = some (.ref f_law_copied)
  f_law_stepped : Addr
  fd_law_stepped : FuncData
  F_law_stepped : FunD K "_law_stepped" "_law_stepped" (defArgs s_law_stepped) (defBody s_law_stepped) (defScope s_law_stepped) [] [] f_law_stepped fd_law_stepped
  b_law_stepped : Binds K fd_law_stepped ["_law_step", "_law_row", "_law_way"] []
  g_law_stepped : mg "_law_stepped" = some (.ref f_law_stepped)
  f_law_played : Addr
  fd_law_played : FuncData
  F_law_played : FunD K "_law_played" "_law_played" (defArgs s_law_played) (defBody s_law_played) (defScope s_law_played) [] [] f_law_played fd_law_played
  b_law_played : Binds K fd_law_played ["_law_steps_here", "_law_row"] []
  g_law_played : mg "_law_played" = some (.ref f_law_played)
  f_law_bits : Addr
  fd_law_bits : FuncData
  F_law_bits : FunD K "_law_bits" "_law_bits" (defArgs s_law_bits) (defBody s_law_bits) (defScope s_law_bits) [] [] f_law_bits fd_law_bits
  b_law_bits : Binds K fd_law_bits ["_law_steps_here"] []
  g_law_bits : mg "_law_bits" = some (.ref f_law_bits)
  f_law_matrix : Addr
  fd_law_matrix : FuncData
  F_law_matrix : FunD K "_law_matrix" "_law_matrix" (defArgs s_law_matrix) (defBody s_law_matrix) (defScope s_law_matrix) [] [] f_law_matrix fd_law_matrix
  b_law_matrix : Binds K fd_law_matrix ["_law_steps_here", "_law_broad"] []
  g_law_matrix : mg "_law_matrix" = some (.ref f_law_matrix)
  f_law_lists : Addr
  fd_law_lists : FuncData
  F_law_lists : FunD K "_law_lists" "_law_lists" (defArgs s_law_lists) (defBody s_law_lists) (defScope s_law_lists) [] [] f_law_lists fd_law_lists
  b_law_lists : Binds K fd_law_lists ["_law_broad", "_law_low", "_law_high"] []
  g_law_lists : mg "_law_lists" = some (.ref f_law_lists)
  f_law_whole : Addr
  fd_law_whole : FuncData
  F_law_whole : FunD K "_law_whole" "_law_whole" (defArgs s_law_whole) (defBody s_law_whole) (defScope s_law_whole) [] [] f_law_whole fd_law_whole
  b_law_whole : Binds K fd_law_whole ["_law_value"] []
  g_law_whole : mg "_law_whole" = some (.ref f_law_whole)
  f_law_numbers_right : Addr
  fd_law_numbers_right : FuncData
  F_law_numbers_right : FunD K "_law_numbers_right" "_law_numbers_right" (defArgs s_law_numbers_right) (defBody s_law_numbers_right) (defScope s_law_numbers_right) [] [] f_law_numbers_right fd_law_numbers_right
  b_law_numbers_right : Binds K fd_law_numbers_right ["_law_row", "_law_broad"] []
  g_law_numbers_right : mg "_law_numbers_right" = some (.ref f_law_numbers_right)
  f_law_depth : Addr
  fd_law_depth : FuncData
  F_law_depth : FunD K "_law_depth" "_law_depth" (defArgs s_law_depth) (defBody s_law_depth) (defScope s_law_depth) [] [] f_law_depth fd_law_depth
  b_law_depth : Binds K fd_law_depth ["_law_low", "_law_high"] []
  g_law_depth : mg "_law_depth" = some (.ref f_law_depth)
  f_law_all_ends : Addr
  fd_law_all_ends : FuncData
  F_law_all_ends : FunD K "_law_all_ends" "_law_all_ends" (defArgs s_law_all_ends) (defBody s_law_all_ends) (defScope s_law_all_ends) [] [] f_law_all_ends fd_law_all_ends
  b_law_all_ends : Binds K fd_law_all_ends ["_law_steps_here", "_law_broad", "_law_depth_here"] []
  g_law_all_ends : mg "_law_all_ends" = some (.ref f_law_all_ends)
  f_law_wide : Addr
  fd_law_wide : FuncData
  F_law_wide : FunD K "_law_wide" "_law_wide" (defArgs s_law_wide) (defBody s_law_wide) (defScope s_law_wide) [] [] f_law_wide fd_law_wide
  b_law_wide : Binds K fd_law_wide ["_law_steps_here", "_law_broad", "_law_depth_here"] []
  g_law_wide : mg "_law_wide" = some (.ref f_law_wide)
  f_law_way_due : Addr
  fd_law_way_due : FuncData
  F_law_way_due : FunD K "_law_way_due" "_law_way_due" (defArgs s_law_way_due) (defBody s_law_way_due) (defScope s_law_way_due) [] [] f_law_way_due fd_law_way_due
  b_law_way_due : Binds K fd_law_way_due ["_law_steps_here", "_law_wide_here", "_law_depth_here"] []
  g_law_way_due : mg "_law_way_due" = some (.ref f_law_way_due)
  f_law_right : Addr
  fd_law_right : FuncData
  F_law_right : FunD K "_law_right" "_law_right" (defArgs s_law_right) (defBody s_law_right) (defScope s_law_right) [] [] f_law_right fd_law_right
  b_law_right : Binds K fd_law_right ["_law_purse_here", "_law_mixer", "_law_steps_here", "_law_wide_here", "_law_depth_here"] []
  g_law_right : mg "_law_right" = some (.ref f_law_right)
  f_law : Addr
  fd_law : FuncData
  F_law : FunD K "law" "law" (defArgs s_law) (defBody s_law) (defScope s_law) [] [] f_law fd_law
  b_law : Binds K fd_law ["_law_script"] []
  g_law : mg "law" = some (.ref f_law)
  f_Mixer___init__ : Addr
  fd_Mixer___init__ : FuncData
  F_Mixer___init__ : FunD K "__init__" "Mixer.__init__" (defArgs s_Mixer___init__) (defBody s_Mixer___init__) (defScope s_Mixer___init__) [] [] f_Mixer___init__ fd_Mixer___init__
  b_Mixer___init__ : Binds K fd_Mixer___init__ ["self", "wide", "steps"] []
  me_Mixer___init__ : Meth K C_Mixer "__init__" f_Mixer___init__
  mk_Mixer : Mk K C_Mixer f_Mixer___init__
  f_Mixer_wide : Addr
  fd_Mixer_wide : FuncData
  F_Mixer_wide : FunD K "wide" "Mixer.wide" (defArgs s_Mixer_wide) (defBody s_Mixer_wide) (defScope s_Mixer_wide) [] [] f_Mixer_wide fd_Mixer_wide
  b_Mixer_wide : Binds K fd_Mixer_wide ["self"] []
  me_Mixer_wide : Meth K C_Mixer "wide" f_Mixer_wide
  f_Mixer_steps : Addr
  fd_Mixer_steps : FuncData
  F_Mixer_steps : FunD K "steps" "Mixer.steps" (defArgs s_Mixer_steps) (defBody s_Mixer_steps) (defScope s_Mixer_steps) [] [] f_Mixer_steps fd_Mixer_steps
  b_Mixer_steps : Binds K fd_Mixer_steps ["self"] []
  me_Mixer_steps : Meth K C_Mixer "steps" f_Mixer_steps
  fd_Mixer___eq__ : FuncData
  F_Mixer___eq__ : FunD K "__eq__" "Mixer.__eq__" (defArgs s_Mixer___eq__) (defBody s_Mixer___eq__) (defScope s_Mixer___eq__) [] [] f_Mixer___eq__ fd_Mixer___eq__
  b_Mixer___eq__ : Binds K fd_Mixer___eq__ ["self", "other"] []
  me_Mixer___eq__ : Meth K C_Mixer "__eq__" f_Mixer___eq__
  n_len : mg "len" = none
  n_sum : mg "sum" = none
  n_max : mg "max" = none
  n_min : mg "min" = none
  n_int : mg "int" = none
  n_bool : mg "bool" = none
  n_list : mg "list" = none
  n_tuple : mg "tuple" = none
  n_range : mg "range" = none
  n_isinstance : mg "isinstance" = none
  n_abs : mg "abs" = none
  n_enumerate : mg "enumerate" = none
  n_zip : mg "zip" = none
  t_MOST_DEPTH_kinds : Tok
  m_MOST_DEPTH_kinds : mg "MOST_DEPTH_kinds" = some (.int 24 t_MOST_DEPTH_kinds)
  t_MOST_WAYS : Tok
  m_MOST_WAYS : mg "MOST_WAYS" = some (.int 4 t_MOST_WAYS)
  t_MOST_DEPTH_mixers : Tok
  m_MOST_DEPTH_mixers : mg "MOST_DEPTH_mixers" = some (.int 32 t_MOST_DEPTH_mixers)
def d_is_whole : He.DefD := ⟨("is_whole", none), "is_whole", "is_whole", defArgs s_is_whole, defBody s_is_whole, defScope s_is_whole, [], []⟩
def d_is_between : He.DefD := ⟨("is_between", none), "is_between", "is_between", defArgs s_is_between, defBody s_is_between, defScope s_is_between, [], []⟩
def d_are_wholes : He.DefD := ⟨("are_wholes", none), "are_wholes", "are_wholes", defArgs s_are_wholes, defBody s_are_wholes, defScope s_are_wholes, [], []⟩
def d_check_depth : He.DefD := ⟨("check_depth", none), "check_depth", "check_depth", defArgs s_check_depth, defBody s_check_depth, defScope s_check_depth, [.int 24], []⟩
def d_check_number : He.DefD := ⟨("check_number", none), "check_number", "check_number", defArgs s_check_number, defBody s_check_number, defScope s_check_number, [], []⟩
def d_is_sample : He.DefD := ⟨("is_sample", none), "is_sample", "is_sample", defArgs s_is_sample, defBody s_is_sample, defScope s_is_sample, [], []⟩
def d_are_samples : He.DefD := ⟨("are_samples", none), "are_samples", "are_samples", defArgs s_are_samples, defBody s_are_samples, defScope s_are_samples, [], []⟩
def d_wrapped : He.DefD := ⟨("wrapped", none), "wrapped", "wrapped", defArgs s_wrapped, defBody s_wrapped, defScope s_wrapped, [], []⟩
def d_is_lift : He.DefD := ⟨("is_lift", none), "is_lift", "is_lift", defArgs s_is_lift, defBody s_is_lift, defScope s_is_lift, [], []⟩
def d_is_step : He.DefD := ⟨("is_step", none), "is_step", "is_step", defArgs s_is_step, defBody s_is_step, defScope s_is_step, [], []⟩
def d_closed : He.DefD := ⟨("closed", none), "closed", "closed", defArgs s_closed, defBody s_closed, defScope s_closed, [], []⟩
def d_opened : He.DefD := ⟨("opened", none), "opened", "opened", defArgs s_opened, defBody s_opened, defScope s_opened, [], []⟩
def d_check_mixer : He.DefD := ⟨("check_mixer", none), "check_mixer", "check_mixer", defArgs s_check_mixer, defBody s_check_mixer, defScope s_check_mixer, [], []⟩
def d_check_moment : He.DefD := ⟨("check_moment", none), "check_moment", "check_moment", defArgs s_check_moment, defBody s_check_moment, defScope s_check_moment, [], []⟩
def d_check_moment_within : He.DefD := ⟨("check_moment_within", none), "check_moment_within", "check_moment_within", defArgs s_check_moment_within, defBody s_check_moment_within, defScope s_check_moment_within, [], []⟩
def d_summed : He.DefD := ⟨("summed", none), "summed", "summed", defArgs s_summed, defBody s_summed, defScope s_summed, [], []⟩
def d_stepped : He.DefD := ⟨("stepped", none), "stepped", "stepped", defArgs s_stepped, defBody s_stepped, defScope s_stepped, [.int 1], []⟩
def d_played : He.DefD := ⟨("played", none), "played", "played", defArgs s_played, defBody s_played, defScope s_played, [], []⟩
def d_mixed : He.DefD := ⟨("mixed", none), "mixed", "mixed", defArgs s_mixed, defBody s_mixed, defScope s_mixed, [], []⟩
def d_mixed_within : He.DefD := ⟨("mixed_within", none), "mixed_within", "mixed_within", defArgs s_mixed_within, defBody s_mixed_within, defScope s_mixed_within, [], []⟩
def d_shifts_of : He.DefD := ⟨("shifts_of", none), "shifts_of", "shifts_of", defArgs s_shifts_of, defBody s_shifts_of, defScope s_shifts_of, [], []⟩
def d_numbers_of : He.DefD := ⟨("numbers_of", none), "numbers_of", "numbers_of", defArgs s_numbers_of, defBody s_numbers_of, defScope s_numbers_of, [], []⟩
def d_every_rest : He.DefD := ⟨("every_rest", none), "every_rest", "every_rest", defArgs s_every_rest, defBody s_every_rest, defScope s_every_rest, [], []⟩
def d_widened : He.DefD := ⟨("widened", none), "widened", "widened", defArgs s_widened, defBody s_widened, defScope s_widened, [], []⟩
def d_span_of : He.DefD := ⟨("span_of", none), "span_of", "span_of", defArgs s_span_of, defBody s_span_of, defScope s_span_of, [], []⟩
def d_spans_of : He.DefD := ⟨("spans_of", none), "spans_of", "spans_of", defArgs s_spans_of, defBody s_spans_of, defScope s_spans_of, [], []⟩
def d_end_of : He.DefD := ⟨("end_of", none), "end_of", "end_of", defArgs s_end_of, defBody s_end_of, defScope s_end_of, [], []⟩
def d_box_of : He.DefD := ⟨("box_of", none), "box_of", "box_of", defArgs s_box_of, defBody s_box_of, defScope s_box_of, [], []⟩
def d_depth_of : He.DefD := ⟨("depth_of", none), "depth_of", "depth_of", defArgs s_depth_of, defBody s_depth_of, defScope s_depth_of, [], []⟩
def d_enough : He.DefD := ⟨("enough", none), "enough", "enough", defArgs s_enough, defBody s_enough, defScope s_enough, [], []⟩
def d_on_the_way : He.DefD := ⟨("on_the_way", none), "on_the_way", "on_the_way", defArgs s_on_the_way, defBody s_on_the_way, defScope s_on_the_way, [], []⟩
def d_law_purse : He.DefD := ⟨("_law_purse", none), "_law_purse", "_law_purse", defArgs s_law_purse, defBody s_law_purse, defScope s_law_purse, [], []⟩
def d_law_draw : He.DefD := ⟨("_law_draw", none), "_law_draw", "_law_draw", defArgs s_law_draw, defBody s_law_draw, defScope s_law_draw, [], []⟩
def d_law_part : He.DefD := ⟨("_law_part", none), "_law_part", "_law_part", defArgs s_law_part, defBody s_law_part, defScope s_law_part, [], []⟩
def d_law_plus : He.DefD := ⟨("_law_plus", none), "_law_plus", "_law_plus", defArgs s_law_plus, defBody s_law_plus, defScope s_law_plus, [], []⟩
def d_law_times : He.DefD := ⟨("_law_times", none), "_law_times", "_law_times", defArgs s_law_times, defBody s_law_times, defScope s_law_times, [], []⟩
def d_law_weight : He.DefD := ⟨("_law_weight", none), "_law_weight", "_law_weight", defArgs s_law_weight, defBody s_law_weight, defScope s_law_weight, [], []⟩
def d_law_lift : He.DefD := ⟨("_law_lift", none), "_law_lift", "_law_lift", defArgs s_law_lift, defBody s_law_lift, defScope s_law_lift, [], []⟩
def d_law_steps : He.DefD := ⟨("_law_steps", none), "_law_steps", "_law_steps", defArgs s_law_steps, defBody s_law_steps, defScope s_law_steps, [], []⟩
def d_law_copied : He.DefD := ⟨("_law_copied", none), "_law_copied", "_law_copied", defArgs s_law_copied, defBody s_law_copied, defScope s_law_copied, [], []⟩
def d_law_stepped : He.DefD := ⟨("_law_stepped", none), "_law_stepped", "_law_stepped", defArgs s_law_stepped, defBody s_law_stepped, defScope s_law_stepped, [], []⟩
def d_law_played : He.DefD := ⟨("_law_played", none), "_law_played", "_law_played", defArgs s_law_played, defBody s_law_played, defScope s_law_played, [], []⟩
def d_law_bits : He.DefD := ⟨("_law_bits", none), "_law_bits", "_law_bits", defArgs s_law_bits, defBody s_law_bits, defScope s_law_bits, [], []⟩
def d_law_matrix : He.DefD := ⟨("_law_matrix", none), "_law_matrix", "_law_matrix", defArgs s_law_matrix, defBody s_law_matrix, defScope s_law_matrix, [], []⟩
def d_law_lists : He.DefD := ⟨("_law_lists", none), "_law_lists", "_law_lists", defArgs s_law_lists, defBody s_law_lists, defScope s_law_lists, [], []⟩
def d_law_whole : He.DefD := ⟨("_law_whole", none), "_law_whole", "_law_whole", defArgs s_law_whole, defBody s_law_whole, defScope s_law_whole, [], []⟩
def d_law_numbers_right : He.DefD := ⟨("_law_numbers_right", none), "_law_numbers_right", "_law_numbers_right", defArgs s_law_numbers_right, defBody s_law_numbers_right, defScope s_law_numbers_right, [], []⟩
def d_law_depth : He.DefD := ⟨("_law_depth", none), "_law_depth", "_law_depth", defArgs s_law_depth, defBody s_law_depth, defScope s_law_depth, [], []⟩
def d_law_all_ends : He.DefD := ⟨("_law_all_ends", none), "_law_all_ends", "_law_all_ends", defArgs s_law_all_ends, defBody s_law_all_ends, defScope s_law_all_ends, [], []⟩
def d_law_wide : He.DefD := ⟨("_law_wide", none), "_law_wide", "_law_wide", defArgs s_law_wide, defBody s_law_wide, defScope s_law_wide, [], []⟩
def d_law_way_due : He.DefD := ⟨("_law_way_due", none), "_law_way_due", "_law_way_due", defArgs s_law_way_due, defBody s_law_way_due, defScope s_law_way_due, [], []⟩
def d_law_right : He.DefD := ⟨("_law_right", none), "_law_right", "_law_right", defArgs s_law_right, defBody s_law_right, defScope s_law_right, [], []⟩
def d_law : He.DefD := ⟨("law", none), "law", "law", defArgs s_law, defBody s_law, defScope s_law, [], []⟩
def d_Mixer___init__ : He.DefD := ⟨("Mixer", some "__init__"), "__init__", "Mixer.__init__", defArgs s_Mixer___init__, defBody s_Mixer___init__, defScope s_Mixer___init__, [], []⟩
def d_Mixer_wide : He.DefD := ⟨("Mixer", some "wide"), "wide", "Mixer.wide", defArgs s_Mixer_wide, defBody s_Mixer_wide, defScope s_Mixer_wide, [], []⟩
def d_Mixer_steps : He.DefD := ⟨("Mixer", some "steps"), "steps", "Mixer.steps", defArgs s_Mixer_steps, defBody s_Mixer_steps, defScope s_Mixer_steps, [], []⟩
def d_Mixer___eq__ : He.DefD := ⟨("Mixer", some "__eq__"), "__eq__", "Mixer.__eq__", defArgs s_Mixer___eq__, defBody s_Mixer___eq__, defScope s_Mixer___eq__, [], []⟩
def fn : List He.DefD := [d_is_whole, d_is_between, d_are_wholes, d_check_depth, d_check_number, d_is_sample, d_are_samples, d_wrapped, d_is_lift, d_is_step, d_closed, d_opened, d_check_mixer, d_check_moment, d_check_moment_within, d_summed, d_stepped, d_played, d_mixed, d_mixed_within, d_shifts_of, d_numbers_of, d_every_rest, d_widened, d_span_of, d_spans_of, d_end_of, d_box_of, d_depth_of, d_enough, d_on_the_way, d_law_purse, d_law_draw, d_law_part, d_law_plus, d_law_times, d_law_weight, d_law_lift, d_law_steps, d_law_copied, d_law_stepped, d_law_played, d_law_bits, d_law_matrix, d_law_lists, d_law_whole, d_law_numbers_right, d_law_depth, d_law_all_ends, d_law_wide, d_law_way_due, d_law_right, d_law, d_Mixer___init__, d_Mixer_wide, d_Mixer_steps, d_Mixer___eq__]
def fa0 : List He.Fa := [.glo "is_whole", .glo "is_between", .glo "are_wholes", .glo "check_depth", .glo "check_number", .glo "is_sample", .glo "are_samples", .glo "wrapped", .glo "is_lift", .glo "is_step", .glo "closed", .glo "opened", .glo "check_mixer", .glo "check_moment", .glo "check_moment_within", .glo "summed", .glo "stepped", .glo "played", .glo "mixed", .glo "mixed_within", .glo "shifts_of", .glo "numbers_of", .glo "every_rest", .glo "widened", .glo "span_of", .glo "spans_of", .glo "end_of", .glo "box_of", .glo "depth_of", .glo "enough"]
def fa1 : List He.Fa := [.glo "on_the_way", .glo "_law_purse", .glo "_law_draw", .glo "_law_part", .glo "_law_plus", .glo "_law_times", .glo "_law_weight", .glo "_law_lift", .glo "_law_steps", .glo "_law_copied", .glo "_law_stepped", .glo "_law_played", .glo "_law_bits", .glo "_law_matrix", .glo "_law_lists", .glo "_law_whole", .glo "_law_numbers_right", .glo "_law_depth", .glo "_law_all_ends", .glo "_law_wide", .glo "_law_way_due", .glo "_law_right", .glo "law", .free "len", .free "sum", .free "max", .free "min", .free "int", .free "bool", .free "list"]
def fa2 : List He.Fa := [.free "tuple", .free "range", .free "isinstance", .free "abs", .free "enumerate", .free "zip", .int "MOST_DEPTH_kinds" 24, .int "MOST_WAYS" 4, .int "MOST_DEPTH_mixers" 32, .glo "Mixer", .cls "Mixer", .noat "Mixer" "many", .noat "Mixer" "rows", .mkr "Mixer", .meth "Mixer" "__init__", .meth "Mixer" "wide", .meth "Mixer" "steps", .meth "Mixer" "__eq__"]
def fa : List He.Fa := fa0 ++ fa1 ++ fa2
/-- isinstance of an own class -/
def insB (K : PySem.W.Frag) (x : Str) : Bool := decide (PySem.W.findIn K (.ref (He.ga K x)) "__class__" = some (some (.builtin "object.__class__"))) && (decide (PySem.W.specialIn K (.builtin "object.__class__") "__get__" = some (some (.builtin "getset_descriptor.__get__"))) && (decide (PySem.W.takesIn K (.builtin "object.__class__") = some true) && (decide (PySem.W.mroIn K (He.ga K x) (.type "object") = some true) && decide (PySem.W.kitOne K (.ref (He.ga K x)) (.ref (He.ga K x)) = some true))))
theorem insB_ok {K : PySem.W.Frag} {x : Str} (cl : Cls K (He.ga K x)) (h : insB K x = true) : C8.InsC K (He.ga K x) := by
  unfold insB at h
  simp only [Bool.and_eq_true, decide_eq_true_eq] at h
  exact ⟨cl, h.1, h.2.1, h.2.2.1, h.2.2.2.1, h.2.2.2.2⟩
def eqB (K : PySem.W.Frag) (x : Str) : Bool := decide (PySem.W.findIn K (.ref (He.ga K x)) "__ne__" = some (some (.builtin "object.__ne__"))) && (decide (PySem.W.subIn K (.ref (He.ga K x)) (.type "object") = some true) && (decide (PySem.W.subIn K (.type "list") (.ref (He.ga K x)) = some false) && (decide (PySem.W.kitOne K (.type "list") (.ref (He.ga K x)) = some false) && (decide (PySem.W.subIn K (.type "tuple") (.ref (He.ga K x)) = some false) && decide (PySem.W.kitOne K (.type "tuple") (.ref (He.ga K x)) = some false)))))
theorem eqB_ok {K : PySem.W.Frag} {x : Str} {f : Addr} (m : Meth K (He.ga K x) "__eq__" f) (h : eqB K x = true) : EqC K (He.ga K x) f := by
  unfold eqB at h
  simp only [Bool.and_eq_true, decide_eq_true_eq] at h
  exact ⟨m.at_, m.fn, h.1, h.2.1, h.2.2.1, h.2.2.2.1, h.2.2.2.2.1, h.2.2.2.2.2⟩
def eqs : List Str := ["Mixer"]
def own : List Str := ["Mixer"]
def ex (K : PySem.W.Frag) : Bool := (own.all fun x => insB K x) && eqs.all fun x => eqB K x
abbrev R : PySem.W.OpenRow := PySem.W.OpenLaw.row PySem.Challenge.rw_wholesound_k35_whole_enough_for_all_samp
abbrev Al : Type := He.AlD × Bool
def obsG (g : Addr → Option Obj) : Al := (He.obsDG 5 fa fn g, ex (He.frG g (He.asD g 5)))
def Says (K : PySem.W.Frag) : Prop := He.SaysD fa fn K ∧ ex K = true
def hk : PySem.W.Hook where
  α := Al
  obs := fun s => obsG s.heap.get?
  val := fun _ => (He.valD fn, true)
  says := fun _ h => ∃ K : PySem.W.Frag, K.In h ∧ Says K
  of := fun _ _ e => ⟨_, He.frG_in, congrArg Prod.fst e, congrArg Prod.snd e⟩
  keeps := fun _ _ _ ⟨K, hK, c⟩ k => ⟨K, PySem.W.Frag.In.keeps hK k, c⟩
def ob (s : PySem.W.SharedT) : Al := obsG (HandSHeadRun.getT s)
theorem ob_eq (s : PySem.W.SharedT) : ob s = hk.obs s.abs := by
  have e : HandSHeadRun.getT s = s.abs.heap.get? := funext (HandSHeadRun.getT_eq s)
  show obsG (HandSHeadRun.getT s) = obsG s.abs.heap.get?
  rw [e]
def loose0 : List PySem.Str := ["SoundError", "InvalidNumber", "InvalidDepth", "InvalidList", "InvalidItem", "InvalidMixer", "InvalidSamples", "MOST_DEPTH_kinds", "is_whole", "is_between", "are_wholes", "check_depth", "check_number", "is_sample", "are_samples", "wrapped", "MOST_WAYS", "MOST_DEPTH_mixers", "is_lift", "is_step", "closed", "opened", "Mixer", "check_mixer", "check_moment", "check_moment_within", "summed", "stepped", "played", "mixed"]
def loose1 : List PySem.Str := ["mixed_within", "shifts_of", "numbers_of", "every_rest", "widened", "span_of", "spans_of", "end_of", "box_of", "depth_of", "enough", "on_the_way", "_law_purse", "_law_draw", "_law_part", "_law_plus", "_law_times", "_law_weight", "_law_lift", "_law_steps", "_law_copied", "_law_stepped", "_law_played", "_law_bits", "_law_matrix", "_law_lists", "_law_whole", "_law_numbers_right", "_law_depth", "_law_all_ends"]
def loose2 : List PySem.Str := ["_law_wide", "_law_way_due", "_law_right"]
abbrev loose : List PySem.Str := loose0 ++ loose1 ++ loose2
theorem run (w : World) : HandSHeadRun.RunEq R (PySem.W.view R.prog [69]) hk ob 8000 loose w := by
  intro os
  kernel_rfl
noncomputable def top_mk {K : PySem.W.Frag} {h : Heap} {mg : Str → Option Value} (X : K.In h) (G : h.Ns mainGlobals mg) (c : Says K) : Top K mg :=
  let p0 := c.1.def_ 0 (d := d_is_whole) rfl
  let p1 := c.1.def_ 1 (d := d_is_between) rfl
  let p2 := c.1.def_ 2 (d := d_are_wholes) rfl
  let p3 := c.1.def_ 3 (d := d_check_depth) rfl
  let p4 := c.1.def_ 4 (d := d_check_number) rfl
  let p5 := c.1.def_ 5 (d := d_is_sample) rfl
  let p6 := c.1.def_ 6 (d := d_are_samples) rfl
  let p7 := c.1.def_ 7 (d := d_wrapped) rfl
  let p8 := c.1.def_ 8 (d := d_is_lift) rfl
  let p9 := c.1.def_ 9 (d := d_is_step) rfl
  let p10 := c.1.def_ 10 (d := d_closed) rfl
  let p11 := c.1.def_ 11 (d := d_opened) rfl
  let p12 := c.1.def_ 12 (d := d_check_mixer) rfl
  let p13 := c.1.def_ 13 (d := d_check_moment) rfl
  let p14 := c.1.def_ 14 (d := d_check_moment_within) rfl
  let p15 := c.1.def_ 15 (d := d_summed) rfl
  let p16 := c.1.def_ 16 (d := d_stepped) rfl
  let p17 := c.1.def_ 17 (d := d_played) rfl
  let p18 := c.1.def_ 18 (d := d_mixed) rfl
  let p19 := c.1.def_ 19 (d := d_mixed_within) rfl
  let p20 := c.1.def_ 20 (d := d_shifts_of) rfl
  let p21 := c.1.def_ 21 (d := d_numbers_of) rfl
  let p22 := c.1.def_ 22 (d := d_every_rest) rfl
  let p23 := c.1.def_ 23 (d := d_widened) rfl
  let p24 := c.1.def_ 24 (d := d_span_of) rfl
  let p25 := c.1.def_ 25 (d := d_spans_of) rfl
  let p26 := c.1.def_ 26 (d := d_end_of) rfl
  let p27 := c.1.def_ 27 (d := d_box_of) rfl
  let p28 := c.1.def_ 28 (d := d_depth_of) rfl
  let p29 := c.1.def_ 29 (d := d_enough) rfl
  let p30 := c.1.def_ 30 (d := d_on_the_way) rfl
  let p31 := c.1.def_ 31 (d := d_law_purse) rfl
  let p32 := c.1.def_ 32 (d := d_law_draw) rfl
  let p33 := c.1.def_ 33 (d := d_law_part) rfl
  let p34 := c.1.def_ 34 (d := d_law_plus) rfl
  let p35 := c.1.def_ 35 (d := d_law_times) rfl
  let p36 := c.1.def_ 36 (d := d_law_weight) rfl
  let p37 := c.1.def_ 37 (d := d_law_lift) rfl
  let p38 := c.1.def_ 38 (d := d_law_steps) rfl
  let p39 := c.1.def_ 39 (d := d_law_copied) rfl
  let p40 := c.1.def_ 40 (d := d_law_stepped) rfl
  let p41 := c.1.def_ 41 (d := d_law_played) rfl
  let p42 := c.1.def_ 42 (d := d_law_bits) rfl
  let p43 := c.1.def_ 43 (d := d_law_matrix) rfl
  let p44 := c.1.def_ 44 (d := d_law_lists) rfl
  let p45 := c.1.def_ 45 (d := d_law_whole) rfl
  let p46 := c.1.def_ 46 (d := d_law_numbers_right) rfl
  let p47 := c.1.def_ 47 (d := d_law_depth) rfl
  let p48 := c.1.def_ 48 (d := d_law_all_ends) rfl
  let p49 := c.1.def_ 49 (d := d_law_wide) rfl
  let p50 := c.1.def_ 50 (d := d_law_way_due) rfl
  let p51 := c.1.def_ 51 (d := d_law_right) rfl
  let p52 := c.1.def_ 52 (d := d_law) rfl
  let p53 := c.1.def_ 53 (d := d_Mixer___init__) rfl
  let p54 := c.1.def_ 54 (d := d_Mixer_wide) rfl
  let p55 := c.1.def_ 55 (d := d_Mixer_steps) rfl
  let p56 := c.1.def_ 56 (d := d_Mixer___eq__) rfl
  let q0 := He.int_ok X G (c.1.fact 66 (f := .int "MOST_DEPTH_kinds" 24) rfl)
  let q1 := He.int_ok X G (c.1.fact 67 (f := .int "MOST_WAYS" 4) rfl)
  let q2 := He.int_ok X G (c.1.fact 68 (f := .int "MOST_DEPTH_mixers" 32) rfl)
  { C_Mixer := _, gc_Mixer := He.glo_ok X G (c.1.fact 69 (f := .glo "Mixer") rfl), cl_Mixer := He.cls_ok (c.1.fact 70 (f := .cls "Mixer") rfl), ic_Mixer := insB_ok (x := "Mixer") (He.cls_ok (c.1.fact 70 (f := .cls "Mixer") rfl)) (List.all_eq_true.mp (Bool.and_eq_true_iff.mp c.2).1 "Mixer" (by decide +kernel)),
    ec_Mixer := eqB_ok (x := "Mixer") (He.meth_ok (c.1.fact 77 (f := .meth "Mixer" "__eq__") rfl)) (List.all_eq_true.mp (Bool.and_eq_true_iff.mp c.2).2 "Mixer" (by decide +kernel)),
    na_Mixer_many := He.noat_ok (c.1.fact 71 (f := .noat "Mixer" "many") rfl),
    na_Mixer_rows := He.noat_ok (c.1.fact 72 (f := .noat "Mixer" "rows") rfl),
    f_is_whole := _, fd_is_whole := p0.choose, F_is_whole := p0.choose_spec, b_is_whole := p0.choose_spec.bindsN fun _ _ _ _ _ _ us hl => match us, hl with | [_], _ => rfl, g_is_whole := He.glo_ok X G (c.1.fact 0 (f := .glo "is_whole") rfl),
    f_is_between := _, fd_is_between := p1.choose, F_is_between := p1.choose_spec, b_is_between := p1.choose_spec.bindsN fun _ _ _ _ _ _ us hl => match us, hl with | [_, _, _], _ => rfl, g_is_between := He.glo_ok X G (c.1.fact 1 (f := .glo "is_between") rfl),
    f_are_wholes := _, fd_are_wholes := p2.choose, F_are_wholes := p2.choose_spec, b_are_wholes := p2.choose_spec.bindsN fun _ _ _ _ _ _ us hl => match us, hl with | [_], _ => rfl, g_are_wholes := He.glo_ok X G (c.1.fact 2 (f := .glo "are_wholes") rfl),
    f_check_depth := _, fd_check_depth := p3.choose, F_check_depth := p3.choose_spec, b_check_depth := nil_binds (p3.choose_spec.binds1 (ps := ["depth", "most"]) 2 1 (by simp [He.DefD.dvs, d_check_depth]) rfl fun _ _ _ _ _ _ _ us its h1 h2 => match us, its, h1, h2 with | [_, _], [_], _, _ => ⟨_, rfl, rfl⟩), e0_check_depth := (p3.choose_spec.binds1 (ps := ["depth", "most"]) 1 0 (by simp [He.DefD.dvs, d_check_depth]) rfl fun _ _ _ _ _ _ _ us its h1 h2 => match us, its, h1, h2 with | [_], [_], _, _ => ⟨_, rfl, rfl⟩).choose, v0_check_depth := (p3.choose_spec.binds1 (ps := ["depth", "most"]) 1 0 (by simp [He.DefD.dvs, d_check_depth]) rfl fun _ _ _ _ _ _ _ us its h1 h2 => match us, its, h1, h2 with | [_], [_], _, _ => ⟨_, rfl, rfl⟩).choose_spec.1, b0_check_depth := (p3.choose_spec.binds1 (ps := ["depth", "most"]) 1 0 (by simp [He.DefD.dvs, d_check_depth]) rfl fun _ _ _ _ _ _ _ us its h1 h2 => match us, its, h1, h2 with | [_], [_], _, _ => ⟨_, rfl, rfl⟩).choose_spec.2, g_check_depth := He.glo_ok X G (c.1.fact 3 (f := .glo "check_depth") rfl),
    f_check_number := _, fd_check_number := p4.choose, F_check_number := p4.choose_spec, b_check_number := p4.choose_spec.bindsN fun _ _ _ _ _ _ us hl => match us, hl with | [_, _, _], _ => rfl, g_check_number := He.glo_ok X G (c.1.fact 4 (f := .glo "check_number") rfl),
    f_is_sample := _, fd_is_sample := p5.choose, F_is_sample := p5.choose_spec, b_is_sample := p5.choose_spec.bindsN fun _ _ _ _ _ _ us hl => match us, hl with | [_, _], _ => rfl, g_is_sample := He.glo_ok X G (c.1.fact 5 (f := .glo "is_sample") rfl),
    f_are_samples := _, fd_are_samples := p6.choose, F_are_samples := p6.choose_spec, b_are_samples := p6.choose_spec.bindsN fun _ _ _ _ _ _ us hl => match us, hl with | [_, _], _ => rfl, g_are_samples := He.glo_ok X G (c.1.fact 6 (f := .glo "are_samples") rfl),
    f_wrapped := _, fd_wrapped := p7.choose, F_wrapped := p7.choose_spec, b_wrapped := p7.choose_spec.bindsN fun _ _ _ _ _ _ us hl => match us, hl with | [_, _], _ => rfl, g_wrapped := He.glo_ok X G (c.1.fact 7 (f := .glo "wrapped") rfl),
    f_is_lift := _, fd_is_lift := p8.choose, F_is_lift := p8.choose_spec, b_is_lift := p8.choose_spec.bindsN fun _ _ _ _ _ _ us hl => match us, hl with | [_, _], _ => rfl, g_is_lift := He.glo_ok X G (c.1.fact 8 (f := .glo "is_lift") rfl),
    f_is_step := _, fd_is_step := p9.choose, F_is_step := p9.choose_spec, b_is_step := p9.choose_spec.bindsN fun _ _ _ _ _ _ us hl => match us, hl with | [_, _], _ => rfl, g_is_step := He.glo_ok X G (c.1.fact 9 (f := .glo "is_step") rfl),
    f_closed := _, fd_closed := p10.choose, F_closed := p10.choose_spec, b_closed := p10.choose_spec.bindsN fun _ _ _ _ _ _ us hl => match us, hl with | [_], _ => rfl, g_closed := He.glo_ok X G (c.1.fact 10 (f := .glo "closed") rfl),
    f_opened := _, fd_opened := p11.choose, F_opened := p11.choose_spec, b_opened := p11.choose_spec.bindsN fun _ _ _ _ _ _ us hl => match us, hl with | [_], _ => rfl, g_opened := He.glo_ok X G (c.1.fact 11 (f := .glo "opened") rfl),
    f_check_mixer := _, fd_check_mixer := p12.choose, F_check_mixer := p12.choose_spec, b_check_mixer := p12.choose_spec.bindsN fun _ _ _ _ _ _ us hl => match us, hl with | [_], _ => rfl, g_check_mixer := He.glo_ok X G (c.1.fact 12 (f := .glo "check_mixer") rfl),
    f_check_moment := _, fd_check_moment := p13.choose, F_check_moment := p13.choose_spec, b_check_moment := p13.choose_spec.bindsN fun _ _ _ _ _ _ us hl => match us, hl with | [_, _], _ => rfl, g_check_moment := He.glo_ok X G (c.1.fact 13 (f := .glo "check_moment") rfl),
    f_check_moment_within := _, fd_check_moment_within := p14.choose, F_check_moment_within := p14.choose_spec, b_check_moment_within := p14.choose_spec.bindsN fun _ _ _ _ _ _ us hl => match us, hl with | [_, _, _], _ => rfl, g_check_moment_within := He.glo_ok X G (c.1.fact 14 (f := .glo "check_moment_within") rfl),
    f_summed := _, fd_summed := p15.choose, F_summed := p15.choose_spec, b_summed := p15.choose_spec.bindsN fun _ _ _ _ _ _ us hl => match us, hl with | [_, _], _ => rfl, g_summed := He.glo_ok X G (c.1.fact 15 (f := .glo "summed") rfl),
    f_stepped := _, fd_stepped := p16.choose, F_stepped := p16.choose_spec, b_stepped := nil_binds (p16.choose_spec.binds1 (ps := ["row", "numbers", "way"]) 3 1 (by simp [He.DefD.dvs, d_stepped]) rfl fun _ _ _ _ _ _ _ us its h1 h2 => match us, its, h1, h2 with | [_, _, _], [_], _, _ => ⟨_, rfl, rfl⟩), e0_stepped := (p16.choose_spec.binds1 (ps := ["row", "numbers", "way"]) 2 0 (by simp [He.DefD.dvs, d_stepped]) rfl fun _ _ _ _ _ _ _ us its h1 h2 => match us, its, h1, h2 with | [_, _], [_], _, _ => ⟨_, rfl, rfl⟩).choose, v0_stepped := (p16.choose_spec.binds1 (ps := ["row", "numbers", "way"]) 2 0 (by simp [He.DefD.dvs, d_stepped]) rfl fun _ _ _ _ _ _ _ us its h1 h2 => match us, its, h1, h2 with | [_, _], [_], _, _ => ⟨_, rfl, rfl⟩).choose_spec.1, b0_stepped := (p16.choose_spec.binds1 (ps := ["row", "numbers", "way"]) 2 0 (by simp [He.DefD.dvs, d_stepped]) rfl fun _ _ _ _ _ _ _ us its h1 h2 => match us, its, h1, h2 with | [_, _], [_], _, _ => ⟨_, rfl, rfl⟩).choose_spec.2, g_stepped := He.glo_ok X G (c.1.fact 16 (f := .glo "stepped") rfl),
    f_played := _, fd_played := p17.choose, F_played := p17.choose_spec, b_played := p17.choose_spec.bindsN fun _ _ _ _ _ _ us hl => match us, hl with | [_, _], _ => rfl, g_played := He.glo_ok X G (c.1.fact 17 (f := .glo "played") rfl),
    f_mixed := _, fd_mixed := p18.choose, F_mixed := p18.choose_spec, b_mixed := p18.choose_spec.bindsN fun _ _ _ _ _ _ us hl => match us, hl with | [_, _], _ => rfl, g_mixed := He.glo_ok X G (c.1.fact 18 (f := .glo "mixed") rfl),
    f_mixed_within := _, fd_mixed_within := p19.choose, F_mixed_within := p19.choose_spec, b_mixed_within := p19.choose_spec.bindsN fun _ _ _ _ _ _ us hl => match us, hl with | [_, _, _], _ => rfl, g_mixed_within := He.glo_ok X G (c.1.fact 19 (f := .glo "mixed_within") rfl),
    f_shifts_of := _, fd_shifts_of := p20.choose, F_shifts_of := p20.choose_spec, b_shifts_of := p20.choose_spec.bindsN fun _ _ _ _ _ _ us hl => match us, hl with | [_], _ => rfl, g_shifts_of := He.glo_ok X G (c.1.fact 20 (f := .glo "shifts_of") rfl),
    f_numbers_of := _, fd_numbers_of := p21.choose, F_numbers_of := p21.choose_spec, b_numbers_of := p21.choose_spec.bindsN fun _ _ _ _ _ _ us hl => match us, hl with | [_, _], _ => rfl, g_numbers_of := He.glo_ok X G (c.1.fact 21 (f := .glo "numbers_of") rfl),
    f_every_rest := _, fd_every_rest := p22.choose, F_every_rest := p22.choose_spec, b_every_rest := p22.choose_spec.bindsN fun _ _ _ _ _ _ us hl => match us, hl with | [_, _], _ => rfl, g_every_rest := He.glo_ok X G (c.1.fact 22 (f := .glo "every_rest") rfl),
    f_widened := _, fd_widened := p23.choose, F_widened := p23.choose_spec, b_widened := p23.choose_spec.bindsN fun _ _ _ _ _ _ us hl => match us, hl with | [_, _, _], _ => rfl, g_widened := He.glo_ok X G (c.1.fact 23 (f := .glo "widened") rfl),
    f_span_of := _, fd_span_of := p24.choose, F_span_of := p24.choose_spec, b_span_of := p24.choose_spec.bindsN fun _ _ _ _ _ _ us hl => match us, hl with | [_, _, _], _ => rfl, g_span_of := He.glo_ok X G (c.1.fact 24 (f := .glo "span_of") rfl),
    f_spans_of := _, fd_spans_of := p25.choose, F_spans_of := p25.choose_spec, b_spans_of := p25.choose_spec.bindsN fun _ _ _ _ _ _ us hl => match us, hl with | [_, _, _], _ => rfl, g_spans_of := He.glo_ok X G (c.1.fact 25 (f := .glo "spans_of") rfl),
    f_end_of := _, fd_end_of := p26.choose, F_end_of := p26.choose_spec, b_end_of := p26.choose_spec.bindsN fun _ _ _ _ _ _ us hl => match us, hl with | [_, _, _], _ => rfl, g_end_of := He.glo_ok X G (c.1.fact 26 (f := .glo "end_of") rfl),
    f_box_of := _, fd_box_of := p27.choose, F_box_of := p27.choose_spec, b_box_of := p27.choose_spec.bindsN fun _ _ _ _ _ _ us hl => match us, hl with | [_], _ => rfl, g_box_of := He.glo_ok X G (c.1.fact 27 (f := .glo "box_of") rfl),
    f_depth_of := _, fd_depth_of := p28.choose, F_depth_of := p28.choose_spec, b_depth_of := p28.choose_spec.bindsN fun _ _ _ _ _ _ us hl => match us, hl with | [_], _ => rfl, g_depth_of := He.glo_ok X G (c.1.fact 28 (f := .glo "depth_of") rfl),
    f_enough := _, fd_enough := p29.choose, F_enough := p29.choose_spec, b_enough := p29.choose_spec.bindsN fun _ _ _ _ _ _ us hl => match us, hl with | [_, _], _ => rfl, g_enough := He.glo_ok X G (c.1.fact 29 (f := .glo "enough") rfl),
    f_on_the_way := _, fd_on_the_way := p30.choose, F_on_the_way := p30.choose_spec, b_on_the_way := p30.choose_spec.bindsN fun _ _ _ _ _ _ us hl => match us, hl with | [_, _], _ => rfl, g_on_the_way := He.glo_ok X G (c.1.fact 30 (f := .glo "on_the_way") rfl),
    f_law_purse := _, fd_law_purse := p31.choose, F_law_purse := p31.choose_spec, b_law_purse := p31.choose_spec.bindsN fun _ _ _ _ _ _ us hl => match us, hl with | [_, _], _ => rfl, g_law_purse := He.glo_ok X G (c.1.fact 31 (f := .glo "_law_purse") rfl),
    f_law_draw := _, fd_law_draw := p32.choose, F_law_draw := p32.choose_spec, b_law_draw := p32.choose_spec.bindsN fun _ _ _ _ _ _ us hl => match us, hl with | [_, _], _ => rfl, g_law_draw := He.glo_ok X G (c.1.fact 32 (f := .glo "_law_draw") rfl),
    f_law_part := _, fd_law_part := p33.choose, F_law_part := p33.choose_spec, b_law_part := p33.choose_spec.bindsN fun _ _ _ _ _ _ us hl => match us, hl with | [_, _], _ => rfl, g_law_part := He.glo_ok X G (c.1.fact 33 (f := .glo "_law_part") rfl),
    f_law_plus := _, fd_law_plus := p34.choose, F_law_plus := p34.choose_spec, b_law_plus := p34.choose_spec.bindsN fun _ _ _ _ _ _ us hl => match us, hl with | [_, _], _ => rfl, g_law_plus := He.glo_ok X G (c.1.fact 34 (f := .glo "_law_plus") rfl),
    f_law_times := _, fd_law_times := p35.choose, F_law_times := p35.choose_spec, b_law_times := p35.choose_spec.bindsN fun _ _ _ _ _ _ us hl => match us, hl with | [_, _], _ => rfl, g_law_times := He.glo_ok X G (c.1.fact 35 (f := .glo "_law_times") rfl),
    f_law_weight := _, fd_law_weight := p36.choose, F_law_weight := p36.choose_spec, b_law_weight := p36.choose_spec.bindsN fun _ _ _ _ _ _ us hl => match us, hl with | [_], _ => rfl, g_law_weight := He.glo_ok X G (c.1.fact 36 (f := .glo "_law_weight") rfl),
    f_law_lift := _, fd_law_lift := p37.choose, F_law_lift := p37.choose_spec, b_law_lift := p37.choose_spec.bindsN fun _ _ _ _ _ _ us hl => match us, hl with | [_, _, _], _ => rfl, g_law_lift := He.glo_ok X G (c.1.fact 37 (f := .glo "_law_lift") rfl),
    f_law_steps := _, fd_law_steps := p38.choose, F_law_steps := p38.choose_spec, b_law_steps := p38.choose_spec.bindsN fun _ _ _ _ _ _ us hl => match us, hl with | [_, _, _, _], _ => rfl, g_law_steps := He.glo_ok X G (c.1.fact 38 (f := .glo "_law_steps") rfl),
    f_law_copied := _, fd_law_copied := p39.choose, F_law_copied := p39.choose_spec, b_law_copied := p39.choose_spec.bindsN fun _ _ _ _ _ _ us hl => match us, hl with | [_], _ => rfl, g_law_copied := He.glo_ok X G (c.1.fact 39 (f := .glo "_law_copied") rfl),
    f_law_stepped := _, fd_law_stepped := p40.choose, F_law_stepped := p40.choose_spec, b_law_stepped := p40.choose_spec.bindsN fun _ _ _ _ _ _ us hl => match us, hl with | [_, _, _], _ => rfl, g_law_stepped := He.glo_ok X G (c.1.fact 40 (f := .glo "_law_stepped") rfl),
    f_law_played := _, fd_law_played := p41.choose, F_law_played := p41.choose_spec, b_law_played := p41.choose_spec.bindsN fun _ _ _ _ _ _ us hl => match us, hl with | [_, _], _ => rfl, g_law_played := He.glo_ok X G (c.1.fact 41 (f := .glo "_law_played") rfl),
    f_law_bits := _, fd_law_bits := p42.choose, F_law_bits := p42.choose_spec, b_law_bits := p42.choose_spec.bindsN fun _ _ _ _ _ _ us hl => match us, hl with | [_], _ => rfl, g_law_bits := He.glo_ok X G (c.1.fact 42 (f := .glo "_law_bits") rfl),
    f_law_matrix := _, fd_law_matrix := p43.choose, F_law_matrix := p43.choose_spec, b_law_matrix := p43.choose_spec.bindsN fun _ _ _ _ _ _ us hl => match us, hl with | [_, _], _ => rfl, g_law_matrix := He.glo_ok X G (c.1.fact 43 (f := .glo "_law_matrix") rfl),
    f_law_lists := _, fd_law_lists := p44.choose, F_law_lists := p44.choose_spec, b_law_lists := p44.choose_spec.bindsN fun _ _ _ _ _ _ us hl => match us, hl with | [_, _, _], _ => rfl, g_law_lists := He.glo_ok X G (c.1.fact 44 (f := .glo "_law_lists") rfl),
    f_law_whole := _, fd_law_whole := p45.choose, F_law_whole := p45.choose_spec, b_law_whole := p45.choose_spec.bindsN fun _ _ _ _ _ _ us hl => match us, hl with | [_], _ => rfl, g_law_whole := He.glo_ok X G (c.1.fact 45 (f := .glo "_law_whole") rfl),
    f_law_numbers_right := _, fd_law_numbers_right := p46.choose, F_law_numbers_right := p46.choose_spec, b_law_numbers_right := p46.choose_spec.bindsN fun _ _ _ _ _ _ us hl => match us, hl with | [_, _], _ => rfl, g_law_numbers_right := He.glo_ok X G (c.1.fact 46 (f := .glo "_law_numbers_right") rfl),
    f_law_depth := _, fd_law_depth := p47.choose, F_law_depth := p47.choose_spec, b_law_depth := p47.choose_spec.bindsN fun _ _ _ _ _ _ us hl => match us, hl with | [_, _], _ => rfl, g_law_depth := He.glo_ok X G (c.1.fact 47 (f := .glo "_law_depth") rfl),
    f_law_all_ends := _, fd_law_all_ends := p48.choose, F_law_all_ends := p48.choose_spec, b_law_all_ends := p48.choose_spec.bindsN fun _ _ _ _ _ _ us hl => match us, hl with | [_, _, _], _ => rfl, g_law_all_ends := He.glo_ok X G (c.1.fact 48 (f := .glo "_law_all_ends") rfl),
    f_law_wide := _, fd_law_wide := p49.choose, F_law_wide := p49.choose_spec, b_law_wide := p49.choose_spec.bindsN fun _ _ _ _ _ _ us hl => match us, hl with | [_, _, _], _ => rfl, g_law_wide := He.glo_ok X G (c.1.fact 49 (f := .glo "_law_wide") rfl),
    f_law_way_due := _, fd_law_way_due := p50.choose, F_law_way_due := p50.choose_spec, b_law_way_due := p50.choose_spec.bindsN fun _ _ _ _ _ _ us hl => match us, hl with | [_, _, _], _ => rfl, g_law_way_due := He.glo_ok X G (c.1.fact 50 (f := .glo "_law_way_due") rfl),
    f_law_right := _, fd_law_right := p51.choose, F_law_right := p51.choose_spec, b_law_right := p51.choose_spec.bindsN fun _ _ _ _ _ _ us hl => match us, hl with | [_, _, _, _, _], _ => rfl, g_law_right := He.glo_ok X G (c.1.fact 51 (f := .glo "_law_right") rfl),
    f_law := _, fd_law := p52.choose, F_law := p52.choose_spec, b_law := p52.choose_spec.bindsN fun _ _ _ _ _ _ us hl => match us, hl with | [_], _ => rfl, g_law := He.glo_ok X G (c.1.fact 52 (f := .glo "law") rfl),
    f_Mixer___init__ := _, fd_Mixer___init__ := p53.choose, F_Mixer___init__ := p53.choose_spec, b_Mixer___init__ := p53.choose_spec.bindsN fun _ _ _ _ _ _ us hl => match us, hl with | [_, _, _], _ => rfl, me_Mixer___init__ := He.meth_ok (c.1.fact 74 (f := .meth "Mixer" "__init__") rfl), mk_Mixer := He.mkr_ok (c.1.fact 73 (f := .mkr "Mixer") rfl),
    f_Mixer_wide := _, fd_Mixer_wide := p54.choose, F_Mixer_wide := p54.choose_spec, b_Mixer_wide := p54.choose_spec.bindsN fun _ _ _ _ _ _ us hl => match us, hl with | [_], _ => rfl, me_Mixer_wide := He.meth_ok (c.1.fact 75 (f := .meth "Mixer" "wide") rfl),
    f_Mixer_steps := _, fd_Mixer_steps := p55.choose, F_Mixer_steps := p55.choose_spec, b_Mixer_steps := p55.choose_spec.bindsN fun _ _ _ _ _ _ us hl => match us, hl with | [_], _ => rfl, me_Mixer_steps := He.meth_ok (c.1.fact 76 (f := .meth "Mixer" "steps") rfl),
    f_Mixer___eq__ := _, fd_Mixer___eq__ := p56.choose, F_Mixer___eq__ := p56.choose_spec, b_Mixer___eq__ := p56.choose_spec.bindsN fun _ _ _ _ _ _ us hl => match us, hl with | [_, _], _ => rfl, me_Mixer___eq__ := He.meth_ok (c.1.fact 77 (f := .meth "Mixer" "__eq__") rfl),
    n_len := He.free_ok X G (c.1.fact 53 (f := .free "len") rfl),
    n_sum := He.free_ok X G (c.1.fact 54 (f := .free "sum") rfl),
    n_max := He.free_ok X G (c.1.fact 55 (f := .free "max") rfl),
    n_min := He.free_ok X G (c.1.fact 56 (f := .free "min") rfl),
    n_int := He.free_ok X G (c.1.fact 57 (f := .free "int") rfl),
    n_bool := He.free_ok X G (c.1.fact 58 (f := .free "bool") rfl),
    n_list := He.free_ok X G (c.1.fact 59 (f := .free "list") rfl),
    n_tuple := He.free_ok X G (c.1.fact 60 (f := .free "tuple") rfl),
    n_range := He.free_ok X G (c.1.fact 61 (f := .free "range") rfl),
    n_isinstance := He.free_ok X G (c.1.fact 62 (f := .free "isinstance") rfl),
    n_abs := He.free_ok X G (c.1.fact 63 (f := .free "abs") rfl),
    n_enumerate := He.free_ok X G (c.1.fact 64 (f := .free "enumerate") rfl),
    n_zip := He.free_ok X G (c.1.fact 65 (f := .free "zip") rfl),
    t_MOST_DEPTH_kinds := q0.choose, m_MOST_DEPTH_kinds := q0.choose_spec,
    t_MOST_WAYS := q1.choose, m_MOST_WAYS := q1.choose_spec,
    t_MOST_DEPTH_mixers := q2.choose, m_MOST_DEPTH_mixers := q2.choose_spec }
end My

namespace My
open PySem PySem.Spec PyProof.Rows L2 Pre
section
variable {P : Program} {w : World} {K : PySem.W.Frag} {mg : Str → Option Value} {base : Heap}
/-! ### is_whole, is_between, of whole numbers -/
def sp_is_whole : Sp := fun vs H Q _ => ∃ i : Int, vs = [.int i] ∧ Q (.bl true) H
theorem G_is_whole (T : Top K mg) : FnOk P w K mg base CX0 1 T.f_is_whole T.fd_is_whole ["value"] sp_is_whole := by
  refine T.F_is_whole.ok sc_is_whole (fun vs H Q E h => by obtain ⟨i, rfl, _⟩ := h; rfl) (fun cdv A outer s H vs Q E hr h => ?_)
  obtain ⟨i, rfl, q⟩ := h
  refine ⟨_, PSs.nox (pss_one (ps_ret (pe_and (pe_callB (k_isi K rfl) (by rfl) T.n_isinstance (by decide +kernel) (pa_cons (pv 0) (pa_cons (pe_bltn (v := .ty "int") (by rfl) T.n_int (by decide +kernel) rfl) pa_nil))) (pe_one (pe_not (pe_callB (k_isi K rfl) (by rfl) T.n_isinstance (by decide +kernel) (pa_cons (pv 0) (pa_cons (pe_bltn (v := .ty "bool") (by rfl) T.n_bool (by decide +kernel) rfl) pa_nil)))))))), ?_⟩
  refine ⟨_, rfl, _, _, _, _, true, rfl, .ty _, .base (.int i), kit_ty (by decide +kernel), true, rfl, iteT ?_⟩
  exact ⟨_, rfl, _, _, _, _, false, rfl, .ty _, .base (.int i), kit_ty (by decide +kernel), false, rfl, q⟩
/-- value a whole number, low one, high None or one -/
def sp_is_between : Sp := fun vs H Q _ => ∃ (i lo : Int) (hi : Option Int), vs = [.int i, .int lo, (match hi with | some j => .int j | none => .non)] ∧ Q (.bl (decide (lo ≤ i ∧ ∀ j, hi = some j → i ≤ j))) H
theorem G_is_between (T : Top K mg) : FnOk P w K mg base CX0 2 T.f_is_between T.fd_is_between ["value", "low", "high"] sp_is_between := by
  refine T.F_is_between.ok sc_is_between (fun vs H Q E h => by obtain ⟨i, lo, hi, rfl, _⟩ := h; rfl) (fun cdv A outer s H vs Q E hr h => ?_)
  obtain ⟨i, lo, hi, rfl, q⟩ := h
  refine ⟨_, PSs.nox (pss_one (ps_ret (pe_and (pe_call (G_is_whole T) (hr.mono (by decide)) (by rfl) T.g_is_whole T.F_is_whole.kp T.b_is_whole .nil pass0 (pa_cons (pv 0) pa_nil)) (pe_and (pe_cmpR op_le (pv 1) (pv 0) (nomark _)) (pe_one (pe_or (pe_cmpR op_isN (pv 2) pe_non (nomark _)) (pe_one (pe_cmpR op_le (pv 0) (pv 2) (nomark _))))))))), ?_⟩
  refine ⟨_, rfl, i, rfl, true, rfl, iteT ?_⟩
  refine ⟨_, rfl, _, rfl, _, _, rfl, rfl, _, rfl, ite2 (fun e => ?_) (fun e => ?_)⟩
  · have e1 : lo ≤ i := of_decide_eq_true e
    cases hi with
    | none =>
      refine ⟨_, rfl, rfl, _, rfl, iteT ?_⟩
      rw [decide_eq_true ⟨e1, fun j h => nomatch h⟩] at q
      exact q
    | some j =>
      refine ⟨_, rfl, rfl, _, rfl, iteF ⟨_, rfl, _, rfl, _, _, rfl, rfl, ?_⟩⟩
      have e2 : decide (lo ≤ i ∧ ∀ j', some j = some j' → i ≤ j') = decide (i ≤ j) := by
        by_cases h : i ≤ j
        · rw [decide_eq_true h, decide_eq_true]
          exact ⟨e1, fun j' e => by cases e; exact h⟩
        · rw [decide_eq_false h, decide_eq_false]
          exact fun z => h (z.2 j rfl)
      rw [e2] at q
      exact q
  · have e1 : ¬ lo ≤ i := fun h => e (decide_eq_true h)
    rw [decide_eq_false fun z => e1 z.1] at q
    exact q
end
end My

set_option exponentiation.threshold 100000
namespace My
open PySem PySem.Spec PyProof.Rows L2 Pre
section
variable {P : Program} {w : World} {K : PySem.W.Frag} {mg : Str → Option Value} {base : Heap}
/-! ### the law's draws -/
/-- a generator: its count is at most n -/
def GenAt (H : Hp) (g : Addr) (n : Nat) : Prop := ∃ x y z : Int, H g = some (.lst [.int x, .int y, .int z]) ∧ 0 ≤ z ∧ z ≤ (n : Int)
/-- all but one thing stand as they stood -/
def But (g : Addr) (H H' : Hp) : Prop := ∀ b o, b ≠ g → H b = some o → H' b = some o
theorem But.refl {g : Addr} {H : Hp} : But g H H := fun _ _ _ h => h
theorem But.trans {g : Addr} {H H1 H2 : Hp} (a : But g H H1) (b : But g H1 H2) : But g H H2 := fun c o n h => b c o n (a c o n h)
theorem But.same {g : Addr} {H H1 H2 : Hp} (a : But g H H1) (b : Same H1 H2) : But g H H2 := fun c o n h => b c o (a c o n h)
theorem But.of {g : Addr} {H H1 : Hp} (b : Same H H1) : But g H H1 := fun c o _ h => b c o h
theorem But.upd {g : Addr} {H H1 : Hp} {o : HO} (a : But g H H1) : But g H (upd H1 g o) := fun c u n h => by
  rw [upd_ne n]
  exact a c u n h
theorem But.free {g : Addr} {H H1 : Hp} (a : But g H H1) {p : Addr} (n : p ≠ g) (h : H1 p = none) : H p = none := by
  cases e : H p with
  | none => rfl
  | some o => rw [a p o n e] at h; cases h
/-- what is changed was not there at first -/
theorem But.fresh {g : Addr} {H H1 H2 : Hp} (s : Same H H1) (n : H g = none) (b : But g H1 H2) : Same H H2 := fun c o h => b c o (ne_of_none h n) (s c o h)
theorem GenAt.mono {H : Hp} {g : Addr} {n m : Nat} (h : GenAt H g n) (l : n ≤ m) : GenAt H g m := by
  obtain ⟨x, y, z, a, b, c⟩ := h
  exact ⟨x, y, z, a, b, by omega⟩
theorem GenAt.same {H H' : Hp} {g : Addr} {n : Nat} (h : GenAt H g n) (s : Same H H') : GenAt H' g n := by
  obtain ⟨x, y, z, a, b⟩ := h
  exact ⟨x, y, z, s _ _ a, b⟩
theorem GenAt.ne {H : Hp} {g : Addr} {n : Nat} {p : Addr} (h : GenAt H g n) (np : H p = none) : p ≠ g := by
  obtain ⟨x, y, z, a, _⟩ := h
  exact (ne_of_none a np).symm
theorem small_2900 {b : Int} (h : b ≤ 2 ^ 60) : b < 2 ^ 2900 := by omega
theorem pow_pos' (w : Nat) : (0 : Int) < 2 ^ w := Int.pow_pos (by decide)
theorem pow2_le {k m : Nat} (h : k ≤ m) : (2 : Int) ^ k ≤ 2 ^ m := by
  have e := Nat.pow_le_pow_right (show 0 < 2 by decide) h
  have e2 : ((2 ^ k : Nat) : Int) ≤ ((2 ^ m : Nat) : Int) := Int.ofNat_le.mpr e
  rw [Int.natCast_pow, Int.natCast_pow] at e2
  exact e2
def sp_law_cell (K : PySem.W.Frag) : Sp := fun vs H Q _ => ∃ (a : Addr) (ns : List Int) (i : Nat), vs = [.ref a, .int i] ∧ SqL K H a (ns.map V.int) ∧ ∀ (n : Int) H', Same H H' → Q (.int n) H'
theorem cmul_mod (x m j : Int) (h0 : 0 < m) (h1 : m ≤ 2 ^ 60) : CMul (x % m) j := by
  have a := Int.emod_nonneg x (show m ≠ 0 by omega)
  have b := Int.emod_lt_of_pos x h0
  exact .inl ⟨by omega, by omega⟩
def sp_law_hash : Sp := fun vs H Q _ => ∃ i j : Int, vs = [.int i, .int j] ∧ 0 ≤ j ∧ j < 2 ^ 60 ∧ ∀ n : Int, Q (.int n) H

def sp_law_generator (K : PySem.W.Frag) : Sp := fun vs H Q _ => ∃ (a : Addr) (ns : List Int) (i : Nat), vs = [.ref a, .int i] ∧ SqL K H a (ns.map V.int) ∧ ∀ H' g, Same H H' → H g = none → GenAt H' g (1000 * i) → Q (.ref g) H'
def sp_law_random : Sp := fun vs H Q _ => ∃ (g : Addr) (b : Int) (n : Nat), vs = [.ref g, .int b] ∧ GenAt H g n ∧ n ≤ 10 ^ 12 ∧ 0 < b ∧ b < 2 ^ 2900 ∧ ∀ (d : Int) H', 0 ≤ d → d < b → GenAt H' g (n + 100) → But g H H' → Q (.int d) H'
/-- a comprehension over a range that draws whole numbers -/
theorem lc_drawR {lo : Int} {n : Nat} {j : Nat} {te : TE} {vs : List Nat} {σ : L2.St} {H1 : Hp} {D : Addr} {Qd : Hp → Prop} (g : Addr) (m step : Nat) (P : Int → Prop) (nD : H1 D = none) (hG : GenAt H1 g m) (hz : n < sizeLine)
    (hw : ∀ x, wipe ((wipe σ vs).set j (some x)) vs = wipe σ vs)
    (hs : ∀ (i : Nat) (H' : Hp), i < n → But g H1 H' → GenAt H' g (m + step * i) → ∀ Qt : V → Hp → Prop, (∀ (y : Int) H'', P y → But g H' H'' → GenAt H'' g (m + step * (i + 1)) → Qt (.int y) H'') → te ((wipe σ vs).set j (some (.int (lo + (i : Int))))) H' Qt)
    (hd : ∀ H' (ys : List Int), But g H1 H' → GenAt H' g (m + step * n) → H' D = some (.lst (ys.map V.int)) → ys.length = n → (∀ y ∈ ys, P y) → Qd H') :
    ∃ W : Nat → Nat → Hp → Prop, (∃ m, W 0 m (upd H1 D (.lst []))) ∧ ∀ i m H, W i m H →
      ((Itr lo n).stop i H ∧ Qd H) ∨ ((Itr lo n).go i H ∧ ∃ Nx : Hp → Prop, (∀ H', Nx H' → ∃ m', m' < m ∧ W (i + 1) m' H') ∧ ∀ x H', (Itr lo n).yld i H x H' → gName j x (wipe σ vs) H' fun σ2 H2 => wipe σ2 vs = wipe σ vs ∧ tYes σ2 H2 fun b H3 =>
        if b = true then te σ2 H3 fun y H4 => ∃ acc, H4 D = some (.lst acc) ∧ acc.length < sizeLine ∧ Nx (upd H4 D (.lst (acc ++ [y]))) else Nx H3) := by
  have nDg : D ≠ g := hG.ne nD
  refine lc_range (lo := lo) (n := n) (fun i H => ∃ ys : List Int, But g H1 H ∧ GenAt H g (m + step * i) ∧ H D = some (.lst (ys.map V.int)) ∧ ys.length = i ∧ ∀ y ∈ ys, P y)
    ⟨[], But.of (same_upd nD), hG.same (same_upd nD), upd_same, rfl, (fun _ h => nomatch h)⟩ ?_ ?_
  · rintro i H hi ⟨ys, b, hg, hD, hl, hP⟩
    refine ⟨hw _, ?_⟩
    unfold tYes
    dsimp only
    rw [if_pos (show true = true from rfl)]
    refine hs i H hi b hg _ fun y H2 py b2 hg2 => ?_
    refine ⟨_, b2 _ _ nDg hD, by rw [List.length_map]; omega, ys ++ [y], ?_, ?_, ?_, ?_, ?_⟩
    · intro c o nc hc
      rw [upd_ne (ne_of_none hc nD)]
      exact b2 _ _ nc (b _ _ nc hc)
    · obtain ⟨x1, x2, x3, e1, e2⟩ := hg2
      exact ⟨x1, x2, x3, by rw [upd_ne nDg.symm]; exact e1, e2⟩
    · rw [upd_same, List.map_append]
      rfl
    · rw [List.length_append, hl]
      rfl
    · intro z hz
      rcases List.mem_append.mp hz with hz | hz
      · exact hP z hz
      · rw [List.mem_singleton.mp hz]
        exact py
  · rintro H ⟨ys, b, hg, hD, hl, hP⟩
    exact hd H ys b hg hD hl hP
end
end My

namespace My
open PySem PySem.Spec PyProof.Rows L2 Pre
/-- a comprehension over a list that makes new things: R tells what is known of the i-th -/
theorem lc_relL {K : PySem.W.Frag} {a : Addr} {xs : List V} {j : Nat} {te : TE} {vs : List Nat} {σ : L2.St} {H1 : Hp} {D : Addr} {Qd : Hp → Prop} (R : Nat → V → Hp → Prop) (nD : H1 D = none) (hS : SqL K H1 a xs) (hz : xs.length < sizeLine)
    (mono : ∀ (i : Nat) (y : V) (H H' : Hp), Pre.Off D H H' → R i y H → R i y H') (hw : ∀ x, wipe ((wipe σ vs).set j (some x)) vs = wipe σ vs)
    (hs : ∀ (i : Nat) (x : V) (H' : Hp) (zs : List V), xs[i]? = some x → Same H1 H' → H' D = some (.lst zs) → ∀ Qt : V → Hp → Prop, (∀ y H'', Same H' H'' → R i y H'' → Qt y H'') → te ((wipe σ vs).set j (some x)) H' Qt)
    (hd : ∀ H' ys, Same H1 H' → H' D = some (.lst ys) → ys.length = xs.length → (∀ (i : Nat) (y : V), ys[i]? = some y → R i y H') → Qd H') :
    ∃ W : Nat → Nat → Hp → Prop, (∃ m, W 0 m (upd H1 D (.lst []))) ∧ ∀ i m H, W i m H →
      ((Itl K a).stop i H ∧ Qd H) ∨ ((Itl K a).go i H ∧ ∃ Nx : Hp → Prop, (∀ H', Nx H' → ∃ m', m' < m ∧ W (i + 1) m' H') ∧ ∀ x H', (Itl K a).yld i H x H' → gName j x (wipe σ vs) H' fun σ2 H2 => wipe σ2 vs = wipe σ vs ∧ tYes σ2 H2 fun b H3 =>
        if b = true then te σ2 H3 fun y H4 => ∃ acc, H4 D = some (.lst acc) ∧ acc.length < sizeLine ∧ Nx (upd H4 D (.lst (acc ++ [y]))) else Nx H3) := by
  refine lc_list (K := K) (a := a) (xs := xs) (RelPv R H1 D) ⟨[], same_upd nD, upd_same, rfl, fun k y h => by simp at h⟩ (fun i H _ ⟨_, s, _⟩ => s.seq hS) ?_ ?_
  · rintro i x H hx ⟨ys, s, hD, hl, hR⟩
    have hi : i < xs.length := (List.getElem?_eq_some_iff.mp hx).1
    refine ⟨hw _, ?_⟩
    unfold tYes
    dsimp only
    rw [if_pos (show true = true from rfl)]
    refine hs i x H ys hx s hD _ fun y H4 s4 r4 => ?_
    refine ⟨ys, s4 _ _ hD, by omega, ys ++ [y], same_over nD (s.trans s4), upd_same, by rw [List.length_append, hl]; rfl, fun k z hz => ?_⟩
    have off : Pre.Off D H4 (upd H4 D (.lst (ys ++ [y]))) := fun b o nb h => by rw [upd_ne nb]; exact h
    by_cases hk : k < ys.length
    · rw [List.getElem?_append_left hk] at hz
      exact mono k z H _ (fun b o nb h => off b o nb (s4 b o h)) (hR k z hz)
    · rw [List.getElem?_append_right (by omega)] at hz
      have hk2 : k - ys.length = 0 := by
        have h2 := (List.getElem?_eq_some_iff.mp hz).1
        rw [List.length_singleton] at h2
        omega
      rw [hk2] at hz
      cases hz
      have ek : k = i := by omega
      rw [ek]
      exact mono i y H4 _ off r4
  · rintro H ⟨ys, s, hD, hl, hR⟩
    exact hd H ys s hD hl hR
/-- a list of lists of whole numbers -/
def RowsIn (H : Hp) (p : Addr) (rows : List (List Int)) : Prop := ∃ as : List Addr, H p = some (.lst (as.map V.ref)) ∧ as.length = rows.length ∧ ∀ (i : Nat) (a : Addr) (r : List Int), as[i]? = some a → rows[i]? = some r → H a = some (.lst (r.map V.int))
theorem RowsIn.same {H H' : Hp} {p : Addr} {rows : List (List Int)} (h : RowsIn H p rows) (s : Same H H') : RowsIn H' p rows := by
  obtain ⟨as, h1, h2, h3⟩ := h
  exact ⟨as, s _ _ h1, h2, fun i a r ha hr => s _ _ (h3 i a r ha hr)⟩
section
variable {X : Cx}
theorem huD {k : Nat} {A : Around} (r : Room k A) : A.units + 65 < cLine := by have := r.un; omega
theorem k_inD (K : PySem.W.Frag) (h : X.K = K) (hu : X.A.units + 65 < cLine) : OpR X (compareOp .In) (rInD K) := by subst h; exact op_inD hu
theorem k_notInD (K : PySem.W.Frag) (h : X.K = K) (hu : X.A.units + 65 < cLine) : OpR X (compareOp .NotIn) (rNotInD K) := by subst h; exact op_notInD hu
theorem k_indexD (K : PySem.W.Frag) (h : X.K = K) (hu : X.A.units + 65 < cLine) : MtR X "list.index" (rIndexD K) := by subst h; exact mt_indexD hu
end
/-- rows as data -/
def rowD (r : List Int) : PyData := .list (r.map PyData.int)
theorem rows_dp {K : PySem.W.Frag} {H : Hp} : ∀ {as : List Addr} {rows : List (List Int)}, as.length = rows.length → (∀ (i : Nat) (a : Addr) (r : List Int), as[i]? = some a → rows[i]? = some r → H a = some (.lst (r.map V.int))) → DpAll K H (as.map V.ref) (rows.map rowD)
  | [], [], _, _ => .nil
  | [], _ :: _, h, _ => by simp at h
  | _ :: _, [], h, _ => by simp at h
  | a :: as, r :: rows, h, k => .cons (.lst (.inl (.inl (k 0 a r rfl rfl))) (Pre.dp_ints r)) (rows_dp (by simpa using h) fun i t q ht hq => k (i + 1) t q (by simpa using ht) (by simpa using hq))
theorem rowD_eqv (r q : List Int) : PyData.eqv (rowD r) (rowD q) = decide (r = q) := by
  unfold rowD
  rw [PyData.eqv, eqv_ints]
theorem rows_shaped (rows : List (List Int)) : SeqAt.shaped (.list (rows.map rowD)) = true := by
  have h1 : ∀ l : List (List Int), PyData.canLayAll0 (l.map rowD) = true := fun l => by
    induction l with
    | nil => rfl
    | cons r l ih =>
      show (PyData.canLay0 (rowD r) && PyData.canLayAll0 (l.map rowD)) = true
      rw [ih]
      unfold rowD
      rw [PyData.canLay0, lay_ints]
      rfl
  have h2 : ∀ l : List (List Int), PyData.depthAll (l.map rowD) ≤ 1 := fun l => by
    induction l with
    | nil => simp [PyData.depthAll]
    | cons r l ih =>
      show PyData.depthAll (rowD r :: l.map rowD) ≤ 1
      rw [PyData.depthAll]
      unfold rowD at *
      rw [PyData.depth, depth_ints]
      omega
  show (PyData.canLay0 (.list (rows.map rowD)) && decide (PyData.depth (.list (rows.map rowD)) ≤ 64)) = true
  rw [Bool.and_eq_true]
  have := h2 rows
  exact ⟨by rw [PyData.canLay0]; exact h1 rows, decide_eq_true (by rw [PyData.depth]; omega)⟩
end My

namespace My
open PySem PySem.Spec PyProof.Rows L2 Pre
/-! ### min and max of a list of pairs of whole numbers -/
def pairD (p : Int × Int) : PyData := .tuple [.int p.1, .int p.2]
def ltP2 (p q : Int × Int) : Prop := p.1 < q.1 ∨ (p.1 = q.1 ∧ p.2 < q.2)
instance (p q : Int × Int) : Decidable (ltP2 p q) := by unfold ltP2; infer_instance
theorem pair_lt (p q : Int × Int) : PySem.W.dataLt (pairD p) (pairD q) = decide (ltP2 p q) := PySem.W.dataLt_ii p.1 p.2 q.1 q.2
theorem ltP2_trans {p q r : Int × Int} (h : ¬ ltP2 q p) (k : ¬ ltP2 r q) : ¬ ltP2 r p := by
  unfold ltP2 at *
  omega
def minP (p : Int × Int) (ps : List (Int × Int)) : Int × Int := ps.foldl (fun a y => if ltP2 y a then y else a) p
def maxP (p : Int × Int) (ps : List (Int × Int)) : Int × Int := ps.foldl (fun a y => if ltP2 a y then y else a) p
theorem minP_data : ∀ (ps : List (Int × Int)) (p : Int × Int), PySem.W.minD (pairD p) (ps.map pairD) = pairD (minP p ps)
  | [], _ => rfl
  | q :: ps, p => by
    show PySem.W.minD (if PySem.W.dataLt (pairD q) (pairD p) = true then pairD q else pairD p) (ps.map pairD) = pairD (minP (if ltP2 q p then q else p) ps)
    rw [pair_lt]
    by_cases h : ltP2 q p
    · rw [decide_eq_true h, if_pos rfl, if_pos h, minP_data ps q]
    · rw [decide_eq_false h, if_neg (by decide), if_neg h, minP_data ps p]
theorem maxP_data : ∀ (ps : List (Int × Int)) (p : Int × Int), PySem.W.maxD (pairD p) (ps.map pairD) = pairD (maxP p ps)
  | [], _ => rfl
  | q :: ps, p => by
    show PySem.W.maxD (if PySem.W.dataLt (pairD p) (pairD q) = true then pairD q else pairD p) (ps.map pairD) = pairD (maxP (if ltP2 p q then q else p) ps)
    rw [pair_lt]
    by_cases h : ltP2 p q
    · rw [decide_eq_true h, if_pos rfl, if_pos h, maxP_data ps q]
    · rw [decide_eq_false h, if_neg (by decide), if_neg h, maxP_data ps p]
theorem minP_spec : ∀ (ps : List (Int × Int)) (p : Int × Int), minP p ps ∈ p :: ps ∧ ∀ q ∈ p :: ps, ¬ ltP2 q (minP p ps)
  | [], p => ⟨List.mem_cons_self, fun q hq => by
      rw [List.mem_singleton.mp hq]
      show ¬ ltP2 p p
      unfold ltP2
      omega⟩
  | r :: ps, p => by
    show minP (if ltP2 r p then r else p) ps ∈ _ ∧ ∀ q ∈ p :: r :: ps, ¬ ltP2 q (minP (if ltP2 r p then r else p) ps)
    by_cases h : ltP2 r p
    · rw [if_pos h]
      obtain ⟨h1, h2⟩ := minP_spec ps r
      refine ⟨List.mem_cons_of_mem _ h1, fun q hq => ?_⟩
      rcases List.mem_cons.mp hq with rfl | hq
      · have := h2 r List.mem_cons_self
        exact fun z => this (by unfold ltP2 at *; omega)
      · exact h2 q hq
    · rw [if_neg h]
      obtain ⟨h1, h2⟩ := minP_spec ps p
      refine ⟨?_, fun q hq => ?_⟩
      · rcases List.mem_cons.mp h1 with e | e
        · rw [e]; exact List.mem_cons_self
        · exact List.mem_cons_of_mem _ (List.mem_cons_of_mem _ e)
      · rcases List.mem_cons.mp hq with rfl | hq
        · exact h2 q List.mem_cons_self
        · rcases List.mem_cons.mp hq with rfl | hq
          · have := h2 p List.mem_cons_self
            exact fun z => this (by unfold ltP2 at *; omega)
          · exact h2 q (List.mem_cons_of_mem _ hq)
theorem maxP_spec : ∀ (ps : List (Int × Int)) (p : Int × Int), maxP p ps ∈ p :: ps ∧ ∀ q ∈ p :: ps, ¬ ltP2 (maxP p ps) q
  | [], p => ⟨List.mem_cons_self, fun q hq => by
      rw [List.mem_singleton.mp hq]
      show ¬ ltP2 p p
      unfold ltP2
      omega⟩
  | r :: ps, p => by
    show maxP (if ltP2 p r then r else p) ps ∈ _ ∧ ∀ q ∈ p :: r :: ps, ¬ ltP2 (maxP (if ltP2 p r then r else p) ps) q
    by_cases h : ltP2 p r
    · rw [if_pos h]
      obtain ⟨h1, h2⟩ := maxP_spec ps r
      refine ⟨List.mem_cons_of_mem _ h1, fun q hq => ?_⟩
      rcases List.mem_cons.mp hq with rfl | hq
      · have := h2 r List.mem_cons_self
        exact fun z => this (by unfold ltP2 at *; omega)
      · exact h2 q hq
    · rw [if_neg h]
      obtain ⟨h1, h2⟩ := maxP_spec ps p
      refine ⟨?_, fun q hq => ?_⟩
      · rcases List.mem_cons.mp h1 with e | e
        · rw [e]; exact List.mem_cons_self
        · exact List.mem_cons_of_mem _ (List.mem_cons_of_mem _ e)
      · rcases List.mem_cons.mp hq with rfl | hq
        · exact h2 q List.mem_cons_self
        · rcases List.mem_cons.mp hq with rfl | hq
          · have := h2 p List.mem_cons_self
            exact fun z => this (by unfold ltP2 at *; omega)
          · exact h2 q (List.mem_cons_of_mem _ hq)
theorem pairs_alike (ps : List (Int × Int)) : PySem.W.AlikeAll (ps.map pairD) := by
  refine ⟨fun x hx y hy => ?_, fun x hx => ?_⟩
  · obtain ⟨p, _, rfl⟩ := List.mem_map.mp hx
    obtain ⟨q, _, rfl⟩ := List.mem_map.mp hy
    rfl
  · obtain ⟨p, _, rfl⟩ := List.mem_map.mp hx
    exact fun z => nomatch z
theorem pairs_lay : ∀ ps : List (Int × Int), PyData.canLayAll0 (ps.map pairD) = true
  | [] => rfl
  | p :: ps => by simp [PyData.canLayAll0, PyData.canLay0, pairD, pairs_lay ps]
theorem pairs_depth : ∀ ps : List (Int × Int), PyData.depthAll (ps.map pairD) ≤ 2
  | [] => by simp [PyData.depthAll]
  | p :: ps => by
    have := pairs_depth ps
    simp only [List.map_cons, PyData.depthAll, pairD, PyData.depth]
    omega
/-- a list of pairs, at a -/
def PairsAt (K : PySem.W.Frag) (H : Hp) (a : Addr) (ps : List (Int × Int)) : Prop := ∃ as : List Addr, SqL K H a (as.map V.ref) ∧ as.length = ps.length ∧ ∀ (i : Nat) (t : Addr) (p : Int × Int), as[i]? = some t → ps[i]? = some p → SqT K H t [.int p.1, .int p.2]
theorem pairs_dp {K : PySem.W.Frag} {H : Hp} : ∀ {as : List Addr} {ps : List (Int × Int)}, as.length = ps.length → (∀ (i : Nat) (t : Addr) (p : Int × Int), as[i]? = some t → ps[i]? = some p → SqT K H t [.int p.1, .int p.2]) → DpAll K H (as.map V.ref) (ps.map pairD)
  | [], [], _, _ => .nil
  | [], _ :: _, h, _ => by simp at h
  | _ :: _, [], h, _ => by simp at h
  | a :: as, p :: ps, h, k => .cons (.tup (k 0 a p rfl rfl) (.cons (.int _) (.cons (.int _) .nil))) (pairs_dp (by simpa using h) fun i t q ht hq => k (i + 1) t q (by simpa using ht) (by simpa using hq))
def rMnP (K : PySem.W.Frag) (best : Int × Int → List (Int × Int) → Int × Int) : List V → Hp → VK → Prop := fun xs H Q => ∃ (a : Addr) (p : Int × Int) (ps : List (Int × Int)), xs = [.ref a] ∧ PairsAt K H a (p :: ps) ∧ ∀ t, SqT K H t [.int (best p ps).1, .int (best p ps).2] → Q (.ref t) H
section
variable {X : Cx} {K : PySem.W.Frag}
theorem pick {H : Hp} {s : Shared} {as : List Addr} {ps : List (Int × Int)} {its : List Value} {i : Nat} {v : Value} {h' : Heap} {bs cs : List Addr} {b : Int × Int} (hl : as.length = ps.length)
    (hT : ∀ (i : Nat) (t : Addr) (p : Int × Int), as[i]? = some t → ps[i]? = some p → SqT K H t [.int p.1, .int p.2]) (rv : Vals (as.map V.ref) its) (hr : ReadsAll s.heap its (ps.map pairD) cs) (hv : its.toArray[i]? = some v) (rd : Reads h' v (pairD b) bs)
    (hk : ∀ b o, s.heap.get? b = some o → h'.get? b = some o) : ∃ t, v = .ref t ∧ SqT K H t [.int b.1, .int b.2] := by
  have hv' : its[i]? = some v := by simpa using hv
  have hil : i < its.length := (List.getElem?_eq_some_iff.mp hv').1
  have hvl := rv.length
  rw [List.length_map] at hvl
  obtain ⟨u, hu, ru⟩ := rv.get (show (as.map V.ref)[i]? = some (.ref (as[i]'(by omega))) by rw [List.getElem?_map, List.getElem?_eq_getElem (by omega)]; rfl)
  rw [hv'] at hu
  cases hu
  have hp : ps[i]? = some (ps[i]'(by omega)) := List.getElem?_eq_getElem (by omega)
  obtain ⟨ds, r1, _, _, _⟩ := PySem.W.readsAll_at hr i v hv'
  have e1 : (ps.map pairD).getD i .none = pairD (ps[i]'(by omega)) := by
    rw [List.getD_eq_getElem?_getD, List.getElem?_map, hp]
    rfl
  rw [e1] at r1
  have e2 := PySem.SeqAt.Reads.unique (pairD b) _ v _ _ (by simp [pairD, PyData.canLay0, PyData.canLayAll0]) rd (Reads.keeps hk r1)
  have e3 : b = ps[i]'(by omega) := by
    unfold pairD at e2
    injection e2 with e2
    injection e2 with e4 e5
    injection e5 with e5 _
    injection e4 with e4
    injection e5 with e5
    exact Prod.ext e4 e5
  refine ⟨as[i]'(by omega), ru, ?_⟩
  rw [e3]
  exact hT i _ _ (List.getElem?_eq_getElem (by omega)) hp
theorem k_minP (K : PySem.W.Frag) (h : X.K = K) (hc : X.calm = true) (hu : X.A.units + 65 < cLine) : CallR X (.builtin "min") (rMnP K minP) := by
  subst h
  intro pins s σ H xs us Q I r h
  obtain ⟨a, p, ps, rfl, ⟨as, hS, hl, hT⟩, q⟩ := h
  obtain ⟨its, rv, hL, _⟩ := I.list hS
  rw [Vals.ref1 r]
  obtain ⟨cs, hr⟩ := Dp.readsAll I _ _ its (pairs_dp hl hT) rv
  have hd := pairs_depth (p :: ps)
  refine PySem.W.min_list_data (I.ok.hd hc) hL.isList (show ReadsAll s.heap its.toArray.toList (pairD p :: ps.map pairD) cs by simpa using hr) (pairs_alike (p :: ps)) (by rw [List.map_cons] at hd; omega) fun i v h' tk bs hv rd hk => ?_
  rw [minP_data] at rd
  obtain ⟨t, rfl, ht⟩ := pick hl hT rv hr hv rd hk
  exact ⟨.ref t, H, I.kept hk, rfl, q t ht⟩
theorem k_maxP (K : PySem.W.Frag) (h : X.K = K) (hc : X.calm = true) (hu : X.A.units + 65 < cLine) : CallR X (.builtin "max") (rMnP K maxP) := by
  subst h
  intro pins s σ H xs us Q I r h
  obtain ⟨a, p, ps, rfl, ⟨as, hS, hl, hT⟩, q⟩ := h
  obtain ⟨its, rv, hL, _⟩ := I.list hS
  rw [Vals.ref1 r]
  obtain ⟨cs, hr⟩ := Dp.readsAll I _ _ its (pairs_dp hl hT) rv
  have hd := pairs_depth (p :: ps)
  refine PySem.W.max_list_data (I.ok.hd hc) hL.isList (show ReadsAll s.heap its.toArray.toList (pairD p :: ps.map pairD) cs by simpa using hr) (pairs_alike (p :: ps)) (by rw [List.map_cons] at hd; omega) fun i v h' tk bs hv rd hk => ?_
  rw [maxP_data] at rd
  obtain ⟨t, rfl, ht⟩ := pick hl hT rv hr hv rd hk
  exact ⟨.ref t, H, I.kept hk, rfl, q t ht⟩
theorem huM {k : Nat} {A : Around} (r : Room k A) : A.units + 65 < cLine := by have := r.un; omega
end
end My

namespace My
open PySem PySem.Spec PyProof.Rows L2 Pre
/-! ### data in a heap: what is told of a value by lists and tuples that stand there (none of them frozen) -/
mutual
inductive Dt (H : Hp) : V → PyData → Prop
  | non : Dt H .non .none
  | bl (b : Bool) : Dt H (.bl b) (.bool b)
  | int (n : Int) : Dt H (.int n) (.int n)
  | str (x : Str) : Dt H (.str x) (.str x)
  | lst {a : Addr} {xs : List V} {ds : List PyData} : H a = some (.lst xs) → DtA H xs ds → Dt H (.ref a) (.list ds)
  | tup {a : Addr} {xs : List V} {ds : List PyData} : H a = some (.tup xs) → DtA H xs ds → Dt H (.ref a) (.tuple ds)
inductive DtA (H : Hp) : List V → List PyData → Prop
  | nil : DtA H [] []
  | cons {v : V} {vs : List V} {d : PyData} {ds : List PyData} : Dt H v d → DtA H vs ds → DtA H (v :: vs) (d :: ds)
end
mutual
theorem Dt.same {H H' : Hp} (s : Same H H') : ∀ {d : PyData} {v : V}, Dt H v d → Dt H' v d
  | .none, _, h => by cases h; exact .non
  | .bool _, _, h => by cases h; exact .bl _
  | .int _, _, h => by cases h; exact .int _
  | .str _, _, h => by cases h; exact .str _
  | .list _, _, h => by cases h with | lst a b => exact .lst (s _ _ a) (DtA.same s b)
  | .tuple _, _, h => by cases h with | tup a b => exact .tup (s _ _ a) (DtA.same s b)
  | .dict _, _, h => nomatch h
theorem DtA.same {H H' : Hp} (s : Same H H') : ∀ {ds : List PyData} {vs : List V}, DtA H vs ds → DtA H' vs ds
  | [], _, h => by cases h; exact .nil
  | _ :: _, _, h => by cases h with | cons a b => exact .cons (Dt.same s a) (DtA.same s b)
end
mutual
theorem Dt.dp {K : PySem.W.Frag} {H : Hp} : ∀ {d : PyData} {v : V}, Dt H v d → Dp K H v d
  | .none, _, h => by cases h; exact .non
  | .bool _, _, h => by cases h; exact .bl _
  | .int _, _, h => by cases h; exact .int _
  | .str _, _, h => by cases h; exact .str _
  | .list _, _, h => by cases h with | lst a b => exact .lst (.inl (.inl a)) (DtA.dp b)
  | .tuple _, _, h => by cases h with | tup a b => exact .tup (.inl (.inl a)) (DtA.dp b)
  | .dict _, _, h => nomatch h
theorem DtA.dp {K : PySem.W.Frag} {H : Hp} : ∀ {ds : List PyData} {vs : List V}, DtA H vs ds → DpAll K H vs ds
  | [], _, h => by cases h; exact .nil
  | _ :: _, _, h => by cases h with | cons a b => exact .cons (Dt.dp a) (DtA.dp b)
end
theorem DtA.len {H : Hp} : ∀ {ds : List PyData} {vs : List V}, DtA H vs ds → vs.length = ds.length
  | [], _, h => by cases h; rfl
  | _ :: _, _, h => by cases h with | cons a b => rw [List.length_cons, List.length_cons, DtA.len b]
theorem DtA.app {H : Hp} : ∀ {ds : List PyData} {vs : List V} {es : List PyData} {us : List V}, DtA H vs ds → DtA H us es → DtA H (vs ++ us) (ds ++ es)
  | [], _, _, _, h, k => by cases h; exact k
  | _ :: _, _, _, _, h, k => by cases h with | cons a b => exact .cons a (DtA.app b k)
theorem DtA.get {H : Hp} : ∀ {ds : List PyData} {vs : List V} {i : Nat} {d : PyData}, DtA H vs ds → ds[i]? = some d → ∃ v, vs[i]? = some v ∧ Dt H v d
  | [], _, _, _, _, k => by simp at k
  | _ :: _, _, 0, _, h, k => by
    cases h with
    | cons a b => rw [List.getElem?_cons_zero] at k; cases k; exact ⟨_, rfl, a⟩
  | _ :: _, _, i + 1, _, h, k => by
    cases h with
    | cons a b => rw [List.getElem?_cons_succ] at k; rw [List.getElem?_cons_succ]; exact DtA.get b k
theorem DtA.got {H : Hp} {ds : List PyData} {vs : List V} {i : Nat} {v : V} (h : DtA H vs ds) (k : vs[i]? = some v) : ∃ d, ds[i]? = some d ∧ Dt H v d := by
  have hi := (List.getElem?_eq_some_iff.mp k).1
  have hl := h.len
  obtain ⟨u, hu, d⟩ := h.get (List.getElem?_eq_getElem (show i < ds.length by omega))
  rw [k] at hu
  cases hu
  exact ⟨_, List.getElem?_eq_getElem (by omega), d⟩
theorem DtA.take {H : Hp} : ∀ {ds : List PyData} {vs : List V} (n : Nat), DtA H vs ds → DtA H (vs.take n) (ds.take n)
  | _, _, 0, _ => .nil
  | [], _, _ + 1, h => by cases h; exact .nil
  | _ :: _, _, n + 1, h => by cases h with | cons a b => exact .cons a (DtA.take n b)
theorem DtA.drop {H : Hp} : ∀ {ds : List PyData} {vs : List V} (n : Nat), DtA H vs ds → DtA H (vs.drop n) (ds.drop n)
  | _, _, 0, h => h
  | [], _, _ + 1, h => by cases h; exact .nil
  | _ :: _, _, n + 1, h => by cases h with | cons a b => exact DtA.drop n b
theorem DtA.rev {H : Hp} : ∀ {ds : List PyData} {vs : List V}, DtA H vs ds → DtA H vs.reverse ds.reverse
  | [], _, h => by cases h; exact .nil
  | _ :: _, _, h => by
    cases h with
    | cons a b => rw [List.reverse_cons, List.reverse_cons]; exact DtA.app (DtA.rev b) (.cons a .nil)
theorem DtA.ints {H : Hp} : ∀ ns : List Int, DtA H (ns.map V.int) (ns.map PyData.int)
  | [] => .nil
  | n :: r => .cons (.int n) (DtA.ints r)
theorem DtA.intsE {H : Hp} : ∀ {ns : List Int} {vs : List V}, DtA H vs (ns.map PyData.int) → vs = ns.map V.int
  | [], _, h => by cases h; rfl
  | n :: r, _, h => by
    cases h with
    | cons a b => cases a; rw [DtA.intsE b]; rfl
/-- a list of whole numbers -/
theorem Dt.ints {H : Hp} {a : Addr} {ns : List Int} (h : H a = some (.lst (ns.map V.int))) : Dt H (.ref a) (rowD ns) := .lst h (DtA.ints ns)
theorem Dt.intsE {H : Hp} {v : V} {ns : List Int} (h : Dt H v (rowD ns)) : ∃ a, v = .ref a ∧ H a = some (.lst (ns.map V.int)) := by
  unfold rowD at h
  cases h with
  | lst a b => rw [DtA.intsE b] at a; exact ⟨_, rfl, a⟩
theorem Dt.listE {H : Hp} {v : V} {ds : List PyData} (h : Dt H v (.list ds)) : ∃ a xs, v = .ref a ∧ H a = some (.lst xs) ∧ DtA H xs ds := by
  cases h with
  | lst a b => exact ⟨_, _, rfl, a, b⟩
theorem Dt.tupE {H : Hp} {v : V} {ds : List PyData} (h : Dt H v (.tuple ds)) : ∃ a xs, v = .ref a ∧ H a = some (.tup xs) ∧ DtA H xs ds := by
  cases h with
  | tup a b => exact ⟨_, _, rfl, a, b⟩
/-! ### what is owned (and changes) is left out -/
def rs (S : List Addr) (H : Hp) : Hp := fun a => if a ∈ S then none else H a
theorem rs_nil (H : Hp) : rs [] H = H := by funext a; simp [rs]
theorem rs_in {S : List Addr} {H : Hp} {a : Addr} (h : a ∈ S) : rs S H a = none := if_pos h
theorem rs_out {S : List Addr} {H : Hp} {a : Addr} (h : a ∉ S) : rs S H a = H a := if_neg h
theorem rs_some {S : List Addr} {H : Hp} {a : Addr} {o : HO} (h : rs S H a = some o) : a ∉ S ∧ H a = some o := by
  by_cases m : a ∈ S
  · rw [rs_in m] at h; cases h
  · rw [rs_out m] at h; exact ⟨m, h⟩
theorem rs_le {S : List Addr} {H : Hp} : Same (rs S H) H := fun _ _ h => (rs_some h).2
theorem rs_same {S : List Addr} {H H' : Hp} (s : Same H H') : Same (rs S H) (rs S H') := fun b o h => by
  obtain ⟨m, e⟩ := rs_some h
  rw [rs_out m]
  exact s b o e
theorem rs_upd {S : List Addr} {H : Hp} {p : Addr} {o : HO} (h : p ∈ S) : rs S (L2.upd H p o) = rs S H := by
  funext a
  by_cases m : a ∈ S
  · rw [rs_in m, rs_in m]
  · rw [rs_out m, rs_out m, upd_ne (fun e => m (by rw [e]; exact h))]
/-- all of them stand -/
def Has (S : List Addr) (H : Hp) : Prop := ∀ a ∈ S, ∃ o, H a = some o
theorem Has.nil {H : Hp} : Has [] H := fun _ h => nomatch h
theorem Has.same {S : List Addr} {H H' : Hp} (h : Has S H) (s : Same H H') : Has S H' := fun a m => by
  obtain ⟨o, e⟩ := h a m
  exact ⟨o, s a o e⟩
theorem Has.cons {S : List Addr} {H : Hp} {p : Addr} {o : HO} (h : Has S H) (e : H p = some o) : Has (p :: S) H := fun a m => by
  rcases List.mem_cons.mp m with rfl | m
  · exact ⟨o, e⟩
  · exact h a m
theorem Has.upd {S : List Addr} {H : Hp} {p : Addr} {o : HO} (h : Has S H) : Has S (L2.upd H p o) := fun a m => by
  by_cases e : a = p
  · subst e; exact ⟨o, upd_same⟩
  · rw [upd_ne e]; exact h a m
theorem Has.out {S : List Addr} {H : Hp} {p : Addr} (h : Has S H) (n : H p = none) : p ∉ S := fun m => by
  obtain ⟨o, e⟩ := h p m
  rw [n] at e
  cases e
theorem GenAt.has {H : Hp} {g : Addr} {n : Nat} (h : GenAt H g n) : Has [g] H := by
  obtain ⟨x, y, z, e, _⟩ := h
  exact Has.nil.cons e
/-- all but what is owned stays -/
def Sta (S : List Addr) (H H' : Hp) : Prop := Same (rs S H) (rs S H')
theorem Sta.of {S : List Addr} {H H' : Hp} (s : Same H H') : Sta S H H' := rs_same s
theorem Sta.trans {S : List Addr} {H H1 H2 : Hp} (a : Sta S H H1) (b : Sta S H1 H2) : Sta S H H2 := fun c o h => b c o (a c o h)
theorem Sta.at_ {S : List Addr} {H H' : Hp} (s : Sta S H H') {a : Addr} {o : HO} (m : a ∉ S) (h : H a = some o) : H' a = some o := (rs_some (s a o (by rw [rs_out m]; exact h))).2
theorem Sta.upd {S : List Addr} {H : Hp} {p : Addr} {o : HO} (h : p ∈ S) : Sta S H (L2.upd H p o) := fun c u e => by rw [rs_upd h]; exact e
theorem Sta.more {S : List Addr} {H H' : Hp} {p : Addr} (s : Sta S H H') : Sta (p :: S) H H' := fun c o h => by
  obtain ⟨m, e⟩ := rs_some h
  have m2 : c ∉ S := fun z => m (List.mem_cons_of_mem _ z)
  rw [rs_out m]
  exact s.at_ m2 e
theorem But.sta {g : Addr} {H H' : Hp} (b : But g H H') : Sta [g] H H' := fun c o h => by
  obtain ⟨m, e⟩ := rs_some h
  rw [rs_out m]
  exact b c o (fun z => m (by rw [z]; exact List.mem_cons_self)) e
/-- what was there ahead of a new thing does not speak of it -/
theorem under {S : List Addr} {H H' : Hp} {p : Addr} (n : H p = none) (s : Same H H') : Same (rs S H) (rs (p :: S) H') := fun c o h => by
  obtain ⟨m, e⟩ := rs_some h
  rw [rs_out (fun z => by
    rcases List.mem_cons.mp z with rfl | z
    · rw [n] at e; cases e
    · exact m z)]
  exact s c o e
theorem over {S : List Addr} {H : Hp} {p : Addr} : Same (rs (p :: S) H) (rs S H) := fun c o h => by
  obtain ⟨m, e⟩ := rs_some h
  rw [rs_out (fun z => m (List.mem_cons_of_mem _ z))]
  exact e
/-! ### a new list, a new tuple, a sum of lists -/
theorem dt_new {S : List Addr} {H : Hp} {p : Addr} {xs : List V} {ds : List PyData} (hS : Has S H) (n : H p = none) (h : DtA (rs S H) xs ds) : Dt (rs S (upd H p (.lst xs))) (.ref p) (.list ds) :=
  .lst (by rw [rs_out (hS.out n)]; exact upd_same) (h.same (rs_same (same_upd n)))
theorem dt_newT {S : List Addr} {H : Hp} {p : Addr} {xs : List V} {ds : List PyData} (hS : Has S H) (n : H p = none) (h : DtA (rs S H) xs ds) : Dt (rs S (upd H p (.tup xs))) (.ref p) (.tuple ds) :=
  .tup (by rw [rs_out (hS.out n)]; exact upd_same) (h.same (rs_same (same_upd n)))
theorem d_lst {S : List Addr} {H : Hp} {xs : List V} {ds : List PyData} {Q : VK} (hS : Has S H) (h : DtA (rs S H) xs ds) (hz : xs.length ≤ sizeLine) (k : ∀ p H', Same H H' → H p = none → H' p = some (.lst xs) → Dt (rs S H') (.ref p) (.list ds) → Q (.ref p) H') : xs.length ≤ sizeLine ∧ ∀ p, H p = none → Q (.ref p) (upd H p (.lst xs)) :=
  ⟨hz, fun p n => k p _ (same_upd n) n upd_same (dt_new hS n h)⟩
theorem d_tup {S : List Addr} {H : Hp} {xs : List V} {ds : List PyData} {Q : VK} (hS : Has S H) (h : DtA (rs S H) xs ds) (hz : xs.length ≤ sizeLine) (k : ∀ p H', Same H H' → H p = none → H' p = some (.tup xs) → Dt (rs S H') (.ref p) (.tuple ds) → Q (.ref p) H') : xs.length ≤ sizeLine ∧ ∀ p, H p = none → Q (.ref p) (upd H p (.tup xs)) :=
  ⟨hz, fun p n => k p _ (same_upd n) n upd_same (dt_newT hS n h)⟩
theorem d_cat {S : List Addr} {H : Hp} {v w : V} {ds es : List PyData} {Q : VK} (hS : Has S H) (hv : Dt (rs S H) v (.list ds)) (hw : Dt (rs S H) w (.list es)) (hz : ds.length + es.length ≤ sizeLine) (k : ∀ p H', Same H H' → H p = none → Dt (rs S H') (.ref p) (.list (ds ++ es)) → Q (.ref p) H') : rCat v w H Q := by
  obtain ⟨a, xs, rfl, ha, hx⟩ := hv.listE
  obtain ⟨b, ys, rfl, hb, hy⟩ := hw.listE
  exact ⟨a, b, xs, ys, rfl, rfl, (rs_some ha).2, (rs_some hb).2, by rw [hx.len, hy.len]; exact hz, fun p n => k p _ (same_upd n) n (dt_new hS n (hx.app hy))⟩
theorem d_eq {K : PySem.W.Frag} {H : Hp} {v w : V} {d e : PyData} {Q : VK} (hv : Dt H v d) (hw : Dt H w e) (sd : SeqAt.shaped d = true) (se : SeqAt.shaped e = true) (q : Q (.bl (PyData.eqv d e)) H) : rEqD K v w H Q := ⟨d, e, hv.dp, hw.dp, sd, se, q⟩
theorem d_ne {K : PySem.W.Frag} {H : Hp} {v w : V} {d e : PyData} {Q : VK} (hv : Dt H v d) (hw : Dt H w e) (sd : SeqAt.shaped d = true) (se : SeqAt.shaped e = true) (q : Q (.bl (!PyData.eqv d e)) H) : rNeD K v w H Q := ⟨d, e, hv.dp, hw.dp, sd, se, q⟩
/-! ### comprehensions -/
/-- what comes of an item: nothing, or data -/
def Out (S : List Addr) (H : Hp) : Option PyData → Option V → Prop
  | some d, some v => Dt (rs S H) v d
  | none, none => True
  | _, _ => False
def accP (S : List Addr) (H1 : Hp) (D : Addr) (ds : List PyData) (H : Hp) : Prop := Same H1 H ∧ ∃ ys, H D = some (.lst ys) ∧ DtA (rs (D :: S) H) ys ds
theorem acc_step {S : List Addr} {H1 : Hp} {D : Addr} {sel : List (Option PyData)} {i : Nat} {o : Option PyData} {H H4 : Hp} (nD : H1 D = none) (ho : sel[i]? = some o) (hz : sel.length < sizeLine) (h : accP S H1 D ((sel.take i).filterMap id) H) (s4 : Same H H4) :
    ∀ y : Option V, Out (D :: S) H4 o y → match y with
      | some v => ∃ acc, H4 D = some (.lst acc) ∧ acc.length < sizeLine ∧ accP S H1 D ((sel.take (i + 1)).filterMap id) (upd H4 D (.lst (acc ++ [v])))
      | none => accP S H1 D ((sel.take (i + 1)).filterMap id) H4 := by
  obtain ⟨s, ys, hD, hy⟩ := h
  intro y hO
  rw [take_fm ho]
  cases o with
  | none =>
    cases y with
    | none => exact ⟨s.trans s4, ys, s4 _ _ hD, by simpa using hy.same (rs_same s4)⟩
    | some v => exact absurd hO (fun z => z)
  | some d =>
    cases y with
    | none => exact absurd hO (fun z => z)
    | some v =>
      refine ⟨ys, s4 _ _ hD, ?_, same_over nD (s.trans s4), ys ++ [v], upd_same, ?_⟩
      · rw [hy.len]
        exact Nat.lt_of_le_of_lt (fm_len sel i) hz
      · rw [rs_upd List.mem_cons_self]
        exact (hy.same (rs_same s4)).app (.cons hO .nil)
theorem acc_end {S : List Addr} {H1 : Hp} {D : Addr} {ds : List PyData} {H : Hp} (hS : Has S H1) (nD : H1 D = none) (h : accP S H1 D ds H) : Dt (rs S H) (.ref D) (.list ds) := by
  obtain ⟨s, ys, hD, hy⟩ := h
  exact .lst (by rw [rs_out (hS.out nD)]; exact hD) (hy.same over)
theorem lc_dR {lo : Int} {n : Nat} {j : Nat} {tt : TT} {te : TE} {vs : List Nat} {σ : L2.St} {H1 : Hp} {D : Addr} {Qd : Hp → Prop} {S : List Addr} (hS : Has S H1) (sel : List (Option PyData)) (nD : H1 D = none) (hlen : sel.length = n) (hz : n < sizeLine)
    (hw : ∀ x, wipe ((wipe σ vs).set j (some x)) vs = wipe σ vs)
    (hs : ∀ (i : Nat) (o : Option PyData) (H' : Hp), i < n → sel[i]? = some o → Same H1 H' → Has (D :: S) H' → ∀ Qt : Option V → Hp → Prop, (∀ y H'', Same H' H'' → Out (D :: S) H'' o y → Qt y H'') →
      tt ((wipe σ vs).set j (some (.int (lo + (i : Int))))) H' fun b H3 => if b = true then te ((wipe σ vs).set j (some (.int (lo + (i : Int))))) H3 fun y H4 => Qt (some y) H4 else Qt none H3)
    (hd : ∀ H', Same H1 H' → H' D ≠ none → Dt (rs S H') (.ref D) (.list (sel.filterMap id)) → Qd H') :
    ∃ W : Nat → Nat → Hp → Prop, (∃ m, W 0 m (upd H1 D (.lst []))) ∧ ∀ i m H, W i m H →
      ((Itr lo n).stop i H ∧ Qd H) ∨ ((Itr lo n).go i H ∧ ∃ Nx : Hp → Prop, (∀ H', Nx H' → ∃ m', m' < m ∧ W (i + 1) m' H') ∧ ∀ x H', (Itr lo n).yld i H x H' → gName j x (wipe σ vs) H' fun σ2 H2 => wipe σ2 vs = wipe σ vs ∧ tt σ2 H2 fun b H3 =>
        if b = true then te σ2 H3 fun y H4 => ∃ acc, H4 D = some (.lst acc) ∧ acc.length < sizeLine ∧ Nx (upd H4 D (.lst (acc ++ [y]))) else Nx H3) := by
  refine lc_range (lo := lo) (n := n) (fun i H => accP S H1 D ((sel.take i).filterMap id) H) ⟨same_upd nD, [], upd_same, .nil⟩ ?_ ?_
  · rintro i H hi h
    refine ⟨hw _, ?_⟩
    have ho : sel[i]? = some (sel[i]'(by omega)) := List.getElem?_eq_getElem (by omega)
    obtain ⟨s, ys, hD, hy⟩ := id h
    exact hs i _ H hi ho s ((hS.same s).cons hD) (fun o H4 => match o with
      | some y => ∃ acc, H4 D = some (.lst acc) ∧ acc.length < sizeLine ∧ accP S H1 D ((sel.take (i + 1)).filterMap id) (upd H4 D (.lst (acc ++ [y])))
      | none => accP S H1 D ((sel.take (i + 1)).filterMap id) H4) fun y H4 s4 hO => acc_step nD ho (by omega) h s4 y hO
  · rintro H h
    rw [← hlen, List.take_length] at h
    refine hd H h.1 ?_ (acc_end hS nD h)
    obtain ⟨_, ys, hD, _⟩ := h
    rw [hD]
    exact fun z => nomatch z
theorem lc_dL {K : PySem.W.Frag} {a : Addr} {xs : List V} {j : Nat} {tt : TT} {te : TE} {vs : List Nat} {σ : L2.St} {H1 : Hp} {D : Addr} {Qd : Hp → Prop} {S : List Addr} (hS : Has S H1) (sel : List (Option PyData)) (nD : H1 D = none) (hA : SqL K H1 a xs) (hlen : sel.length = xs.length) (hz : xs.length < sizeLine)
    (hw : ∀ x, wipe ((wipe σ vs).set j (some x)) vs = wipe σ vs)
    (hs : ∀ (i : Nat) (x : V) (o : Option PyData) (H' : Hp), xs[i]? = some x → sel[i]? = some o → Same H1 H' → Has (D :: S) H' → ∀ Qt : Option V → Hp → Prop, (∀ y H'', Same H' H'' → Out (D :: S) H'' o y → Qt y H'') →
      tt ((wipe σ vs).set j (some x)) H' fun b H3 => if b = true then te ((wipe σ vs).set j (some x)) H3 fun y H4 => Qt (some y) H4 else Qt none H3)
    (hd : ∀ H', Same H1 H' → H' D ≠ none → Dt (rs S H') (.ref D) (.list (sel.filterMap id)) → Qd H') :
    ∃ W : Nat → Nat → Hp → Prop, (∃ m, W 0 m (upd H1 D (.lst []))) ∧ ∀ i m H, W i m H →
      ((Itl K a).stop i H ∧ Qd H) ∨ ((Itl K a).go i H ∧ ∃ Nx : Hp → Prop, (∀ H', Nx H' → ∃ m', m' < m ∧ W (i + 1) m' H') ∧ ∀ x H', (Itl K a).yld i H x H' → gName j x (wipe σ vs) H' fun σ2 H2 => wipe σ2 vs = wipe σ vs ∧ tt σ2 H2 fun b H3 =>
        if b = true then te σ2 H3 fun y H4 => ∃ acc, H4 D = some (.lst acc) ∧ acc.length < sizeLine ∧ Nx (upd H4 D (.lst (acc ++ [y]))) else Nx H3) := by
  refine lc_list (K := K) (a := a) (xs := xs) (fun i H => accP S H1 D ((sel.take i).filterMap id) H) ⟨same_upd nD, [], upd_same, .nil⟩ (fun i H _ p => p.1.seq hA) ?_ ?_
  · rintro i x H hx h
    refine ⟨hw _, ?_⟩
    have hi := (List.getElem?_eq_some_iff.mp hx).1
    have ho : sel[i]? = some (sel[i]'(by omega)) := List.getElem?_eq_getElem (by omega)
    obtain ⟨s, ys, hD, hy⟩ := id h
    exact hs i x _ H hx ho s ((hS.same s).cons hD) (fun o H4 => match o with
      | some y => ∃ acc, H4 D = some (.lst acc) ∧ acc.length < sizeLine ∧ accP S H1 D ((sel.take (i + 1)).filterMap id) (upd H4 D (.lst (acc ++ [y])))
      | none => accP S H1 D ((sel.take (i + 1)).filterMap id) H4) fun y H4 s4 hO => acc_step nD ho (by omega) h s4 y hO
  · rintro H h
    rw [← hlen, List.take_length] at h
    refine hd H h.1 ?_ (acc_end hS nD h)
    obtain ⟨_, ys, hD, _⟩ := h
    rw [hD]
    exact fun z => nomatch z
/-- maps: each item's data -/
theorem sel_map {α : Type} (l : List α) (f : α → PyData) : (l.map fun x => some (f x)).filterMap id = l.map f := by
  induction l with
  | nil => rfl
  | cons x l ih =>
    show f x :: (l.map fun x => some (f x)).filterMap id = _
    rw [ih]
    rfl
/-- over any walk -/
theorem lc_dW {J : It} {n : Nat} {G : Hp → Prop} {Y : Nat → Hp → V → Hp → Prop} (w : Walk J n G Y) {g : TG} {tt : TT} {te : TE} {vs : List Nat} {σ : L2.St} {H1 : Hp} {D : Addr} {Qd : Hp → Prop} {S : List Addr} (hS : Has S H1) (sel : List (Option PyData)) (nD : H1 D = none) (hlen : sel.length = n) (hz : n < sizeLine)
    (hG : ∀ H', Same H1 H' → G H')
    (hs : ∀ (i : Nat) (o : Option PyData) (H0 : Hp) (x : V) (H' : Hp), i < n → sel[i]? = some o → Same H1 H0 → Has (D :: S) H0 → Y i H0 x H' → ∀ Qt : Option V → Hp → Prop, (∀ y H'', Same H0 H'' → Out (D :: S) H'' o y → Qt y H'') →
      g x (wipe σ vs) H' fun σ2 H2 => wipe σ2 vs = wipe σ vs ∧ tt σ2 H2 fun b H3 => if b = true then te σ2 H3 fun y H4 => Qt (some y) H4 else Qt none H3)
    (hd : ∀ H', Same H1 H' → H' D ≠ none → Dt (rs S H') (.ref D) (.list (sel.filterMap id)) → Qd H') :
    ∃ W : Nat → Nat → Hp → Prop, (∃ m, W 0 m (upd H1 D (.lst []))) ∧ ∀ i m H, W i m H →
      (J.stop i H ∧ Qd H) ∨ (J.go i H ∧ ∃ Nx : Hp → Prop, (∀ H', Nx H' → ∃ m', m' < m ∧ W (i + 1) m' H') ∧ ∀ x H', J.yld i H x H' → g x (wipe σ vs) H' fun σ2 H2 => wipe σ2 vs = wipe σ vs ∧ tt σ2 H2 fun b H3 =>
        if b = true then te σ2 H3 fun y H4 => ∃ acc, H4 D = some (.lst acc) ∧ acc.length < sizeLine ∧ Nx (upd H4 D (.lst (acc ++ [y]))) else Nx H3) := by
  refine lc_it w (fun i H => accP S H1 D ((sel.take i).filterMap id) H) ⟨same_upd nD, [], upd_same, .nil⟩ (fun i H _ p => hG H p.1) ?_ ?_
  · rintro i x H H' hi h y
    have ho : sel[i]? = some (sel[i]'(by omega)) := List.getElem?_eq_getElem (by omega)
    obtain ⟨s, ys, hD, hy⟩ := id h
    exact hs i _ H x H' hi ho s ((hS.same s).cons hD) y (fun o H4 => match o with
      | some y => ∃ acc, H4 D = some (.lst acc) ∧ acc.length < sizeLine ∧ accP S H1 D ((sel.take (i + 1)).filterMap id) (upd H4 D (.lst (acc ++ [y])))
      | none => accP S H1 D ((sel.take (i + 1)).filterMap id) H4) fun y H4 s4 hO => acc_step nD ho (by omega) h s4 y hO
  · rintro H h
    rw [← hlen, List.take_length] at h
    refine hd H h.1 ?_ (acc_end hS nD h)
    obtain ⟨_, ys, hD, _⟩ := h
    rw [hD]
    exact fun z => nomatch z
theorem dt_pairs {K : PySem.W.Frag} {H : Hp} {a : Addr} {ps : List (Int × Int)} (h : Dt H (.ref a) (.list (ps.map pairD))) : PairsAt K H a ps := by
  cases h with
  | lst ha hx =>
    rename_i xs
    have key : ∀ (ps : List (Int × Int)) (xs : List V), DtA H xs (ps.map pairD) → ∃ as : List Addr, xs = as.map V.ref ∧ as.length = ps.length ∧ ∀ (i : Nat) (t : Addr) (p : Int × Int), as[i]? = some t → ps[i]? = some p → SqT K H t [.int p.1, .int p.2] := fun ps => by
      induction ps with
      | nil => intro xs h; cases h; exact ⟨[], rfl, rfl, fun i t p ht => by simp at ht⟩
      | cons p ps ih =>
        intro xs h
        cases h with
        | cons b c =>
          obtain ⟨as, rfl, hl, k⟩ := ih _ c
          obtain ⟨t, ys, rfl, ht, hy⟩ := (show Dt H _ (.tuple [.int p.1, .int p.2]) from b).tupE
          rw [DtA.intsE (ns := [p.1, p.2]) hy] at ht
          refine ⟨t :: as, rfl, by rw [List.length_cons, List.length_cons, hl], fun i u q hu hq => ?_⟩
          cases i with
          | zero =>
            rw [List.getElem?_cons_zero] at hu hq
            cases hu
            cases hq
            exact .inl (.inl ht)
          | succ i =>
            rw [List.getElem?_cons_succ] at hu hq
            exact k i u q hu hq
    obtain ⟨as, rfl, hl, k⟩ := key ps xs hx
    exact ⟨as, .inl (.inl ha), hl, k⟩
end My

namespace My
open PySem PySem.Spec PyProof.Rows L2 Pre
open Sem (wp)
/-! ### zip(xs, ys, strict=True) of lists and tuples of one length -/
/-- a strict zip object -/
abbrev SZip (h : Heap) (z TI TO : Addr) (f0 : Value) : Prop :=
  h.get? z = some { cls := .type "zip", dict := none, data := .fields #[f0, .bool false, .bool true, .ref TI, .ref TO], slots := #[] }
section
variable {prog : Program} {w : World} {A : Around} {E : Value → Shared → Prop} {s : Shared}
theorem draw_some {it : Addr} {fp : List Addr} {n i : Nat} {Pd : Nat → Value → Prop} {St : Nat → Heap → Prop} {Q : Option Value → Shared → Prop} (Dr : Draws prog w A it fp n Pd St) (lt : i < n) (st : St i s.heap)
    (go : ∀ x g' tk, Pd i x → St (i + 1) g' → Heap.SameBut it s.heap g' → Q (some x) { s with heap := g', toks := tk }) : wpAny (model prog w) A (Builtin.SmallTypes.nextOrEnd (.ref it)) Q E s := by
  unfold Builtin.SmallTypes.nextOrEnd
  exact wpAny_bind (wpAny_attempt (Dr.item i _ _ _ lt st fun x g' tk px st' sb => wpAny_pure (go x g' tk px st' sb)))
theorem draw_none {it : Addr} {fp : List Addr} {n : Nat} {Pd : Nat → Value → Prop} {St : Nat → Heap → Prop} {Q : Option Value → Shared → Prop} (Dr : Draws prog w A it fp n Pd St) (st : St n s.heap)
    (go : ∀ g', Heap.ExtBut it s.heap g' → Q none { s with heap := g' }) : wpAny (model prog w) A (Builtin.SmallTypes.nextOrEnd (.ref it)) Q E s := by
  unfold Builtin.SmallTypes.nextOrEnd
  refine wpAny_bind (wpAny_attempt (Dr.done _ _ _ st fun g' e ext he => ?_))
  obtain ⟨o, ho, hc⟩ := he
  exact wpAny_bind (wpAny_isInstance (T := "StopIteration") (b := true) ⟨o, ho, hc⟩ isSubtype_stop (wpAny_pure (go g' ext)))
theorem stop_raised {α : Type} {Q : α → Shared → Prop} (hh : A.handled = none) (go : ∀ g' e, (∀ c o, s.heap.get? c = some o → g'.get? c = some o) → (∃ o, g'.get? e = some o ∧ o.cls = .type "StopIteration") → E (.ref e) { s with heap := g' }) :
    wpAny (model prog w) A (Builtin.SmallTypes.stopIteration (α := α)) Q E s := by
  (show wpAny _ _ (newExc (.type "StopIteration") [] >>= _) _ _ _); refine wpAny_bind ?_; simp only [newExc, newTuple]
  refine wpAny_bind (wpAny_newObj_type (wpAny_bind (m := firstArgMember _ _) (wpAny_of_eq (a := Value.none) (by first | rfl | (simp only [firstArgMember]; rfl)) (wpAny_newObj_type ?_ (by size_fits)))) (by size_fits))
  simp only [raiseNew]; refine wpAny_bind (wpAny_handled ?_); rw [hh]; refine wpAny_bind (wpAny_pure (wpAny_throw ?_))
  exact go _ _ (fun c o e => Heap.get?_push_of_some _ (Heap.get?_push_of_some _ e)) ⟨_, Heap.get?_push_size _ rfl, rfl⟩
theorem zs_next (hh : A.handled = none) {z TI TO i1 i2 : Addr} {fp1 fp2 : List Addr} {n i : Nat} {Pa Pb : Nat → Value → Prop} {Sa Sb : Nat → Heap → Prop} {a b : Value} {Q : Value → Shared → Prop} (S : ZipSep2 z TI TO i1 i2 fp1 fp2)
    (Da : Draws prog w A i1 fp1 n Pa Sa) (Db : Draws prog w A i2 fp2 n Pb Sb) (hz : SZip s.heap z TI TO .none) (hI : IsTupOf2 s.heap TI (.ref i1) (.ref i2)) (hO : IsTupOf2 s.heap TO a b) (sa : Sa i s.heap) (sb : Sb i s.heap) (le : i ≤ n)
    (goes : i < n → ∀ x y g' tk, Pa i x → Pb i y → SZip g' z TI TO (rawInt s.heap.objs.size) → IsTupOf2 g' TO x y → Sa (i + 1) g' → Sb (i + 1) g' → IsTupOf2 g' s.heap.objs.size x y → g'.objs.size = s.heap.objs.size + 1 →
      (∀ c o, c ≠ z → c ≠ TO → c ≠ i1 → c ≠ i2 → s.heap.get? c = some o → g'.get? c = some o) → Q (.ref s.heap.objs.size) { s with heap := g', toks := tk })
    (ends : i = n → ∀ g' tk e, (∀ c o, c ≠ z → c ≠ TO → c ≠ i1 → c ≠ i2 → s.heap.get? c = some o → g'.get? c = some o) → (∃ o, g'.get? e = some o ∧ o.cls = .type "StopIteration") → E (.ref e) { s with heap := g', toks := tk }) :
    wpAny (model prog w) A (Builtin.«zip.__next__» ⟨[.ref z], []⟩) (fun fin s' => ∃ v, fin = .done (.ret v) ∧ Q v s') E s := by
  obtain ⟨hp, gs, dr, tk0, os⟩ := s
  (show wpAny _ _ (field (.ref z) 2 >>= _) _ _ _); refine wpAny_bind (wpAny_field hz rfl (x := .bool true) rfl ?_)
  (show wpAny _ _ (field (.ref z) 3 >>= _) _ _ _); refine wpAny_bind (wpAny_field hz rfl (x := .ref TI) rfl (wpAny_bind (wpAny_seqItems hI rfl ?_)))
  (show wpAny _ _ (Builtin.SmallTypes.ownedTupleIsFree (.ref z) >>= _) _ _ _); refine wpAny_bind ?_; unfold Builtin.SmallTypes.ownedTupleIsFree
  refine wpAny_bind (wpAny_field hz rfl (x := .none) rfl (wpAny_pure ?_)); simp only [if_true]; refine wpAny_bind (wpAny_rule (wpAny_bind (wpAny_field hz rfl (x := .ref TO) rfl ?_)))
  refine wpAny_bind (wpAny_setField_rec hz (by simp) fun g0 hz0 k0 => ?_)
  replace hz0 : SZip g0 z TI TO .ellipsis := hz0; replace k0 : Heap.SameBut z hp g0 := k0
  refine wpAny_bind ?_; simp only [List.zipIdx_cons, List.zipIdx_nil, List.forIn_cons, List.forIn_nil]; refine wpAny_bind (wpAny_bind (wpAny_onRaise ?_))
  (show wpAny _ _ (Builtin.SmallTypes.nextOrEnd (.ref i1)) _ _ ⟨g0, gs, dr, tk0, os⟩)
  rcases Nat.lt_or_ge i n with lt | ge
  · refine draw_some Da lt (Da.over sa k0 S.zf1) fun x p1 tk1 hx sn1 k1 => ?_
    have u1 : IsTupOf2 p1 TO a b := k1.extBut _ _ S.Ti1 (k0.extBut _ _ S.TOz hO)
    refine wpAny_bind (wpAny_seqItems (s := ⟨p1, gs, dr, tk1, os⟩) u1 rfl (wpAny_bind (updateSeq_IsTupOf2 (s := ⟨p1, gs, dr, tk1, os⟩) u1 fun g1 t1 m1 => wpAny_bind (wpAny_letGo (wpAny_pure ?_)))))
    replace t1 : IsTupOf2 g1 TO x b := t1; replace m1 : Heap.SameBut TO p1 g1 := m1
    refine wpAny_bind (wpAny_bind (wpAny_onRaise ?_)); (show wpAny _ _ (Builtin.SmallTypes.nextOrEnd (.ref i2)) _ _ ⟨g1, gs, dr, tk1, os⟩)
    refine draw_some Db lt (Db.over (Db.over (Db.over sb k0 S.zf2) k1 S.sep1_2) m1 S.Tf2) fun y p2 tk2 hy sn2 k2 => ?_
    replace k2 : Heap.SameBut i2 g1 p2 := k2
    have u2 : IsTupOf2 p2 TO x b := k2.extBut _ _ S.Ti2 t1
    refine wpAny_bind (wpAny_seqItems (s := ⟨p2, gs, dr, tk2, os⟩) u2 rfl (wpAny_bind (updateSeq_IsTupOf2 (s := ⟨p2, gs, dr, tk2, os⟩) u2 fun g2 t2 m2 => wpAny_bind (wpAny_letGo (wpAny_pure (wpAny_pure ?_))))))
    replace t2 : IsTupOf2 g2 TO x y := t2; replace m2 : Heap.SameBut TO p2 g2 := m2
    refine wpAny_bind (wpAny_seqItems (s := ⟨g2, gs, dr, tk2, os⟩) t2 rfl (wpAny_bind (wpAny_newTuple ?_)))
    have size2 : g2.objs.size = hp.objs.size := by rw [m2.1, k2.1, m1.1, k1.1, k0.1]
    have zz : SZip g2 z TI TO .ellipsis := m2.extBut _ _ S.TOz.symm (k2.extBut _ _ S.zi2 (m1.extBut _ _ S.TOz.symm (k1.extBut _ _ S.zi1 hz0)))
    have stay : ∀ c o, c ≠ z → c ≠ TO → c ≠ i1 → c ≠ i2 → hp.get? c = some o → g2.get? c = some o := fun c o cz cT c1 c2 e => m2.extBut _ _ cT (k2.extBut _ _ c2 (m1.extBut _ _ cT (k1.extBut _ _ c1 (k0.extBut _ _ cz e))))
    have na : Sa (i + 1) g2 := Da.over (Da.over (Da.over sn1 m1 S.Tf1) k2 S.sep2_1) m2 S.Tf1
    have nb : Sb (i + 1) g2 := Db.over sn2 m2 S.Tf2
    have zl : z < g2.objs.size := Heap.lt_size zz
    (show wpAny _ _ (Builtin.SmallTypes.ownedTupleHandOut (.ref z) (.ref g2.objs.size) >>= _) _ _ ⟨g2.push { cls := .type "tuple", data := .seq #[x, y] }, gs, dr, tk2, os⟩); refine wpAny_bind ?_; unfold Builtin.SmallTypes.ownedTupleHandOut
    have z3 : SZip (g2.push { cls := .type "tuple", data := .seq #[x, y] }) z TI TO .ellipsis := Heap.get?_push_of_some _ zz
    refine wpAny_bind (wpAny_setField_rec z3 (by simp) fun g4 z4 k4 => ?_)
    replace z4 : SZip g4 z TI TO (rawInt g2.objs.size) := z4
    refine wpAny_setField_rec z4 (by simp) fun g5 z5 k5 => ?_
    replace z5 : SZip g5 z TI TO (rawInt g2.objs.size) := z5; replace k4 : Heap.SameBut z (g2.push { cls := .type "tuple", data := .seq #[x, y] }) g4 := k4; replace k5 : Heap.SameBut z g4 g5 := k5
    have up5 : ∀ c o, c ≠ z → g2.get? c = some o → g5.get? c = some o := fun c o cz e => k5.extBut _ _ cz (k4.extBut _ _ cz (Heap.get?_push_of_some _ e))
    have t5 : IsTupOf2 g5 g2.objs.size x y := k5.extBut _ _ (Nat.ne_of_gt zl) (k4.extBut _ _ (Nat.ne_of_gt zl) (Heap.get?_push_size _ rfl))
    have size5 : g5.objs.size = g2.objs.size + 1 := by rw [k5.1, k4.1, Heap.size_push]
    rw [size2] at z5 t5 size5
    refine wpAny_pure ⟨_, rfl, ?_⟩; (show Q (.ref g2.objs.size) ⟨g5, gs, dr, tk2, os⟩); rw [size2]
    exact goes lt x y g5 tk2 hx hy z5 (up5 _ _ S.TOz t2) (Da.frame _ _ _ na fun c hc o e => up5 c o (fun q => S.zf1 (q ▸ hc)) e) (Db.frame _ _ _ nb fun c hc o e => up5 c o (fun q => S.zf2 (q ▸ hc)) e) t5 size5 fun c o cz cT c1 c2 e => up5 c o cz (stay c o cz cT c1 c2 e)
  · have ei : i = n := Nat.le_antisymm le ge
    subst ei
    refine draw_none Da (Da.over sa k0 S.zf1) fun g1 x1 => ?_
    replace x1 : Heap.ExtBut i1 g0 g1 := x1
    have z1 : SZip g1 z TI TO .ellipsis := x1 _ _ S.zi1 hz0
    refine wpAny_bind (wpAny_setField_rec (s := ⟨g1, gs, dr, tk0, os⟩) z1 (by simp) fun g2 z2 k2 => ?_)
    replace k2 : Heap.SameBut z g1 g2 := k2
    refine wpAny_bind ?_
    (show wpAny _ _ (forIn _ _ _ >>= _) _ _ ⟨g2, gs, dr, tk0, os⟩)
    simp only [List.drop_succ_cons, List.drop_zero, List.zipIdx_cons, List.zipIdx_nil, List.forIn_cons, List.forIn_nil]
    refine wpAny_bind (wpAny_bind (wpAny_bind (draw_none Db (s := ⟨g2, gs, dr, tk0, os⟩) (Db.frame _ _ _ sb fun c hc o e => ?_) fun g3 x3 => ?_)))
    · have cz : c ≠ z := fun q => S.zf2 (q ▸ hc)
      exact k2.extBut _ _ cz (x1 _ _ (fun q => S.sep1_2 (q ▸ hc)) (k0.extBut _ _ cz e))
    simp only [Option.isSome_none, Bool.false_eq_true, if_false]
    refine wpAny_pure (wpAny_pure (wpAny_bind (wpAny_rule (stop_raised (s := ⟨g3, gs, dr, tk0, os⟩) hh fun g4 e x4 he => ?_))))
    exact ends rfl g4 tk0 e (fun c o cz _ c1 c2 q => x4 _ _ (x3 _ _ c2 (k2.extBut _ _ cz (x1 _ _ c1 (k0.extBut _ _ cz q))))) he
theorem sz_type {z TI TO : Addr} {f0 : Value} (hz : SZip s.heap z TI TO f0) : s.TypeIs (.ref z) "zip" := ⟨_, hz, rfl⟩
theorem zs_pyNext (hh : A.handled = none) {z TI TO i1 i2 : Addr} {fp1 fp2 : List Addr} {n i : Nat} {Pa Pb : Nat → Value → Prop} {Sa Sb : Nat → Heap → Prop} {a b : Value} {Q : Option Value → Shared → Prop} (S : ZipSep2 z TI TO i1 i2 fp1 fp2)
    (Da : Draws prog w A.in1 i1 fp1 n Pa Sa) (Db : Draws prog w A.in1 i2 fp2 n Pb Sb) (hz : SZip s.heap z TI TO .none) (hI : IsTupOf2 s.heap TI (.ref i1) (.ref i2)) (hO : IsTupOf2 s.heap TO a b) (sa : Sa i s.heap) (sb : Sb i s.heap) (le : i ≤ n)
    (goes : i < n → ∀ x y g' tk, Pa i x → Pb i y → SZip g' z TI TO (rawInt s.heap.objs.size) → IsTupOf2 g' TO x y → Sa (i + 1) g' → Sb (i + 1) g' → IsTupOf2 g' s.heap.objs.size x y → g'.objs.size = s.heap.objs.size + 1 →
      (∀ c o, c ≠ z → c ≠ TO → c ≠ i1 → c ≠ i2 → s.heap.get? c = some o → g'.get? c = some o) → Q (some (.ref s.heap.objs.size)) { s with heap := g', toks := tk })
    (ends : i = n → ∀ g' tk, (∀ c o, c ≠ z → c ≠ TO → c ≠ i1 → c ≠ i2 → s.heap.get? c = some o → g'.get? c = some o) → Q none { s with heap := g', toks := tk }) :
    wpAny (model prog w) A (pyNext (.ref z)) Q E s := by
  unfold pyNext
  refine wpAny_bind (wpAny_attempt (wpAny_callSpecial?_slot (name := Str.ofString "__next__") (sz_type hz) F.slot_zip_next (wpAny_call_entry F.slot_zip_next (sz_type hz) F.entry_zip_next (zs_next (A := A.in1) (show A.in1.handled = none from hh) S Da Db hz hI hO sa sb le (fun lt x y g' tk p1 p2 p3 p4 p5 p6 p7 p8 p9 => wpAny_pure (goes lt x y g' tk p1 p2 p3 p4 p5 p6 p7 p8 p9)) fun e1 g' tk e k he => ?_) (F.args_zip_next_1 _))))
  obtain ⟨o, ho, hc⟩ := he
  exact wpAny_bind (wpAny_isInstance (T := "StopIteration") (b := true) ⟨o, ho, hc⟩ isSubtype_stop (wpAny_pure (ends e1 g' tk k)))
theorem zs_go {elts : List Expr} {k1} {pos : Pos} {z TI TO T : Addr} {Q : Unit → Shared → Prop} (hz : SZip s.heap z TI TO (rawInt T)) (go : ∀ g', SZip g' z TI TO .none → Heap.SameBut z s.heap g' → Q () { s with heap := g' }) :
    wpAny (model prog w) A (letOwnedTupleGo (.Tuple elts k1 pos) (.ref z) (.ref T)) Q E s := by
  unfold letOwnedTupleGo
  refine wpAny_bind (wpAny_load hz ?_)
  show wpAny _ _ (if (["enumerate", "zip", "dict_itemiterator", "dict_reverseitemiterator", "odict_iterator", "itertools.zip_longest", "itertools.pairwise"].contains "zip" && (#[rawInt T, .bool false, .bool true, .ref TI, .ref TO] : Array Value)[0]? == some (rawInt T)) = true then _ else _) Q E s
  rw [if_pos (by simp)]; refine wpAny_bind (wpAny_rule ?_); (show wpAny _ _ (setField (.ref z) 0 .none) Q E s)
  exact wpAny_setField_rec hz (by simp) fun g' z' k' => go g' z' k'
theorem zs_iter {z TI TO : Addr} {f0 : Value} {Q : Value → Shared → Prop} (hz : SZip s.heap z TI TO f0) (go : Q (.ref z) s) : wpAny (model prog w) A (pyIter (.ref z)) Q E s := by
  refine wpAny_pyIter_slot (sz_type hz) F.slot_zip_iter (wpAny_call_entry F.slot_zip_iter (sz_type hz) F.entry_zip_iter ?_ (F.args_zip_iter_1 _))
  (show wpAny _ _ (ret (.ref z)) _ _ s); exact wpAny_pure ⟨_, rfl, "zip", _, sz_type hz, F.slot_zip_next.lookup, go⟩
end
end My

namespace My
open PySem PySem.Spec PyProof.Rows L2 Pre
open Sem (wp)
theorem zs_tc (a b : Value) : checkTypeCall "zip" ⟨[a, b], [("strict", .bool true)]⟩ = pure () := by kernel_rfl
theorem zs_nc (a b : Value) : checkBuiltinCall "zip.__new__" ⟨[.type "zip", a, b], [("strict", .bool true)]⟩ = pure () := by kernel_rfl
theorem zs_ao (a b c : Value) : argsOk "object.__init__" ⟨[a, b, c], [("strict", .bool true)]⟩ := by
  unfold argsOk; rw [signature?_of (id := "object.__init__") (n := ['_', '_', 't', 'i', 'n', 'i', '_', '_']) (o := ['t', 'c', 'e', 'j', 'b', 'o']) (by kernel_rfl) PySem.F.owner_object]; kernel_rfl
section
variable {prog : Program} {w : World} {A : Around} {E : Value → Shared → Prop} {s : Shared}
theorem zs_init (v a b : Value) : Meets (Builtin.«object.__init__» ⟨[v, a, b], [("strict", .bool true)]⟩) (fun _ R s => s.TypeIs v "zip" ∧ R (.ok (.ret .none)) s) := by
  refine Meets.of_wp fun prog w A R s hs => ?_
  obtain ⟨hT, hq⟩ := hs; have hl := PySem.F.called_zip.init.lookup; have hm := PySem.F.called_zip.made
  repeat (any_goals (first | assumption | wp_step))
  exact ⟨_, rfl, hq⟩
theorem zs_call {a b : Value} {S : PySem.Spec} {Q : Value → Shared → Prop} (g : Meets (Builtin.«zip.__new__» ⟨[.type "zip", a, b], [("strict", .bool true)]⟩) S) (h : S A.in1 (wants (fun v s' => s'.TypeIs v "zip" ∧ Q v s') E) s) :
    wpAny (model prog w) A (call (.type "zip") [a, b] [("strict", .bool true)]) Q E s := by
  have ft := PySem.F.called_zip
  obtain ⟨c, tl, hmro⟩ := ft.mro
  have hmade := ft.made
  have hsub := ft.sub
  refine wpAny_call (codeAny_of_tree ?_)
  show wpAny _ _ (callAny (.type "zip") _) _ _ _
  refine wpAny_pure ⟨Code.quiet_builtin _ (by decide +kernel), codeAny_builtin PySem.F.entry_type_call ?_⟩
  rw [Around.under_plain (weight_type_call_type "zip" [a, b] [("strict", .bool true)]) (units_type_call_type "zip" [a, b] [("strict", .bool true)])]
  have h1 := ft.notType
  have h2 := ft.canCreate
  have htc := zs_tc a b
  repeat (any_goals (first | assumption | wp_step))
  refine codeAny_mono (codeAny_call_builtin ft.plain PySem.F.entry_zip_new (wpAny_of_eq (zs_nc a b) (g prog w A.in1 _ s h))) fun r s₁ hr => ?_
  cases r with
  | error e => exact hr
  | ok fl =>
    cases fl with
    | ret obj =>
      obtain ⟨hT, hq⟩ := hr
      have hli := ft.init.lookup
      have hbi := ft.init.bind obj
      repeat (any_goals (first | assumption | wp_step))
      refine codeAny_mono (codeAny_call_builtin ft.init.plain PySem.F.entry_object_init (ft.init.check _ _ _ _ _ _ _ _ hT (zs_ao obj a b) (zs_init obj a b prog w A.in1 _ s₁ (show (fun (_ : Around) (R : Except Value Flow → Shared → Prop) (s : Shared) => s.TypeIs obj "zip" ∧ R (.ok (.ret .none)) s) A.in1 (wants (fun r s₂ => r = .none ∧ Q obj s₂) E) s₁ from ⟨hT, rfl, hq⟩)))) fun r₂ s₂ hr₂ => ?_
      cases r₂ with
      | error e => exact hr₂
      | ok fl₂ =>
        cases fl₂ with
        | ret r =>
          obtain ⟨rfl, hq⟩ := hr₂
          repeat (any_goals (first | assumption | wp_step))
        | _ => exact hr₂.elim
    | _ => exact hr.elim
end
abbrev zq1 (h : Heap) (a : Addr) : Heap := h.push { cls := .type "tuple_iterator", data := .fields #[.ref a, .int 0 0] }
abbrev zq2 (h : Heap) (a b : Addr) : Heap := (zq1 h a).push { cls := .type "list_iterator", data := .fields #[.ref b, .int 0 0] }
abbrev zq3 (h : Heap) (a b : Addr) : Heap := (zq2 h a b).push { cls := .type "tuple", data := .seq #[.ref h.objs.size, .ref (zq1 h a).objs.size] }
abbrev zq4 (h : Heap) (a b : Addr) : Heap := (zq3 h a b).push { cls := .type "tuple", data := .seq #[.none, .none] }
abbrev zq5 (h : Heap) (a b : Addr) : Heap := (zq4 h a b).push { cls := .type "zip", data := .fields #[.none, .bool false, .bool true, .ref (zq2 h a b).objs.size, .ref (zq3 h a b).objs.size] }
theorem zs_new (a b : Addr) (xs ys : Array Value) :
    Meets (Builtin.«zip.__new__» ⟨[.type "zip", .ref a, .ref b], [("strict", .bool true)]⟩) (fun _ R s => s.heap.IsTuple a xs ∧ s.heap.IsList b ys ∧
      R (.ok (.ret (.ref (zq4 s.heap a b).objs.size))) { s with heap := zq5 s.heap a b }) :=
  .of_wp fun prog w A R s h => by
    obtain ⟨hp, g, d, tk, os⟩ := s; obtain ⟨ha, hb, h⟩ := h; have hsub := sub_zip
    have hA : Heap.IsTuple (Shared.heap ⟨hp, g, d, tk, os⟩) a xs := ha; have hB : Heap.IsList (Shared.heap ⟨hp.push { cls := .type "tuple_iterator", data := .fields #[.ref a, .int 0 0] }, g, d, tk, os⟩) b ys := Heap.IsList.push hb _
    wp_walk using wpAny_pyIter_tuple hA, wpAny_pyIter_list hB
    exact ⟨_, rfl, h⟩
end My

namespace My
open PySem PySem.Spec PyProof.Rows L2 Pre
open Sem (wp)
section
variable {prog : Program} {w : World} {A : Around} {E : Value → Shared → Prop} {s : Shared}
theorem zs_made {a b : Addr} {xs ys : Array Value} {Q : Value → Shared → Prop} (ha : s.heap.IsTuple a xs) (hb : s.heap.IsList b ys)
    (go : ∀ g', SZip g' (s.heap.objs.size + 4) (s.heap.objs.size + 2) (s.heap.objs.size + 3) .none → IsTupOf2 g' (s.heap.objs.size + 2) (.ref s.heap.objs.size) (.ref (s.heap.objs.size + 1)) → IsTupOf2 g' (s.heap.objs.size + 3) .none .none →
      g'.IsTupleIter s.heap.objs.size a 0 → g'.IsListIter (s.heap.objs.size + 1) b 0 → (∀ c o, s.heap.get? c = some o → g'.get? c = some o) → Q (.ref (s.heap.objs.size + 4)) { s with heap := g' }) :
    wpAny (model prog w) A (call (.type "zip") [.ref a, .ref b] [("strict", .bool true)]) Q E s := by
  refine zs_call (zs_new a b xs ys) ⟨ha, hb, ?_⟩
  have n1 : (zq1 s.heap a).objs.size = s.heap.objs.size + 1 := Heap.size_push ..
  have n2 : (zq2 s.heap a b).objs.size = s.heap.objs.size + 2 := by rw [Heap.size_push, n1]
  have n3 : (zq3 s.heap a b).objs.size = s.heap.objs.size + 3 := by rw [Heap.size_push, n2]
  have n4 : (zq4 s.heap a b).objs.size = s.heap.objs.size + 4 := by rw [Heap.size_push, n3]
  have p : ∀ {h : Heap} {o o' : Obj} {c : Addr}, h.get? c = some o → (h.push o').get? c = some o := fun e => Heap.get?_push_of_some _ e
  have q5 : (zq5 s.heap a b).get? (zq4 s.heap a b).objs.size = some _ := Heap.get?_push_size _ rfl
  have q4 : (zq5 s.heap a b).get? (zq3 s.heap a b).objs.size = some _ := p (Heap.get?_push_size _ rfl)
  have q3 : (zq5 s.heap a b).get? (zq2 s.heap a b).objs.size = some _ := p (p (Heap.get?_push_size _ rfl))
  have q2 : (zq5 s.heap a b).get? (zq1 s.heap a).objs.size = some _ := p (p (p (Heap.get?_push_size _ rfl)))
  have q1 : (zq5 s.heap a b).get? s.heap.objs.size = some _ := p (p (p (p (Heap.get?_push_size _ rfl))))
  show _ ∧ _; rw [n2, n3, n4] at q5; rw [n1, n2] at q3; rw [n3] at q4; rw [n1] at q2; rw [n4]
  exact ⟨⟨_, q5, rfl⟩, go _ q5 q3 q4 ⟨_, q1, rfl, rfl⟩ ⟨_, q2, rfl, rfl⟩ fun c o x => p (p (p (p (p x))))⟩
end
/-- the tuple at a and the list at b, of one length, side by side -/
def ItzS (K : PySem.W.Frag) (a b : Addr) : It :=
  ⟨fun i H => ∃ (xs ys : List V), SqT K H a xs ∧ SqL K H b ys ∧ xs.length = ys.length ∧ i < xs.length,
    fun i H v H' => ∃ T x y, v = .ref T ∧ H T = none ∧ H' = upd H T (.tup [x, y]) ∧ (∀ xs, SqT K H a xs → xs[i]? = some x) ∧ ∀ ys, SqL K H b ys → ys[i]? = some y,
    fun i H => ∃ xs ys : List V, SqT K H a xs ∧ SqL K H b ys ∧ xs.length = i ∧ ys.length = i⟩
theorem turn_zs {P : Program} {w : World} {K : PySem.W.Frag} {elts : List Expr} {kk : Nat} {tpos : Pos} {a b z TI TO i1 i2 : Addr} (D : ZipApart z TI TO i1 i2 a b) :
    Turn P w K (.Tuple elts kk tpos) (ItzS K a b) [z, TI, TO, i1, i2] z (fun i h => SZip h z TI TO .none ∧ IsTupOf2 h TI (.ref i1) (.ref i2) ∧ (∃ x y, IsTupOf2 h TO x y) ∧ h.IsTupleIter i1 a i ∧ h.IsListIter i2 b i) := by
  have Sp : ZipSep2 z TI TO i1 i2 [i1, a] [i2, b] := ⟨D.TIz, D.TOz, D.TITO, D.TIi1, by simp, by simp [D.i1z.symm, D.l1z.symm], by simp [D.TOi1, D.l1TO.symm], D.TIi2, by simp, by simp [D.i2z.symm, D.l2z.symm], by simp [D.TOi2, D.l2TO.symm], by simp [D.i12, D.l2i1.symm], by simp [D.i12.symm, D.l1i2.symm]⟩
  refine ⟨by simp, fun i h st c hc => ?_, fun i h h' st k => ?_, ?_, ?_, fun A i s Q E st h => zs_iter st.1 h⟩
  · obtain ⟨hz, hTI, ⟨x, y, hTO⟩, ⟨o1, e1, _, d1⟩, ⟨o2, e2, _, d2⟩⟩ := st
    have e' : c = z ∨ c = TI ∨ c = TO ∨ c = i1 ∨ c = i2 := by simpa using hc
    rcases e' with q | q | q | q | q <;> rw [q]
    · exact ⟨_, hz, fun v q => nomatch q⟩
    · exact ⟨_, hTI, fun v q => nomatch q⟩
    · exact ⟨_, hTO, fun v q => nomatch q⟩
    · exact ⟨o1, e1, fun v q => by rw [d1] at q; cases q⟩
    · exact ⟨o2, e2, fun v q => by rw [d2] at q; cases q⟩
  · obtain ⟨hz, hTI, ⟨x, y, hTO⟩, h1, h2⟩ := st
    have kz := k z (by simp); have kI := k TI (by simp); have kO := k TO (by simp)
    exact ⟨kz _ hz, kI _ hTI, ⟨x, y, kO _ hTO⟩, h1.at fun o q => k i1 (by simp) o q, h2.at fun o q => k i2 (by simp) o q⟩
  · intro X hP hw hK hc i pins s σ H E I hf st hg
    subst hP; subst hw; subst hK
    obtain ⟨hz, hTI, ⟨x0, y0, hTO⟩, h1, h2⟩ := st; obtain ⟨xs, ys, hqx, hqy, hl, hi⟩ := hg
    obtain ⟨its, rv, p, _⟩ := I.tuple hqx; obtain ⟨its2, rv2, p2, _⟩ := I.list hqy
    have l1 := rv.length; have l2 := rv2.length
    have hzl : z < s.heap.objs.size := Heap.lt_size hz
    have hh : X.A.handled = none := I.ok.hd hc
    have Da := Draws.tuple (prog := X.prog) (w := X.w) (A := X.A.in1) (show X.A.in1.handled = none from hh) i1 a D.l1i1 its.toArray
    have Db0 := Draws.list (prog := X.prog) (w := X.w) (A := X.A.in1) (show X.A.in1.handled = none from hh) i2 b D.l2i2 its2.toArray
    have esz : its2.toArray.size = its.toArray.size := by simp; omega
    have Db : Draws X.prog X.w X.A.in1 i2 [i2, b] its.toArray.size (fun j v => its2.toArray[j]? = some v) (fun j h => h.IsListIter i2 b j ∧ h.IsList b its2.toArray) := by rw [← esz]; exact Db0
    have hin : i < its.toArray.size := by simp; omega
    refine zs_pyNext (s := s) hh Sp Da Db hz hTI hTO ⟨h1, p⟩ ⟨h2, p2.isList⟩ (Nat.le_of_lt hin) (fun _ u u2 h' tk px py z' TO' sa' sb' hT hsz hk => ?_) (fun e => absurd e (Nat.ne_of_lt hin))
    have hu : its[i]? = some u := by simpa using px
    have hu2 : its2[i]? = some u2 := by simpa using py
    obtain ⟨x, hx⟩ : ∃ x, xs[i]? = some x := ⟨_, List.getElem?_eq_getElem hi⟩
    obtain ⟨y, hy⟩ : ∃ y, ys[i]? = some y := ⟨_, List.getElem?_eq_getElem (hl ▸ hi)⟩
    obtain ⟨u', hu', ru⟩ := rv.get hx; obtain ⟨u2', hu2', ru2⟩ := rv2.get hy
    rw [hu] at hu'; cases hu'; rw [hu2] at hu2'; cases hu2'
    refine ⟨_, rfl, zs_go (s := { s with heap := h', toks := tk }) z' fun h'' z'' sb => ?_⟩
    have hT2 : h''.get? s.heap.objs.size = some { cls := .type "tuple", data := .seq #[u, u2] } := (sb.2 _ (Nat.ne_of_gt hzl)).trans hT
    have new : ObjOk X.prog X.w (upd H s.heap.objs.size (.tup [x, y])) h'' s.heap.objs.size (.tup [x, y]) := ⟨by show 2 ≤ sizeLine; decide, [u, u2], .cons ru (.cons ru2 .nil), ⟨_, hT2, rfl, _, rfl⟩⟩
    have I1 : Inv X pins σ (upd H s.heap.objs.size (.tup [x, y])) { s with heap := h'', toks := tk } :=
      I.turnedNew (t' := tk) (ch := [z, TI, TO, i1, i2]) (fun c o hb q => (sb.2 c (fun q' => hb (by simp [q']))).trans (hk c o (fun q' => hb (by simp [q'])) (fun q' => hb (by simp [q'])) (fun q' => hb (by simp [q'])) (fun q' => hb (by simp [q'])) q)) hf (Nat.le_refl _) new
    refine ⟨.ref s.heap.objs.size, _, I1, rfl, ⟨_, x, y, rfl, I.hok.fresh (Nat.le_refl _), rfl, fun l hl => by rw [I.tuple_inj hl hqx]; exact hx, fun l hl => by rw [I.list_inj hl hqy]; exact hy⟩, ⟨z'', (sb.2 _ D.TIz).trans (hk _ _ D.TIz D.TITO D.TIi1 D.TIi2 hTI), ⟨u, u2, (sb.2 _ D.TOz).trans TO'⟩, sa'.1.at fun o q => (sb.2 _ D.i1z).trans q, sb'.1.at fun o q => (sb.2 _ D.i2z).trans q⟩, fun c hcm => ?_⟩
    have hlt : c < s.heap.objs.size := by
      have e' : c = z ∨ c = TI ∨ c = TO ∨ c = i1 ∨ c = i2 := by simpa using hcm
      rcases e' with q | q | q | q | q <;> rw [q]
      · exact hzl
      · exact Heap.lt_size hTI
      · exact Heap.lt_size hTO
      · obtain ⟨_, e1, _⟩ := h1; exact Heap.lt_size e1
      · obtain ⟨_, e2, _⟩ := h2; exact Heap.lt_size e2
    rw [upd_ne (Nat.ne_of_lt hlt)]; exact (hf c hcm).1
  · intro X hP hw hK hc i pins s σ H E I hf st hg
    subst hP; subst hw; subst hK
    obtain ⟨hz, hTI, ⟨x0, y0, hTO⟩, h1, h2⟩ := st; obtain ⟨xs, ys, hqx, hqy, hl, hl2⟩ := hg
    obtain ⟨its, rv, p, _⟩ := I.tuple hqx; obtain ⟨its2, rv2, p2, _⟩ := I.list hqy
    have l1 := rv.length; have l2 := rv2.length
    have hh : X.A.handled = none := I.ok.hd hc
    have Da := Draws.tuple (prog := X.prog) (w := X.w) (A := X.A.in1) (show X.A.in1.handled = none from hh) i1 a D.l1i1 its.toArray
    have Db0 := Draws.list (prog := X.prog) (w := X.w) (A := X.A.in1) (show X.A.in1.handled = none from hh) i2 b D.l2i2 its2.toArray
    have esz : its2.toArray.size = its.toArray.size := by simp; omega
    have Db : Draws X.prog X.w X.A.in1 i2 [i2, b] its.toArray.size (fun j v => its2.toArray[j]? = some v) (fun j h => h.IsListIter i2 b j ∧ h.IsList b its2.toArray) := by rw [← esz]; exact Db0
    have hin : i = its.toArray.size := by simp; omega
    refine zs_pyNext (s := s) hh Sp Da Db hz hTI hTO ⟨h1, p⟩ ⟨h2, p2.isList⟩ (Nat.le_of_eq hin) (fun lt => absurd hin (Nat.ne_of_lt lt)) (fun _ h' tk hk => ⟨rfl, I.turnedL (t' := tk) (ch := [z, TI, TO, i1, i2]) (fun c o hb q => hk c o (fun q' => hb (by simp [q'])) (fun q' => hb (by simp [q'])) (fun q' => hb (by simp [q'])) (fun q' => hb (by simp [q'])) q) hf⟩)
section
variable {M : Model} {A : Around} {E : Value → Shared → Prop} {s : Shared} {env : Env}
theorem tykw {pos : Pos} {T : String} {e : Expr} {rest : List Expr} {kws : List Keyword} {Q : Value → Shared → Prop}
    (h : wpAny M A (spliced (backTo pos (starEach (e :: rest) env))) (fun vs s1 => wpAny M A (evalAll ((backToKw pos (keywordEach kws env)).map (·.2))) (fun ws s2 => wpAny M A (call (.type T) vs (((backToKw pos (keywordEach kws env)).filterMap (·.1)).zip ws)) Q E s2) E s1) E s)
    (he : backTo pos (starEach (e :: rest) env) = (false, eval e env) :: backTo pos (starEach rest env) := by rfl) (hp : (backTo pos (starEach (e :: rest) env)).any (·.1) = false := by rfl)
    (ha : (backToKw pos (keywordEach kws env)).all (·.1.isSome) = true := by rfl) (hk : (backToKw pos (keywordEach kws env)).any (·.1.isNone) = false := by rfl) : wpAny M A (callWith pos (.type T) [] (backTo pos (starEach (e :: rest) env)) (backToKw pos (keywordEach kws env))) Q E s := by
  unfold callWith
  refine wpAny_bind (wpAny_holding (wpAny_mono (Q := fun a s1 => wpAny M A (call (.type T) ([] ++ a.pos) a.kw) Q E s1) ?_ (fun a s1 h1 => wpAny_bind (wpAny_standAt ?_)) fun _ _ z => z))
  · rw [he] at h ⊢; exact evalArgs_kwB ha h
  · simp only [hp, hk, Bool.or_false]; refine wpAny_bind (wpAny_pure ?_)
    exact wpAny_bind (wpAny_mono h1 (fun r s2 hr => wpAny_bind (wpAny_holding (wpAny_point (wpAny_pure hr)))) fun _ _ z => z)
end
def iZipS (K : PySem.W.Frag) (ta tk : TA) : TI := fun σ H R => ta σ H fun vs H1 => tk σ H1 fun zs H2 => zs = [.bl true] ∧ ∃ a b xs ys, vs = [.ref a, .ref b] ∧ SqT K H2 a xs ∧ SqL K H2 b ys ∧ R (ItzS K a b) H2
theorem pi_zs {X : Cx} {e e2 : Expr} {kws : List Keyword} {ta tk : TA} {p pos tpos : Pos} {elts : List Expr} {kk : Nat} (hg : Gl X "zip") (hm : X.mg "zip" = none) (ha : PA X [e, e2] ta) (hk : PK X kws tk)
    (he : backTo pos (starEach [e, e2] X.env) = (false, eval e X.env) :: backTo pos (starEach [e2] X.env) := by rfl) (hp : (backTo pos (starEach [e, e2] X.env)).any (·.1) = false := by rfl)
    (hal : (backToKw pos (keywordEach kws X.env)).all (·.1.isSome) = true := by rfl) (hkn : (backToKw pos (keywordEach kws X.env)).any (·.1.isNone) = false := by rfl) (hks : (backToKw pos (keywordEach kws X.env)).filterMap (·.1) = [("strict" : Str)] := by rfl) :
    PI X (.Tuple elts kk tpos) (.Call (.Name "zip" p) [e, e2] kws pos) (iZipS X.K ta tk) := by
  refine ⟨fun pins s σ H R I h => wpAny_Call_Name_kw (ld_blt I hg hm PyProof.Rows.boot_zip (tykw (thn (ha.run pos pins s σ H _ I h) fun us s1 ⟨vs, H1, I1, r1, q1⟩ => thn (hk.run pos pins s1 σ H1 _ I1 q1) fun ws s2 ⟨zs, H2, I2, r2, q2⟩ => ?_) he hp hal hkn))⟩
  rw [hks]; obtain ⟨ez, a, b, xs, ys, ex, hqx, hqy, q⟩ := q2
  subst ez; subst ex
  cases r2 with
  | cons rb rr => cases rr; cases (show _ = Value.bool true from rb); cases r1 with
    | cons r rr => cases rr with
      | cons r' rr =>
        cases rr; cases r; cases r'
        obtain ⟨its, rv, p1, _⟩ := I2.tuple hqx; obtain ⟨its2, rv2, p2, _⟩ := I2.list hqy
        refine zs_made p1 p2.isList fun g' hz hTI hTO h1 h2 hk' => zs_iter hz ?_
        have I3 : Inv X pins σ H2 { s2 with heap := g' } := I2.kept (t' := s2.toks) hk'
        obtain ⟨o1, ho1, _⟩ := id p1
        refine ⟨s2.heap.objs.size + 4, [s2.heap.objs.size + 4, s2.heap.objs.size + 2, s2.heap.objs.size + 3, s2.heap.objs.size, s2.heap.objs.size + 1], _, _, H2, rfl, I3, turn_zs (PySem.W.ktu_apart s2.heap.objs.size a b (Heap.lt_size ho1) p2.lt), ⟨hz, hTI, ⟨_, _, hTO⟩, h1, h2⟩, fun c hcm => ?_, q⟩
        have hle : s2.heap.objs.size ≤ c := by
          have e' : c = s2.heap.objs.size + 4 ∨ c = s2.heap.objs.size + 2 ∨ c = s2.heap.objs.size + 3 ∨ c = s2.heap.objs.size ∨ c = s2.heap.objs.size + 1 := by simpa using hcm
          rcases e' with z | z | z | z | z <;> rw [z] <;> first | exact Nat.le_add_right _ _ | exact Nat.le_refl _
        exact I2.fpOk hle (I2.hok.fresh hle)
theorem walk_zs {K : PySem.W.Frag} {a b : Addr} {xs ys : List V} (hl : xs.length = ys.length) : Walk (ItzS K a b) xs.length (fun H => SqT K H a xs ∧ SqL K H b ys) (YPair (fun i => xs[i]?) (fun i => ys[i]?)) :=
  ⟨fun i _ hi q => ⟨xs, ys, q.1, q.2, hl, hi⟩, fun _ q => ⟨xs, ys, q.1, q.2, rfl, hl.symm⟩, fun i H v H' _ q ⟨T, x, z, h1, h2, h3, h4, h5⟩ => ⟨T, x, z, h1, h2, h3, h4 xs q.1, h5 ys q.2⟩⟩
theorem k_piZS {X : Cx} (K : PySem.W.Frag) (h : X.K = K) {e e2 : Expr} {kws : List Keyword} {ta tk : TA} {p pos tpos : Pos} {elts : List Expr} {kk : Nat} (hg : Gl X "zip") (hm : X.mg "zip" = none) (ha : PA X [e, e2] ta) (hk : PK X kws tk)
    (he : backTo pos (starEach [e, e2] X.env) = (false, eval e X.env) :: backTo pos (starEach [e2] X.env) := by rfl) (hp : (backTo pos (starEach [e, e2] X.env)).any (·.1) = false := by rfl)
    (hal : (backToKw pos (keywordEach kws X.env)).all (·.1.isSome) = true := by rfl) (hkn : (backToKw pos (keywordEach kws X.env)).any (·.1.isNone) = false := by rfl) (hks : (backToKw pos (keywordEach kws X.env)).filterMap (·.1) = [("strict" : Str)] := by rfl) :
    PI X (.Tuple elts kk tpos) (.Call (.Name "zip" p) [e, e2] kws pos) (iZipS K ta tk) := by subst h; exact pi_zs hg hm ha hk he hp hal hkn hks
end My

namespace My
open PySem PySem.Spec PyProof.Rows L2 Pre
open Sem (wp)
/-! ### zip(xs, ys, strict=True) of two lists -/
abbrev zr1 (h : Heap) (a : Addr) : Heap := h.push { cls := .type "list_iterator", data := .fields #[.ref a, .int 0 0] }
abbrev zr2 (h : Heap) (a b : Addr) : Heap := (zr1 h a).push { cls := .type "list_iterator", data := .fields #[.ref b, .int 0 0] }
abbrev zr3 (h : Heap) (a b : Addr) : Heap := (zr2 h a b).push { cls := .type "tuple", data := .seq #[.ref h.objs.size, .ref (zr1 h a).objs.size] }
abbrev zr4 (h : Heap) (a b : Addr) : Heap := (zr3 h a b).push { cls := .type "tuple", data := .seq #[.none, .none] }
abbrev zr5 (h : Heap) (a b : Addr) : Heap := (zr4 h a b).push { cls := .type "zip", data := .fields #[.none, .bool false, .bool true, .ref (zr2 h a b).objs.size, .ref (zr3 h a b).objs.size] }
theorem zl_new (a b : Addr) (xs ys : Array Value) :
    Meets (Builtin.«zip.__new__» ⟨[.type "zip", .ref a, .ref b], [("strict", .bool true)]⟩) (fun _ R s => s.heap.IsList a xs ∧ s.heap.IsList b ys ∧
      R (.ok (.ret (.ref (zr4 s.heap a b).objs.size))) { s with heap := zr5 s.heap a b }) :=
  .of_wp fun prog w A R s h => by
    obtain ⟨hp, g, d, tk, os⟩ := s; obtain ⟨ha, hb, h⟩ := h; have hsub := sub_zip
    have hA : Heap.IsList (Shared.heap ⟨hp, g, d, tk, os⟩) a xs := ha; have hB : Heap.IsList (Shared.heap ⟨hp.push { cls := .type "list_iterator", data := .fields #[.ref a, .int 0 0] }, g, d, tk, os⟩) b ys := Heap.IsList.push hb _
    wp_walk using wpAny_pyIter_list hA, wpAny_pyIter_list hB
    exact ⟨_, rfl, h⟩
section
variable {prog : Program} {w : World} {A : Around} {E : Value → Shared → Prop} {s : Shared}
theorem zl_made {a b : Addr} {xs ys : Array Value} {Q : Value → Shared → Prop} (ha : s.heap.IsList a xs) (hb : s.heap.IsList b ys)
    (go : ∀ g', SZip g' (s.heap.objs.size + 4) (s.heap.objs.size + 2) (s.heap.objs.size + 3) .none → IsTupOf2 g' (s.heap.objs.size + 2) (.ref s.heap.objs.size) (.ref (s.heap.objs.size + 1)) → IsTupOf2 g' (s.heap.objs.size + 3) .none .none →
      g'.IsListIter s.heap.objs.size a 0 → g'.IsListIter (s.heap.objs.size + 1) b 0 → (∀ c o, s.heap.get? c = some o → g'.get? c = some o) → Q (.ref (s.heap.objs.size + 4)) { s with heap := g' }) :
    wpAny (model prog w) A (call (.type "zip") [.ref a, .ref b] [("strict", .bool true)]) Q E s := by
  refine zs_call (zl_new a b xs ys) ⟨ha, hb, ?_⟩
  have n1 : (zr1 s.heap a).objs.size = s.heap.objs.size + 1 := Heap.size_push ..
  have n2 : (zr2 s.heap a b).objs.size = s.heap.objs.size + 2 := by rw [Heap.size_push, n1]
  have n3 : (zr3 s.heap a b).objs.size = s.heap.objs.size + 3 := by rw [Heap.size_push, n2]
  have n4 : (zr4 s.heap a b).objs.size = s.heap.objs.size + 4 := by rw [Heap.size_push, n3]
  have p : ∀ {h : Heap} {o o' : Obj} {c : Addr}, h.get? c = some o → (h.push o').get? c = some o := fun e => Heap.get?_push_of_some _ e
  have q5 : (zr5 s.heap a b).get? (zr4 s.heap a b).objs.size = some _ := Heap.get?_push_size _ rfl
  have q4 : (zr5 s.heap a b).get? (zr3 s.heap a b).objs.size = some _ := p (Heap.get?_push_size _ rfl)
  have q3 : (zr5 s.heap a b).get? (zr2 s.heap a b).objs.size = some _ := p (p (Heap.get?_push_size _ rfl))
  have q2 : (zr5 s.heap a b).get? (zr1 s.heap a).objs.size = some _ := p (p (p (Heap.get?_push_size _ rfl)))
  have q1 : (zr5 s.heap a b).get? s.heap.objs.size = some _ := p (p (p (p (Heap.get?_push_size _ rfl))))
  show _ ∧ _; rw [n2, n3, n4] at q5; rw [n1, n2] at q3; rw [n3] at q4; rw [n1] at q2; rw [n4]
  exact ⟨⟨_, q5, rfl⟩, go _ q5 q3 q4 ⟨_, q1, rfl, rfl⟩ ⟨_, q2, rfl, rfl⟩ fun c o x => p (p (p (p (p x))))⟩
end
/-- the lists at a and b, of one length, side by side -/
def ItzL (K : PySem.W.Frag) (a b : Addr) : It :=
  ⟨fun i H => ∃ (xs ys : List V), SqL K H a xs ∧ SqL K H b ys ∧ xs.length = ys.length ∧ i < xs.length,
    fun i H v H' => ∃ T x y, v = .ref T ∧ H T = none ∧ H' = upd H T (.tup [x, y]) ∧ (∀ xs, SqL K H a xs → xs[i]? = some x) ∧ ∀ ys, SqL K H b ys → ys[i]? = some y,
    fun i H => ∃ xs ys : List V, SqL K H a xs ∧ SqL K H b ys ∧ xs.length = i ∧ ys.length = i⟩
theorem turn_zl {P : Program} {w : World} {K : PySem.W.Frag} {elts : List Expr} {kk : Nat} {tpos : Pos} {a b z TI TO i1 i2 : Addr} (D : ZipApart z TI TO i1 i2 a b) :
    Turn P w K (.Tuple elts kk tpos) (ItzL K a b) [z, TI, TO, i1, i2] z (fun i h => SZip h z TI TO .none ∧ IsTupOf2 h TI (.ref i1) (.ref i2) ∧ (∃ x y, IsTupOf2 h TO x y) ∧ h.IsListIter i1 a i ∧ h.IsListIter i2 b i) := by
  have Sp : ZipSep2 z TI TO i1 i2 [i1, a] [i2, b] := ⟨D.TIz, D.TOz, D.TITO, D.TIi1, by simp, by simp [D.i1z.symm, D.l1z.symm], by simp [D.TOi1, D.l1TO.symm], D.TIi2, by simp, by simp [D.i2z.symm, D.l2z.symm], by simp [D.TOi2, D.l2TO.symm], by simp [D.i12, D.l2i1.symm], by simp [D.i12.symm, D.l1i2.symm]⟩
  refine ⟨by simp, fun i h st c hc => ?_, fun i h h' st k => ?_, ?_, ?_, fun A i s Q E st h => zs_iter st.1 h⟩
  · obtain ⟨hz, hTI, ⟨x, y, hTO⟩, ⟨o1, e1, _, d1⟩, ⟨o2, e2, _, d2⟩⟩ := st
    have e' : c = z ∨ c = TI ∨ c = TO ∨ c = i1 ∨ c = i2 := by simpa using hc
    rcases e' with q | q | q | q | q <;> rw [q]
    · exact ⟨_, hz, fun v q => nomatch q⟩
    · exact ⟨_, hTI, fun v q => nomatch q⟩
    · exact ⟨_, hTO, fun v q => nomatch q⟩
    · exact ⟨o1, e1, fun v q => by rw [d1] at q; cases q⟩
    · exact ⟨o2, e2, fun v q => by rw [d2] at q; cases q⟩
  · obtain ⟨hz, hTI, ⟨x, y, hTO⟩, h1, h2⟩ := st
    have kz := k z (by simp); have kI := k TI (by simp); have kO := k TO (by simp)
    exact ⟨kz _ hz, kI _ hTI, ⟨x, y, kO _ hTO⟩, h1.at fun o q => k i1 (by simp) o q, h2.at fun o q => k i2 (by simp) o q⟩
  · intro X hP hw hK hc i pins s σ H E I hf st hg
    subst hP; subst hw; subst hK
    obtain ⟨hz, hTI, ⟨x0, y0, hTO⟩, h1, h2⟩ := st; obtain ⟨xs, ys, hqx, hqy, hl, hi⟩ := hg
    obtain ⟨its, rv, p, _⟩ := I.list hqx; obtain ⟨its2, rv2, p2, _⟩ := I.list hqy
    have l1 := rv.length; have l2 := rv2.length
    have hzl : z < s.heap.objs.size := Heap.lt_size hz
    have hh : X.A.handled = none := I.ok.hd hc
    have Da := Draws.list (prog := X.prog) (w := X.w) (A := X.A.in1) (show X.A.in1.handled = none from hh) i1 a D.l1i1 its.toArray
    have Db0 := Draws.list (prog := X.prog) (w := X.w) (A := X.A.in1) (show X.A.in1.handled = none from hh) i2 b D.l2i2 its2.toArray
    have esz : its2.toArray.size = its.toArray.size := by simp; omega
    have Db : Draws X.prog X.w X.A.in1 i2 [i2, b] its.toArray.size (fun j v => its2.toArray[j]? = some v) (fun j h => h.IsListIter i2 b j ∧ h.IsList b its2.toArray) := by rw [← esz]; exact Db0
    have hin : i < its.toArray.size := by simp; omega
    refine zs_pyNext (s := s) hh Sp Da Db hz hTI hTO ⟨h1, p.isList⟩ ⟨h2, p2.isList⟩ (Nat.le_of_lt hin) (fun _ u u2 h' tk px py z' TO' sa' sb' hT hsz hk => ?_) (fun e => absurd e (Nat.ne_of_lt hin))
    have hu : its[i]? = some u := by simpa using px
    have hu2 : its2[i]? = some u2 := by simpa using py
    obtain ⟨x, hx⟩ : ∃ x, xs[i]? = some x := ⟨_, List.getElem?_eq_getElem hi⟩
    obtain ⟨y, hy⟩ : ∃ y, ys[i]? = some y := ⟨_, List.getElem?_eq_getElem (hl ▸ hi)⟩
    obtain ⟨u', hu', ru⟩ := rv.get hx; obtain ⟨u2', hu2', ru2⟩ := rv2.get hy
    rw [hu] at hu'; cases hu'; rw [hu2] at hu2'; cases hu2'
    refine ⟨_, rfl, zs_go (s := { s with heap := h', toks := tk }) z' fun h'' z'' sb => ?_⟩
    have hT2 : h''.get? s.heap.objs.size = some { cls := .type "tuple", data := .seq #[u, u2] } := (sb.2 _ (Nat.ne_of_gt hzl)).trans hT
    have new : ObjOk X.prog X.w (upd H s.heap.objs.size (.tup [x, y])) h'' s.heap.objs.size (.tup [x, y]) := ⟨by show 2 ≤ sizeLine; decide, [u, u2], .cons ru (.cons ru2 .nil), ⟨_, hT2, rfl, _, rfl⟩⟩
    have I1 : Inv X pins σ (upd H s.heap.objs.size (.tup [x, y])) { s with heap := h'', toks := tk } :=
      I.turnedNew (t' := tk) (ch := [z, TI, TO, i1, i2]) (fun c o hb q => (sb.2 c (fun q' => hb (by simp [q']))).trans (hk c o (fun q' => hb (by simp [q'])) (fun q' => hb (by simp [q'])) (fun q' => hb (by simp [q'])) (fun q' => hb (by simp [q'])) q)) hf (Nat.le_refl _) new
    refine ⟨.ref s.heap.objs.size, _, I1, rfl, ⟨_, x, y, rfl, I.hok.fresh (Nat.le_refl _), rfl, fun l hl => by rw [I.list_inj hl hqx]; exact hx, fun l hl => by rw [I.list_inj hl hqy]; exact hy⟩, ⟨z'', (sb.2 _ D.TIz).trans (hk _ _ D.TIz D.TITO D.TIi1 D.TIi2 hTI), ⟨u, u2, (sb.2 _ D.TOz).trans TO'⟩, sa'.1.at fun o q => (sb.2 _ D.i1z).trans q, sb'.1.at fun o q => (sb.2 _ D.i2z).trans q⟩, fun c hcm => ?_⟩
    have hlt : c < s.heap.objs.size := by
      have e' : c = z ∨ c = TI ∨ c = TO ∨ c = i1 ∨ c = i2 := by simpa using hcm
      rcases e' with q | q | q | q | q <;> rw [q]
      · exact hzl
      · exact Heap.lt_size hTI
      · exact Heap.lt_size hTO
      · obtain ⟨_, e1, _⟩ := h1; exact Heap.lt_size e1
      · obtain ⟨_, e2, _⟩ := h2; exact Heap.lt_size e2
    rw [upd_ne (Nat.ne_of_lt hlt)]; exact (hf c hcm).1
  · intro X hP hw hK hc i pins s σ H E I hf st hg
    subst hP; subst hw; subst hK
    obtain ⟨hz, hTI, ⟨x0, y0, hTO⟩, h1, h2⟩ := st; obtain ⟨xs, ys, hqx, hqy, hl, hl2⟩ := hg
    obtain ⟨its, rv, p, _⟩ := I.list hqx; obtain ⟨its2, rv2, p2, _⟩ := I.list hqy
    have l1 := rv.length; have l2 := rv2.length
    have hh : X.A.handled = none := I.ok.hd hc
    have Da := Draws.list (prog := X.prog) (w := X.w) (A := X.A.in1) (show X.A.in1.handled = none from hh) i1 a D.l1i1 its.toArray
    have Db0 := Draws.list (prog := X.prog) (w := X.w) (A := X.A.in1) (show X.A.in1.handled = none from hh) i2 b D.l2i2 its2.toArray
    have esz : its2.toArray.size = its.toArray.size := by simp; omega
    have Db : Draws X.prog X.w X.A.in1 i2 [i2, b] its.toArray.size (fun j v => its2.toArray[j]? = some v) (fun j h => h.IsListIter i2 b j ∧ h.IsList b its2.toArray) := by rw [← esz]; exact Db0
    have hin : i = its.toArray.size := by simp; omega
    refine zs_pyNext (s := s) hh Sp Da Db hz hTI hTO ⟨h1, p.isList⟩ ⟨h2, p2.isList⟩ (Nat.le_of_eq hin) (fun lt => absurd hin (Nat.ne_of_lt lt)) (fun _ h' tk hk => ⟨rfl, I.turnedL (t' := tk) (ch := [z, TI, TO, i1, i2]) (fun c o hb q => hk c o (fun q' => hb (by simp [q'])) (fun q' => hb (by simp [q'])) (fun q' => hb (by simp [q'])) (fun q' => hb (by simp [q'])) q) hf⟩)
def iZipL (K : PySem.W.Frag) (ta tk : TA) : TI := fun σ H R => ta σ H fun vs H1 => tk σ H1 fun zs H2 => zs = [.bl true] ∧ ∃ a b xs ys, vs = [.ref a, .ref b] ∧ SqL K H2 a xs ∧ SqL K H2 b ys ∧ R (ItzL K a b) H2
theorem pi_zl {X : Cx} {e e2 : Expr} {kws : List Keyword} {ta tk : TA} {p pos tpos : Pos} {elts : List Expr} {kk : Nat} (hg : Gl X "zip") (hm : X.mg "zip" = none) (ha : PA X [e, e2] ta) (hk : PK X kws tk)
    (he : backTo pos (starEach [e, e2] X.env) = (false, eval e X.env) :: backTo pos (starEach [e2] X.env) := by rfl) (hp : (backTo pos (starEach [e, e2] X.env)).any (·.1) = false := by rfl)
    (hal : (backToKw pos (keywordEach kws X.env)).all (·.1.isSome) = true := by rfl) (hkn : (backToKw pos (keywordEach kws X.env)).any (·.1.isNone) = false := by rfl) (hks : (backToKw pos (keywordEach kws X.env)).filterMap (·.1) = [("strict" : Str)] := by rfl) :
    PI X (.Tuple elts kk tpos) (.Call (.Name "zip" p) [e, e2] kws pos) (iZipL X.K ta tk) := by
  refine ⟨fun pins s σ H R I h => wpAny_Call_Name_kw (ld_blt I hg hm PyProof.Rows.boot_zip (tykw (thn (ha.run pos pins s σ H _ I h) fun us s1 ⟨vs, H1, I1, r1, q1⟩ => thn (hk.run pos pins s1 σ H1 _ I1 q1) fun ws s2 ⟨zs, H2, I2, r2, q2⟩ => ?_) he hp hal hkn))⟩
  rw [hks]; obtain ⟨ez, a, b, xs, ys, ex, hqx, hqy, q⟩ := q2
  subst ez; subst ex
  cases r2 with
  | cons rb rr => cases rr; cases (show _ = Value.bool true from rb); cases r1 with
    | cons r rr => cases rr with
      | cons r' rr =>
        cases rr; cases r; cases r'
        obtain ⟨its, rv, p1, _⟩ := I2.list hqx; obtain ⟨its2, rv2, p2, _⟩ := I2.list hqy
        refine zl_made p1.isList p2.isList fun g' hz hTI hTO h1 h2 hk' => zs_iter hz ?_
        have I3 : Inv X pins σ H2 { s2 with heap := g' } := I2.kept (t' := s2.toks) hk'

        refine ⟨s2.heap.objs.size + 4, [s2.heap.objs.size + 4, s2.heap.objs.size + 2, s2.heap.objs.size + 3, s2.heap.objs.size, s2.heap.objs.size + 1], _, _, H2, rfl, I3, turn_zl (PySem.W.ktu_apart s2.heap.objs.size a b p1.lt p2.lt), ⟨hz, hTI, ⟨_, _, hTO⟩, h1, h2⟩, fun c hcm => ?_, q⟩
        have hle : s2.heap.objs.size ≤ c := by
          have e' : c = s2.heap.objs.size + 4 ∨ c = s2.heap.objs.size + 2 ∨ c = s2.heap.objs.size + 3 ∨ c = s2.heap.objs.size ∨ c = s2.heap.objs.size + 1 := by simpa using hcm
          rcases e' with z | z | z | z | z <;> rw [z] <;> first | exact Nat.le_add_right _ _ | exact Nat.le_refl _
        exact I2.fpOk hle (I2.hok.fresh hle)
theorem walk_zl {K : PySem.W.Frag} {a b : Addr} {xs ys : List V} (hl : xs.length = ys.length) : Walk (ItzL K a b) xs.length (fun H => SqL K H a xs ∧ SqL K H b ys) (YPair (fun i => xs[i]?) (fun i => ys[i]?)) :=
  ⟨fun i _ hi q => ⟨xs, ys, q.1, q.2, hl, hi⟩, fun _ q => ⟨xs, ys, q.1, q.2, rfl, hl.symm⟩, fun i H v H' _ q ⟨T, x, z, h1, h2, h3, h4, h5⟩ => ⟨T, x, z, h1, h2, h3, h4 xs q.1, h5 ys q.2⟩⟩
theorem k_piZL {X : Cx} (K : PySem.W.Frag) (h : X.K = K) {e e2 : Expr} {kws : List Keyword} {ta tk : TA} {p pos tpos : Pos} {elts : List Expr} {kk : Nat} (hg : Gl X "zip") (hm : X.mg "zip" = none) (ha : PA X [e, e2] ta) (hk : PK X kws tk)
    (he : backTo pos (starEach [e, e2] X.env) = (false, eval e X.env) :: backTo pos (starEach [e2] X.env) := by rfl) (hp : (backTo pos (starEach [e, e2] X.env)).any (·.1) = false := by rfl)
    (hal : (backToKw pos (keywordEach kws X.env)).all (·.1.isSome) = true := by rfl) (hkn : (backToKw pos (keywordEach kws X.env)).any (·.1.isNone) = false := by rfl) (hks : (backToKw pos (keywordEach kws X.env)).filterMap (·.1) = [("strict" : Str)] := by rfl) :
    PI X (.Tuple elts kk tpos) (.Call (.Name "zip" p) [e, e2] kws pos) (iZipL K ta tk) := by subst h; exact pi_zl hg hm ha hk he hp hal hkn hks
end My

namespace My
open PySem PySem.Spec PyProof.Rows PySem.W L2 Pre
/-- products of one small number, or of two that are not too great -/
def CMulA (i j : Int) : Prop := CMul i j ∨ CMulX i j
theorem op_mulA {X : Cx} : OpR X (binaryOp .Mult) (rI CMulA fun i j => .int (i * j)) := fun pins s σ H x y v u Q I r1 r2 h => by
  obtain ⟨i, j, ex, ey, hc, q⟩ := h
  rcases hc with hc | hc
  · exact op_mul pins s σ H x y v u Q I r1 r2 ⟨i, j, ex, ey, hc, q⟩
  · exact op_mulX pins s σ H x y v u Q I r1 r2 ⟨i, j, ex, ey, hc, q⟩
/-- zip, strict, of a tuple or a list with a list -/
def iZipB (K : PySem.W.Frag) (ta tk : TA) : TI := fun σ H R => ta σ H fun vs H1 => tk σ H1 fun zs H2 => zs = [.bl true] ∧ ∃ a b xs ys, vs = [.ref a, .ref b] ∧ SqL K H2 b ys ∧ ((SqT K H2 a xs ∧ R (ItzS K a b) H2) ∨ (SqL K H2 a xs ∧ R (ItzL K a b) H2))
theorem pi_zb {X : Cx} {e e2 : Expr} {kws : List Keyword} {ta tk : TA} {p pos tpos : Pos} {elts : List Expr} {kk : Nat} (hg : Gl X "zip") (hm : X.mg "zip" = none) (ha : PA X [e, e2] ta) (hk : PK X kws tk)
    (he : backTo pos (starEach [e, e2] X.env) = (false, eval e X.env) :: backTo pos (starEach [e2] X.env) := by rfl) (hp : (backTo pos (starEach [e, e2] X.env)).any (·.1) = false := by rfl)
    (hal : (backToKw pos (keywordEach kws X.env)).all (·.1.isSome) = true := by rfl) (hkn : (backToKw pos (keywordEach kws X.env)).any (·.1.isNone) = false := by rfl) (hks : (backToKw pos (keywordEach kws X.env)).filterMap (·.1) = [("strict" : Str)] := by rfl) :
    PI X (.Tuple elts kk tpos) (.Call (.Name "zip" p) [e, e2] kws pos) (iZipB X.K ta tk) := by
  refine ⟨fun pins s σ H R I h => wpAny_Call_Name_kw (ld_blt I hg hm PyProof.Rows.boot_zip (tykw (thn (ha.run pos pins s σ H _ I h) fun us s1 ⟨vs, H1, I1, r1, q1⟩ => thn (hk.run pos pins s1 σ H1 _ I1 q1) fun ws s2 ⟨zs, H2, I2, r2, q2⟩ => ?_) he hp hal hkn))⟩
  rw [hks]; obtain ⟨ez, a, b, xs, ys, ex, hqy, hqq⟩ := q2
  subst ez; subst ex
  cases r2 with
  | cons rb rr => cases rr; cases (show _ = Value.bool true from rb); cases r1 with
    | cons r rr => cases rr with
      | cons r' rr =>
        cases rr; cases r; cases r'
        rcases hqq with ⟨hqx, q⟩ | ⟨hqx, q⟩
        · skip
          obtain ⟨its, rv, p1, _⟩ := I2.tuple hqx; obtain ⟨its2, rv2, p2, _⟩ := I2.list hqy
          refine zs_made p1 p2.isList fun g' hz hTI hTO h1 h2 hk' => zs_iter hz ?_
          have I3 : Inv X pins σ H2 { s2 with heap := g' } := I2.kept (t' := s2.toks) hk'
          obtain ⟨o1, ho1, _⟩ := id p1
          refine ⟨s2.heap.objs.size + 4, [s2.heap.objs.size + 4, s2.heap.objs.size + 2, s2.heap.objs.size + 3, s2.heap.objs.size, s2.heap.objs.size + 1], _, _, H2, rfl, I3, turn_zs (PySem.W.ktu_apart s2.heap.objs.size a b (Heap.lt_size ho1) p2.lt), ⟨hz, hTI, ⟨_, _, hTO⟩, h1, h2⟩, fun c hcm => ?_, q⟩
          have hle : s2.heap.objs.size ≤ c := by
            have e' : c = s2.heap.objs.size + 4 ∨ c = s2.heap.objs.size + 2 ∨ c = s2.heap.objs.size + 3 ∨ c = s2.heap.objs.size ∨ c = s2.heap.objs.size + 1 := by simpa using hcm
            rcases e' with z | z | z | z | z <;> rw [z] <;> first | exact Nat.le_add_right _ _ | exact Nat.le_refl _
          exact I2.fpOk hle (I2.hok.fresh hle)
        · skip
          obtain ⟨its, rv, p1, _⟩ := I2.list hqx; obtain ⟨its2, rv2, p2, _⟩ := I2.list hqy
          refine zl_made p1.isList p2.isList fun g' hz hTI hTO h1 h2 hk' => zs_iter hz ?_
          have I3 : Inv X pins σ H2 { s2 with heap := g' } := I2.kept (t' := s2.toks) hk'

          refine ⟨s2.heap.objs.size + 4, [s2.heap.objs.size + 4, s2.heap.objs.size + 2, s2.heap.objs.size + 3, s2.heap.objs.size, s2.heap.objs.size + 1], _, _, H2, rfl, I3, turn_zl (PySem.W.ktu_apart s2.heap.objs.size a b p1.lt p2.lt), ⟨hz, hTI, ⟨_, _, hTO⟩, h1, h2⟩, fun c hcm => ?_, q⟩
          have hle : s2.heap.objs.size ≤ c := by
            have e' : c = s2.heap.objs.size + 4 ∨ c = s2.heap.objs.size + 2 ∨ c = s2.heap.objs.size + 3 ∨ c = s2.heap.objs.size ∨ c = s2.heap.objs.size + 1 := by simpa using hcm
            rcases e' with z | z | z | z | z <;> rw [z] <;> first | exact Nat.le_add_right _ _ | exact Nat.le_refl _
          exact I2.fpOk hle (I2.hok.fresh hle)
theorem k_piZB {X : Cx} (K : PySem.W.Frag) (h : X.K = K) {e e2 : Expr} {kws : List Keyword} {ta tk : TA} {p pos tpos : Pos} {elts : List Expr} {kk : Nat} (hg : Gl X "zip") (hm : X.mg "zip" = none) (ha : PA X [e, e2] ta) (hk : PK X kws tk)
    (he : backTo pos (starEach [e, e2] X.env) = (false, eval e X.env) :: backTo pos (starEach [e2] X.env) := by rfl) (hp : (backTo pos (starEach [e, e2] X.env)).any (·.1) = false := by rfl)
    (hal : (backToKw pos (keywordEach kws X.env)).all (·.1.isSome) = true := by rfl) (hkn : (backToKw pos (keywordEach kws X.env)).any (·.1.isNone) = false := by rfl) (hks : (backToKw pos (keywordEach kws X.env)).filterMap (·.1) = [("strict" : Str)] := by rfl) :
    PI X (.Tuple elts kk tpos) (.Call (.Name "zip" p) [e, e2] kws pos) (iZipB K ta tk) := by subst h; exact pi_zb hg hm ha hk he hp hal hkn hks
end My

namespace My
/-! ### steps of a mixer -/
inductive Step
  | turn (i : Nat)
  | swap (i j : Nat)
  | lift (t : Nat) (ws : List Int) (sh : Nat)
  deriving DecidableEq
def dotP : List Int → List Int → Int
  | w :: ws, x :: xs => w * x + dotP ws xs
  | _, _ => 0
def stepF (way : Int) : Step → List Int → List Int
  | .turn i, xs => xs.set i (0 - xs.getD i 0)
  | .swap i j, xs => (xs.set i (xs.getD j 0)).set j (xs.getD i 0)
  | .lift t ws sh, xs => xs.set t (xs.getD t 0 + way * (dotP ws xs / 2 ^ sh))
def Step.ok (n : Nat) : Step → Prop
  | .turn i => i < n
  | .swap i j => i < n ∧ j < n ∧ i ≠ j
  | .lift t ws sh => t < n ∧ ws.length = n ∧ ws.getD t 0 = 0 ∧ sh ≤ 15 ∧ ∀ w ∈ ws, -32768 ≤ w ∧ w ≤ 32768
theorem stepF_len (way : Int) (s : Step) (xs : List Int) : (stepF way s xs).length = xs.length := by
  cases s <;> simp [stepF]
theorem dot_set (v : Int) : ∀ (ws xs : List Int) (t : Nat), ws.getD t 0 = 0 → dotP ws (xs.set t v) = dotP ws xs
  | [], xs, t, _ => by cases xs <;> cases t <;> rfl
  | w :: ws, [], t, _ => by cases t <;> rfl
  | w :: ws, x :: xs, 0, h => by
    have hw : w = 0 := h
    show w * v + dotP ws xs = w * x + dotP ws xs
    rw [hw, Int.zero_mul, Int.zero_mul]
  | w :: ws, x :: xs, t + 1, h => by
    show w * x + dotP ws (xs.set t v) = w * x + dotP ws xs
    rw [dot_set v ws xs t h]
theorem getD_set {xs : List Int} {i j : Nat} {v : Int} (h : i < xs.length) : (xs.set i v).getD j 0 = if i = j then v else xs.getD j 0 := by
  rw [List.getD_eq_getElem?_getD, List.getElem?_set, List.getD_eq_getElem?_getD]
  by_cases c : i = j
  · rw [if_pos c, if_pos h, if_pos c]
    rfl
  · rw [if_neg c, if_neg c]
theorem ext_getD {xs ys : List Int} (hl : xs.length = ys.length) (h : ∀ i, i < xs.length → xs.getD i 0 = ys.getD i 0) : xs = ys := by
  apply List.ext_getElem hl
  intro i h1 h2
  have := h i h1
  rwa [List.getD_eq_getElem?_getD, List.getD_eq_getElem?_getD, List.getElem?_eq_getElem h1, List.getElem?_eq_getElem h2] at this
/-- one way and the other -/
theorem step_back (way : Int) {s : Step} {xs : List Int} (h : s.ok xs.length) : stepF (-way) s (stepF way s xs) = xs := by
  refine ext_getD (by rw [stepF_len, stepF_len]) fun k hk => ?_
  cases s with
  | turn i =>
    have hi : i < xs.length := h
    show ((xs.set i (0 - xs.getD i 0)).set i (0 - (xs.set i (0 - xs.getD i 0)).getD i 0)).getD k 0 = _
    rw [getD_set (by rw [List.length_set]; exact hi), getD_set hi, getD_set hi, if_pos rfl]
    by_cases c : i = k
    · rw [if_pos c, c]
      omega
    · rw [if_neg c, if_neg c]
  | swap i j =>
    obtain ⟨hi, hj, hij⟩ : i < xs.length ∧ j < xs.length ∧ i ≠ j := h
    have e : ∀ k, (stepF way (.swap i j) xs).getD k 0 = if j = k then xs.getD i 0 else if i = k then xs.getD j 0 else xs.getD k 0 := fun k => by
      show ((xs.set i (xs.getD j 0)).set j (xs.getD i 0)).getD k 0 = _
      rw [getD_set (by rw [List.length_set]; exact hj), getD_set hi]
    show (((stepF way (.swap i j) xs).set i ((stepF way (.swap i j) xs).getD j 0)).set j ((stepF way (.swap i j) xs).getD i 0)).getD k 0 = _
    rw [getD_set (by rw [List.length_set, stepF_len]; exact hj), getD_set (by rw [stepF_len]; exact hi)]
    by_cases c : j = k
    · rw [if_pos c, e i, if_neg (fun z => hij z.symm), if_pos rfl, c]
    · rw [if_neg c]
      by_cases d : i = k
      · rw [if_pos d, e j, if_pos rfl, d]
      · rw [if_neg d, e k, if_neg c, if_neg d]
  | lift t ws sh =>
    obtain ⟨ht, hl, hz, _, _⟩ : t < xs.length ∧ ws.length = xs.length ∧ ws.getD t 0 = 0 ∧ sh ≤ 15 ∧ _ := h
    show ((xs.set t (xs.getD t 0 + way * (dotP ws xs / 2 ^ sh))).set t ((xs.set t (xs.getD t 0 + way * (dotP ws xs / 2 ^ sh))).getD t 0 + -way * (dotP ws (xs.set t (xs.getD t 0 + way * (dotP ws xs / 2 ^ sh))) / 2 ^ sh))).getD k 0 = _
    rw [getD_set (by rw [List.length_set]; exact ht), getD_set ht, getD_set ht, if_pos rfl, dot_set _ _ _ _ hz, Int.neg_mul]
    by_cases c : t = k
    · rw [if_pos c, c]
      omega
    · rw [if_neg c, if_neg c]
def playF (ss : List Step) (xs : List Int) : List Int := ss.foldl (fun x s => stepF 1 s x) xs
def backF (ss : List Step) (xs : List Int) : List Int := ss.reverse.foldl (fun x s => stepF (-1) s x) xs
theorem play_len : ∀ (ss : List Step) (xs : List Int), (playF ss xs).length = xs.length
  | [], _ => rfl
  | s :: ss, xs => by
    show (playF ss (stepF 1 s xs)).length = _
    rw [play_len ss, stepF_len]
theorem back_cons (s : Step) (ss : List Step) (xs : List Int) : backF (s :: ss) xs = stepF (-1) s (backF ss xs) := by
  unfold backF
  rw [List.reverse_cons, List.foldl_append]
  rfl
theorem back_len : ∀ (ss : List Step) (xs : List Int), (backF ss xs).length = xs.length
  | [], _ => rfl
  | s :: ss, xs => by rw [back_cons, stepF_len, back_len ss]
theorem play_back {n : Nat} : ∀ {ss : List Step} {xs : List Int}, (∀ s ∈ ss, s.ok n) → xs.length = n → backF ss (playF ss xs) = xs
  | [], _, _, _ => rfl
  | s :: ss, xs, h, hx => by
    rw [back_cons]
    show stepF (-1) s (backF ss (playF ss (stepF 1 s xs))) = xs
    rw [play_back (fun t ht => h t (List.mem_cons_of_mem _ ht)) (by rw [stepF_len, hx])]
    exact step_back 1 (hx ▸ h s List.mem_cons_self)
theorem back_play {n : Nat} : ∀ {ss : List Step} {xs : List Int}, (∀ s ∈ ss, s.ok n) → xs.length = n → playF ss (backF ss xs) = xs
  | [], _, _, _ => rfl
  | s :: ss, xs, h, hx => by
    rw [back_cons]
    show playF ss (stepF 1 s (stepF (-1) s (backF ss xs))) = xs
    have e := step_back (-1) (s := s) (xs := backF ss xs) (by rw [back_len, hx]; exact h s List.mem_cons_self)
    rw [Int.neg_neg] at e
    rw [e, back_play (fun t ht => h t (List.mem_cons_of_mem _ ht)) hx]
end My

namespace My
open PySem PySem.Spec PyProof.Rows L2 Pre
/-! ### steps in a heap -/
def sT : V := .str ("turn" : String)
def sS : V := .str ("swap" : String)
def sL : V := .str ("lift" : String)
/-- a step as it is handed in; N holds of the list of a lift's weights -/
def StepV (N : Addr → Prop) (H : Hp) (v : V) : Step → Prop
  | .turn i => ∃ t, v = .ref t ∧ H t = some (.tup [sT, .int i])
  | .swap i j => ∃ t, v = .ref t ∧ H t = some (.tup [sS, .int i, .int j])
  | .lift a ws sh => ∃ t l, v = .ref t ∧ H t = some (.tup [sL, .int a, .ref l, .int sh]) ∧ H l = some (.lst (ws.map V.int)) ∧ N l
/-- a step as a mixer keeps it -/
def RowV (H : Hp) (v : V) : Step → Prop
  | .turn i => ∃ t, v = .ref t ∧ H t = some (.tup [sT, .int i])
  | .swap i j => ∃ t, v = .ref t ∧ H t = some (.tup [sS, .int i, .int j])
  | .lift a ws sh => ∃ t l, v = .ref t ∧ H t = some (.tup [sL, .int a, .ref l, .int sh]) ∧ H l = some (.tup (ws.map V.int))
def AllV (R : V → Step → Prop) : List V → List Step → Prop
  | [], [] => True
  | v :: vs, s :: ss => R v s ∧ AllV R vs ss
  | _, _ => False
theorem AllV.len {R : V → Step → Prop} : ∀ {vs : List V} {ss : List Step}, AllV R vs ss → vs.length = ss.length
  | [], [], _ => rfl
  | _ :: vs, _ :: ss, h => by rw [List.length_cons, List.length_cons, AllV.len h.2]
  | [], _ :: _, h => h.elim
  | _ :: _, [], h => h.elim
theorem AllV.get {R : V → Step → Prop} : ∀ {vs : List V} {ss : List Step} {i : Nat} {v : V}, AllV R vs ss → vs[i]? = some v → ∃ s, ss[i]? = some s ∧ R v s
  | [], _, _, _, _, k => by simp at k
  | _ :: _, [], _, _, h, _ => h.elim
  | _ :: _, s :: ss, 0, _, h, k => by
    rw [List.getElem?_cons_zero] at k
    cases k
    exact ⟨s, rfl, h.1⟩
  | _ :: vs, s :: ss, i + 1, _, h, k => by
    rw [List.getElem?_cons_succ] at k
    rw [List.getElem?_cons_succ]
    exact AllV.get h.2 k
theorem AllV.imp {R R' : V → Step → Prop} (f : ∀ v s, R v s → R' v s) : ∀ {vs : List V} {ss : List Step}, AllV R vs ss → AllV R' vs ss
  | [], [], _ => trivial
  | _ :: _, _ :: _, h => ⟨f _ _ h.1, AllV.imp f h.2⟩
  | [], _ :: _, h => h.elim
  | _ :: _, [], h => h.elim
theorem AllV.app {R : V → Step → Prop} : ∀ {vs us : List V} {ss ts : List Step}, AllV R vs ss → AllV R us ts → AllV R (vs ++ us) (ss ++ ts)
  | [], _, [], _, _, k => k
  | _ :: _, _, _ :: _, _, h, k => ⟨h.1, AllV.app h.2 k⟩
  | [], _, _ :: _, _, h, _ => h.elim
  | _ :: _, _, [], _, h, _ => h.elim
theorem AllV.rev {R : V → Step → Prop} : ∀ {vs : List V} {ss : List Step}, AllV R vs ss → AllV R vs.reverse ss.reverse
  | [], [], _ => trivial
  | v :: vs, s :: ss, h => by
    rw [List.reverse_cons, List.reverse_cons]
    exact AllV.app (AllV.rev h.2) ⟨h.1, trivial⟩
  | [], _ :: _, h => h.elim
  | _ :: _, [], h => h.elim
theorem StepV.mono {N N' : Addr → Prop} {H : Hp} {v : V} {s : Step} (f : ∀ l, N l → N' l) (h : StepV N H v s) : StepV N' H v s := by
  cases s with
  | turn i => exact h
  | swap i j => exact h
  | lift a ws sh =>
    obtain ⟨t, l, e, h1, h2, h3⟩ := h
    exact ⟨t, l, e, h1, h2, f _ h3⟩
theorem StepV.same {N : Addr → Prop} {H H' : Hp} {v : V} {s : Step} (k : Same H H') (h : StepV N H v s) : StepV N H' v s := by
  cases s with
  | turn i => obtain ⟨t, e, h1⟩ := h; exact ⟨t, e, k _ _ h1⟩
  | swap i j => obtain ⟨t, e, h1⟩ := h; exact ⟨t, e, k _ _ h1⟩
  | lift a ws sh =>
    obtain ⟨t, l, e, h1, h2, h3⟩ := h
    exact ⟨t, l, e, k _ _ h1, k _ _ h2, h3⟩
/-- what changes are things of M alone -/
def Lk (M : Addr → Prop) (H H' : Hp) : Prop := ∀ b o, ¬ M b → H b = some o → H' b = some o
/-- lists that were not there before -/
def Fl (H0 H : Hp) (b : Addr) : Prop := H0 b = none ∧ ∃ xs, H b = some (.lst xs)
theorem Lk.refl {M : Addr → Prop} {H : Hp} : Lk M H H := fun _ _ _ h => h
theorem Lk.trans {M : Addr → Prop} {H H1 H2 : Hp} (a : Lk M H H1) (b : Lk M H1 H2) : Lk M H H2 := fun c o n h => b c o n (a c o n h)
theorem Lk.of {M : Addr → Prop} {H H1 : Hp} (s : Same H H1) : Lk M H H1 := fun c o _ h => s c o h
theorem Lk.at_ {M : Addr → Prop} {H : Hp} {p : Addr} {o : HO} (m : M p) : Lk M H (upd H p o) := fun c u n h => by
  rw [upd_ne (fun z => n (by rw [z]; exact m))]
  exact h
theorem Lk.tup {H0 H H' : Hp} {M : Addr → Prop} (k : Lk M H H') (a : ∀ b, M b → ∃ xs, H b = some (.lst xs)) {t : Addr} {xs : List V} (h : H t = some (.tup xs)) : H' t = some (.tup xs) := k _ _ (fun m => by
  obtain ⟨ys, e⟩ := a t m
  rw [h] at e
  cases e) h
theorem Lk.same {M : Addr → Prop} {H H1 H' : Hp} (k : Lk M H1 H') (s : Same H H1) (n : ∀ b, M b → H b = none) : Same H H' := fun b o e => k b o (fun m => by rw [n b m] at e; cases e) (s b o e)
theorem StepV.lk {M N : Addr → Prop} {H H' : Hp} {v : V} {s : Step} (k : Lk M H H') (a : ∀ b, M b → ∃ xs, H b = some (.lst xs)) (n : ∀ l, N l → ¬ M l) (h : StepV N H v s) : StepV N H' v s := by
  cases s with
  | turn i => obtain ⟨t, e, h1⟩ := h; exact ⟨t, e, Lk.tup (H0 := H) k a h1⟩
  | swap i j => obtain ⟨t, e, h1⟩ := h; exact ⟨t, e, Lk.tup (H0 := H) k a h1⟩
  | lift b ws sh =>
    obtain ⟨t, l, e, h1, h2, h3⟩ := h
    exact ⟨t, l, e, Lk.tup (H0 := H) k a h1, k _ _ (n l h3) h2, h3⟩
theorem RowV.same {H H' : Hp} {v : V} {s : Step} (k : Same H H') (h : RowV H v s) : RowV H' v s := by
  cases s with
  | turn i => obtain ⟨t, e, h1⟩ := h; exact ⟨t, e, k _ _ h1⟩
  | swap i j => obtain ⟨t, e, h1⟩ := h; exact ⟨t, e, k _ _ h1⟩
  | lift a ws sh =>
    obtain ⟨t, l, e, h1, h2⟩ := h
    exact ⟨t, l, e, k _ _ h1, k _ _ h2⟩
theorem RowV.lk {M : Addr → Prop} {H H' : Hp} {v : V} {s : Step} (k : Lk M H H') (a : ∀ b, M b → ∃ xs, H b = some (.lst xs)) (h : RowV H v s) : RowV H' v s := by
  cases s with
  | turn i => obtain ⟨t, e, h1⟩ := h; exact ⟨t, e, Lk.tup (H0 := H) k a h1⟩
  | swap i j => obtain ⟨t, e, h1⟩ := h; exact ⟨t, e, Lk.tup (H0 := H) k a h1⟩
  | lift b ws sh =>
    obtain ⟨t, l, e, h1, h2⟩ := h
    exact ⟨t, l, e, Lk.tup (H0 := H) k a h1, Lk.tup (H0 := H) k a h2⟩
/-- a list of steps; N holds of the lists of weights -/
def StepsAt (N : Addr → Prop) (H : Hp) (p : Addr) (ss : List Step) : Prop := ∃ vs, H p = some (.lst vs) ∧ AllV (StepV N H) vs ss
/-- a mixer at a, its rows at r -/
def MixAt (C : Addr) (H : Hp) (a r : Addr) (n : Nat) (ss : List Step) : Prop := ∃ dx vs, H a = some (.ins C dx [("many", .int n), ("rows", .ref r)]) ∧ H r = some (.lst vs) ∧ AllV (RowV H) vs ss
theorem StepsAt.same {N : Addr → Prop} {H H' : Hp} {p : Addr} {ss : List Step} (h : StepsAt N H p ss) (k : Same H H') : StepsAt N H' p ss := by
  obtain ⟨vs, h1, h2⟩ := h
  exact ⟨vs, k _ _ h1, h2.imp fun v s => StepV.same k⟩
theorem StepsAt.mono {N N' : Addr → Prop} {H : Hp} {p : Addr} {ss : List Step} (h : StepsAt N H p ss) (f : ∀ l, N l → N' l) : StepsAt N' H p ss := by
  obtain ⟨vs, h1, h2⟩ := h
  exact ⟨vs, h1, h2.imp fun v s => StepV.mono f⟩
theorem StepsAt.lk {M N : Addr → Prop} {H H' : Hp} {p : Addr} {ss : List Step} (h : StepsAt N H p ss) (k : Lk M H H') (a : ∀ b, M b → ∃ xs, H b = some (.lst xs)) (n : ∀ l, N l → ¬ M l) (np : ¬ M p) : StepsAt N H' p ss := by
  obtain ⟨vs, h1, h2⟩ := h
  exact ⟨vs, k _ _ np h1, h2.imp fun v s => StepV.lk k a n⟩
theorem MixAt.same {C : Addr} {H H' : Hp} {a r : Addr} {n : Nat} {ss : List Step} (h : MixAt C H a r n ss) (k : Same H H') : MixAt C H' a r n ss := by
  obtain ⟨dx, vs, h1, h2, h3⟩ := h
  exact ⟨dx, vs, k _ _ h1, k _ _ h2, h3.imp fun v s => RowV.same k⟩
theorem MixAt.lk {C : Addr} {M : Addr → Prop} {H H' : Hp} {a r : Addr} {n : Nat} {ss : List Step} (h : MixAt C H a r n ss) (k : Lk M H H') (al : ∀ b, M b → ∃ xs, H b = some (.lst xs)) (nr : ¬ M r) : MixAt C H' a r n ss := by
  obtain ⟨dx, vs, h1, h2, h3⟩ := h
  exact ⟨dx, vs, k _ _ (fun m => by obtain ⟨xs, e⟩ := al a m; rw [h1] at e; cases e) h1, k _ _ nr h2, h3.imp fun v s => RowV.lk k al⟩
/-! ### steps as data -/
def stepD : Step → PyData
  | .turn i => .tuple [.str ("turn" : String), .int i]
  | .swap i j => .tuple [.str ("swap" : String), .int i, .int j]
  | .lift a ws sh => .tuple [.str ("lift" : String), .int a, .list (ws.map PyData.int), .int sh]
def rowT : Step → PyData
  | .turn i => .tuple [.str ("turn" : String), .int i]
  | .swap i j => .tuple [.str ("swap" : String), .int i, .int j]
  | .lift a ws sh => .tuple [.str ("lift" : String), .int a, .tuple (ws.map PyData.int), .int sh]
theorem StepV.dt {N : Addr → Prop} {H : Hp} {v : V} {s : Step} (h : StepV N H v s) : Dt H v (stepD s) := by
  cases s with
  | turn i => obtain ⟨t, rfl, h1⟩ := h; exact .tup h1 (.cons (.str _) (.cons (.int _) .nil))
  | swap i j => obtain ⟨t, rfl, h1⟩ := h; exact .tup h1 (.cons (.str _) (.cons (.int _) (.cons (.int _) .nil)))
  | lift a ws sh =>
    obtain ⟨t, l, rfl, h1, h2, _⟩ := h
    exact .tup h1 (.cons (.str _) (.cons (.int _) (.cons (.lst h2 (DtA.ints ws)) (.cons (.int _) .nil))))
theorem RowV.dt {H : Hp} {v : V} {s : Step} (h : RowV H v s) : Dt H v (rowT s) := by
  cases s with
  | turn i => obtain ⟨t, rfl, h1⟩ := h; exact .tup h1 (.cons (.str _) (.cons (.int _) .nil))
  | swap i j => obtain ⟨t, rfl, h1⟩ := h; exact .tup h1 (.cons (.str _) (.cons (.int _) (.cons (.int _) .nil)))
  | lift a ws sh =>
    obtain ⟨t, l, rfl, h1, h2⟩ := h
    exact .tup h1 (.cons (.str _) (.cons (.int _) (.cons (.tup h2 (DtA.ints ws)) (.cons (.int _) .nil))))
theorem AllV.dts {N : Addr → Prop} {H : Hp} : ∀ {vs : List V} {ss : List Step}, AllV (StepV N H) vs ss → DtA H vs (ss.map stepD)
  | [], [], _ => .nil
  | _ :: _, _ :: _, h => .cons h.1.dt (AllV.dts h.2)
  | [], _ :: _, h => h.elim
  | _ :: _, [], h => h.elim
theorem AllV.dtr {H : Hp} : ∀ {vs : List V} {ss : List Step}, AllV (RowV H) vs ss → DtA H vs (ss.map rowT)
  | [], [], _ => .nil
  | _ :: _, _ :: _, h => .cons h.1.dt (AllV.dtr h.2)
  | [], _ :: _, h => h.elim
  | _ :: _, [], h => h.elim
theorem stepD_lay (s : Step) : PyData.canLay0 (stepD s) = true := by
  cases s with
  | turn i => simp only [stepD, PyData.canLay0, PyData.canLayAll0, Bool.and_true]; decide +kernel
  | swap i j => simp only [stepD, PyData.canLay0, PyData.canLayAll0, Bool.and_true]; decide +kernel
  | lift a ws sh => simp only [stepD, PyData.canLay0, PyData.canLayAll0, lay_ints, Bool.and_true]; decide +kernel
theorem rowT_lay (s : Step) : PyData.canLay0 (rowT s) = true := by
  cases s with
  | turn i => simp only [rowT, PyData.canLay0, PyData.canLayAll0, Bool.and_true]; decide +kernel
  | swap i j => simp only [rowT, PyData.canLay0, PyData.canLayAll0, Bool.and_true]; decide +kernel
  | lift a ws sh => simp only [rowT, PyData.canLay0, PyData.canLayAll0, lay_ints, Bool.and_true]; decide +kernel
theorem stepD_deep (s : Step) : PyData.depth (stepD s) ≤ 2 := by
  cases s <;> simp [stepD, PyData.depth, PyData.depthAll, depth_ints]
theorem rowT_deep (s : Step) : PyData.depth (rowT s) ≤ 2 := by
  cases s <;> simp [rowT, PyData.depth, PyData.depthAll, depth_ints]
theorem all_lay {f : Step → PyData} (h : ∀ s, PyData.canLay0 (f s) = true) : ∀ ss : List Step, PyData.canLayAll0 (ss.map f) = true
  | [] => rfl
  | s :: ss => by
    show (PyData.canLay0 (f s) && PyData.canLayAll0 (ss.map f)) = true
    rw [h, all_lay h ss]
    rfl
theorem all_deep {f : Step → PyData} (h : ∀ s, PyData.depth (f s) ≤ 2) : ∀ ss : List Step, PyData.depthAll (ss.map f) ≤ 2
  | [] => by simp [PyData.depthAll]
  | s :: ss => by
    show PyData.depthAll (f s :: ss.map f) ≤ 2
    rw [PyData.depthAll]
    have := h s
    have := all_deep h ss
    omega
theorem steps_shaped (ss : List Step) : SeqAt.shaped (.list (ss.map stepD)) = true := by
  show (PyData.canLay0 (.list (ss.map stepD)) && decide (PyData.depth (.list (ss.map stepD)) ≤ 64)) = true
  rw [Bool.and_eq_true]
  have := all_deep stepD_deep ss
  exact ⟨by rw [PyData.canLay0]; exact all_lay stepD_lay ss, decide_eq_true (by rw [PyData.depth]; omega)⟩
def mixD (n : Nat) (ss : List Step) : PyData := .tuple [.int n, .list (ss.map rowT)]
theorem mix_lay (n : Nat) (ss : List Step) : PyData.canLay0 (mixD n ss) = true := by
  unfold mixD
  simp only [PyData.canLay0, PyData.canLayAll0, all_lay rowT_lay ss, Bool.and_true]
theorem mix_shaped (n : Nat) (ss : List Step) : SeqAt.shaped (mixD n ss) = true := by
  show (PyData.canLay0 (mixD n ss) && decide (PyData.depth (mixD n ss) ≤ 64)) = true
  rw [Bool.and_eq_true]
  have := all_deep rowT_deep ss
  refine ⟨mix_lay n ss, decide_eq_true ?_⟩
  unfold mixD
  simp only [PyData.depth, PyData.depthAll]
  omega
theorem eqv_len : ∀ {ds es : List PyData}, ds.length ≠ es.length → PyData.eqvAll ds es = false
  | [], [], h => absurd rfl h
  | [], _ :: _, _ => by simp [PyData.eqvAll]
  | _ :: _, [], _ => by simp [PyData.eqvAll]
  | d :: ds, e :: es, h => by
    rw [PyData.eqvAll, eqv_len (ds := ds) (es := es) (fun z => h (by rw [List.length_cons, List.length_cons, z])), Bool.and_false]
theorem mix_other (n : Nat) {ss ts : List Step} (h : ss.length ≠ ts.length) : PyData.eqv (mixD n ss) (mixD n ts) = false := by
  unfold mixD
  rw [PyData.eqv, PyData.eqvAll, PyData.eqvAll, PyData.eqv, PyData.eqv, eqv_len (by rw [List.length_map, List.length_map]; exact h), Bool.false_and, Bool.and_false]
end My

namespace My
open PySem PySem.Spec PyProof.Rows L2 Pre
local macro_rules | `(tactic| walk_at "go") => `(tactic| repeat (first | (with_reducible first | refine iteT ?_ | refine iteF ?_ | refine iteNtt ?_ | refine iteNff ?_ | refine iteET (by omega) ?_ | refine iteEF (by omega) ?_ | refine iteENT (by omega) ?_ | refine iteENF (by omega) ?_ | refine iteDT (by omega) ?_ | refine iteDF (by omega) ?_ | refine iteNT (by omega) ?_ | refine iteNF (by omega) ?_) | refine ⟨_, rfl, ?_⟩ | refine ⟨_, _, rfl, rfl, ?_⟩ | refine ⟨_, _, rfl, ?_⟩ | refine ⟨rfl, ?_⟩ | refine .inl ⟨_, rfl, ?_⟩ | refine .inr ⟨_, rfl, ?_⟩))
local macro_rules | `(tactic| walk_at "b") => `(tactic| try dsimp (config := { proj := false, iota := false, eta := false, zeta := false }) only)
section
variable {P : Program} {w : World} {K : PySem.W.Frag} {mg : Str → Option Value} {base : Heap}
def sp_law_purse (K : PySem.W.Frag) : Sp := fun vs H Q _ => ∃ (a : Addr) (ns : List Int) (i : Nat), vs = [.ref a, .int i] ∧ SqL K H a (ns.map V.int) ∧ ∀ H' g, Same H H' → H g = none → GenAt H' g (1000 * i) → Q (.ref g) H'
theorem G_law_purse (T : Top K mg) : FnOk P w K mg base CX0 1 T.f_law_purse T.fd_law_purse ["_law_script", "_law_at"] (sp_law_purse K) := by
  refine T.F_law_purse.ok sc_law_purse (fun vs H Q E h => by obtain ⟨a, ns, i, rfl, _⟩ := h; rfl) (fun cdv A outer s H vs Q E hr h => ?_)
  obtain ⟨a, ns, i, rfl, hS, q⟩ := h
  refine ⟨_, PSs.nox (pss_cons (ps_set (i := 2) sc_law_purse.nd rfl (by first | exact Or.inl rfl | exact Or.inr rfl) (pe_callTy call_int1 (by rfl) T.n_int (by decide +kernel) (pa_cons (pe_ifExp (pt_cmpR op_lt (pv 1) (pe_callB (k_len K rfl) (by rfl) T.n_len (by decide +kernel) (pa_cons (pv 0) pa_nil)) (nomark _)) (pe_ix (k_ixL K rfl) (pv 0) (pv 1) (fun _ _ => rfl)) (pe_op op_mod (pe_callB (k_sum K rfl rfl) (by rfl) T.n_sum (by decide +kernel) (pa_cons (pe_slice (k_slL K rfl) (pv 0) po_none (po_some pe_int)) pa_nil)) pe_int)) pa_nil)))
  (pss_one (ps_ret (pe_lst (pa_cons (pe_op op_mul (pe_callTy call_int1 (by rfl) T.n_int (by decide +kernel) (pa_cons (pe_cmpR op_ge (pv 2) (pe_op op_powW pe_int pe_int) (nomark _)) pa_nil)) (pe_op op_mod (pv 2) (pe_op op_powW (pe_op op_powW pe_int pe_int) pe_int))) (pa_cons (pe_op op_mod (pv 2) pe_int) (pa_cons (pe_op op_mul pe_int (pv 1)) pa_nil))))))), ?_⟩
  refine ⟨_, rfl, _, rfl, a, _, rfl, .inl hS, _, _, rfl, rfl, _, rfl, ite2 (fun e => ?_) (fun e => ?_)⟩
  · have e1 : (i : Int) < (((ns.map V.int).length : Nat) : Int) := of_decide_eq_true e
    rw [List.length_map] at e1
    have hi : i < ns.length := by omega
    have s1 : Same H H := Same.refl _
    refine ⟨_, rfl, _, rfl, a, _, _, .int ns[i], rfl, rfl, hS, atI_nat (by rw [List.getElem?_map, List.getElem?_eq_getElem hi]; rfl), ?_⟩
    refine .inl ⟨_, rfl, ?_⟩
    walk_at "go"
    refine ⟨⟨by decide, by decide +kernel⟩, ?_⟩
    walk_at "go"
    refine ⟨⟨by decide, by decide +kernel⟩, ?_⟩
    walk_at "go"
    refine ⟨⟨by decide, by decide +kernel⟩, ?_⟩
    walk_at "go"
    refine ⟨(by show (0 : Int) < _; decide +kernel), ?_⟩
    refine ⟨_, _, rfl, rfl, .inl ⟨by split <;> decide, by split <;> decide⟩, ?_⟩
    walk_at "go"
    refine ⟨(by show (0 : Int) < _; decide), ?_⟩
    walk_at "go"
    refine ⟨.inl ⟨by decide, by decide⟩, (show 3 ≤ sizeLine by decide), fun g ng => ?_⟩
    exact q _ g (s1.trans (same_upd ng)) (s1.free ng) ⟨_, _, _, upd_same, by omega, by omega⟩
  · refine ⟨_, rfl, _, rfl, a, _, rfl, hS, fun p np => ?_⟩
    have ec : ∃ ms : List Int, cutV (ns.map V.int) none (some 1) = ms.map V.int := by
      unfold cutV
      exact ⟨(ns.drop (HT.sIx (ns.map V.int).length 0 none)).take (HT.sIx (ns.map V.int).length (ns.map V.int).length (some 1) - HT.sIx (ns.map V.int).length 0 none), by rw [List.map_take, List.map_drop]⟩
    obtain ⟨ms, em⟩ := ec
    have s1 : Same H (upd H p (.lst (cutV (ns.map V.int) none (some 1)))) := same_upd np
    refine ⟨p, ms, rfl, .inl (.inl (by rw [upd_same, em])), _, _, rfl, rfl, (by show (0 : Int) < 1000003; decide), ?_⟩
    refine .inl ⟨_, rfl, ?_⟩
    walk_at "go"
    refine ⟨⟨by decide, by decide +kernel⟩, ?_⟩
    walk_at "go"
    refine ⟨⟨by decide, by decide +kernel⟩, ?_⟩
    walk_at "go"
    refine ⟨⟨by decide, by decide +kernel⟩, ?_⟩
    walk_at "go"
    refine ⟨(by show (0 : Int) < _; decide +kernel), ?_⟩
    refine ⟨_, _, rfl, rfl, .inl ⟨by split <;> decide, by split <;> decide⟩, ?_⟩
    walk_at "go"
    refine ⟨(by show (0 : Int) < _; decide), ?_⟩
    walk_at "go"
    refine ⟨.inl ⟨by decide, by decide⟩, (show 3 ≤ sizeLine by decide), fun g ng => ?_⟩
    exact q _ g (s1.trans (same_upd ng)) (s1.free ng) ⟨_, _, _, upd_same, by omega, by omega⟩
def sp_law_draw : Sp := fun vs H Q _ => ∃ (g : Addr) (b : Int) (n : Nat), vs = [.ref g, .int b] ∧ GenAt H g n ∧ n ≤ 10 ^ 12 ∧ 0 < b ∧ b < 2 ^ 2900 ∧ ∀ (d : Int) H', 0 ≤ d → d < b → GenAt H' g (n + 100) → But g H H' → Q (.int d) H'
theorem G_law_draw (T : Top K mg) : FnOk P w K mg base CX0 1 T.f_law_draw T.fd_law_draw ["_law_purse_here", "_law_many"] sp_law_draw := by
  refine T.F_law_draw.ok sc_law_draw (fun vs H Q E h => by obtain ⟨g, b, n, rfl, _⟩ := h; rfl) (fun cdv A outer s H vs Q E hr h => ?_)
  obtain ⟨g, b, n, rfl, ⟨x, y, z, hg, z0, z1⟩, hn, b0, b1, q⟩ := h
  refine ⟨_, PSs.nox (pss_cons (ps_if (pt_cmpR op_gt (pe_ix (k_ixL K rfl) (pv 0) pe_int (fun _ _ => rfl)) pe_int (nomark _))
    (pss_cons (ps_set (i := 3) sc_law_draw.nd rfl (by first | exact Or.inl rfl | exact Or.inr rfl) (pe_op op_mod (pe_ix (k_ixL K rfl) (pv 0) pe_int (fun _ _ => rfl)) (pv 1)))
  (pss_cons (ps_asg (pe_op op_fdivW (pe_ix (k_ixL K rfl) (pv 0) pe_int (fun _ _ => rfl)) (pv 1)) (pg_sub (pv 0) pe_int set_list))
  (pss_one (ps_ret (pv 3)))))
    pss_nil)
  (pss_cons (ps_asg (pe_op op_add (pe_ix (k_ixL K rfl) (pv 0) pe_int (fun _ _ => rfl)) pe_int) (pg_sub (pv 0) pe_int set_list))
  (pss_cons (ps_set (i := 2) sc_law_draw.nd rfl (by first | exact Or.inl rfl | exact Or.inr rfl) (pe_op op_mod (pe_op op_add (pe_op op_add (pe_op op_mul (pe_ix (k_ixL K rfl) (pv 0) pe_int (fun _ _ => rfl)) pe_int) (pe_op op_mul (pe_ix (k_ixL K rfl) (pv 0) pe_int (fun _ _ => rfl)) pe_int)) pe_int) pe_int))
  (pss_cons (ps_set (i := 2) sc_law_draw.nd rfl (by first | exact Or.inl rfl | exact Or.inr rfl) (pe_op op_mod (pe_op op_add (pe_op op_mul (pv 2) (pv 2)) (pe_ix (k_ixL K rfl) (pv 0) pe_int (fun _ _ => rfl))) pe_int))
  (pss_cons (ps_set (i := 2) sc_law_draw.nd rfl (by first | exact Or.inl rfl | exact Or.inr rfl) (pe_op op_mod (pe_op op_add (pe_op op_mul (pv 2) (pv 2)) pe_int) pe_int))
  (pss_one (ps_ret (pe_op op_mod (pe_op op_fdivW (pv 2) pe_int) (pv 1))))))))), ?_⟩
  have a0 : ∀ x y z : Int, atI [V.int x, .int y, .int z] 0 = some (.int x) := fun _ _ _ => rfl
  have a1 : ∀ x y z : Int, atI [V.int x, .int y, .int z] 1 = some (.int y) := fun _ _ _ => rfl
  have a2 : ∀ x y z : Int, atI [V.int x, .int y, .int z] 2 = some (.int z) := fun _ _ _ => rfl
  have hS : SqL K H g [.int x, .int y, .int z] := .inl (.inl hg)
  have nb : b.natAbs < 2 ^ 2900 := by
    have e : ((b.natAbs : Nat) : Int) < ((2 ^ 2900 : Nat) : Int) := by
      rw [Int.natCast_pow]
      omega
    exact Int.ofNat_lt.mp e
  refine ⟨_, rfl, g, _, 0, _, rfl, rfl, hS, a0 x y z, _, _, rfl, rfl, _, rfl, ite2 (fun e => ?_) (fun e => ?_)⟩
  · refine ⟨_, rfl, g, _, 0, _, rfl, rfl, hS, a0 x y z, _, rfl, _, _, rfl, rfl, b0, ?_⟩
    refine ⟨_, rfl, g, _, 0, _, rfl, rfl, hS, a0 x y z, _, rfl, _, _, rfl, rfl, wide_div b0 nb (by decide) (by decide), _, rfl, g, _, 0, 0, rfl, rfl, hg, rfl, _, rfl, ?_⟩
    exact q _ _ (Int.emod_nonneg _ (by omega)) (Int.emod_lt_of_pos _ b0) ⟨_, _, _, upd_same, z0, by omega⟩ (But.upd But.refl)
  · refine ⟨_, rfl, g, _, 2, _, rfl, rfl, hS, a2 x y z, _, _, rfl, rfl, _, rfl, g, _, 2, 2, rfl, rfl, hg, rfl, ?_⟩
    have hg2 : upd H g (.lst [V.int x, .int y, .int (z + 1)]) g = some (.lst [V.int x, .int y, .int (z + 1)]) := upd_same
    have b2 : But g H (upd H g (.lst [V.int x, .int y, .int (z + 1)])) := But.upd But.refl
    rw [show ([V.int x, V.int y, V.int z].set 2 (V.int (z + 1))) = [V.int x, .int y, .int (z + 1)] from rfl]
    generalize upd H g (.lst [V.int x, .int y, .int (z + 1)]) = H2 at *
    have hS2 : SqL K H2 g [.int x, .int y, .int (z + 1)] := .inl (.inl hg2)
    walk_at "go"
    refine ⟨g, _, 1, _, rfl, rfl, hS2, a1 _ _ _, ?_⟩
    walk_at "go"
    refine ⟨.inr ⟨by decide, by decide⟩, ?_⟩
    walk_at "go"
    refine ⟨g, _, 2, _, rfl, rfl, hS2, a2 _ _ _, ?_⟩
    walk_at "go"
    refine ⟨.inr ⟨by decide, by decide⟩, ?_⟩
    walk_at "go"
    refine ⟨(by show (0 : Int) < _; decide), ?_⟩
    walk_at "go"
    refine ⟨cmul_mod _ _ _ (by decide) (by decide), ?_⟩
    walk_at "go"
    refine ⟨g, _, 2, _, rfl, rfl, hS2, a2 _ _ _, ?_⟩
    walk_at "go"
    refine ⟨(by show (0 : Int) < _; decide), ?_⟩
    walk_at "go"
    refine ⟨cmul_mod _ _ _ (by decide) (by decide), ?_⟩
    walk_at "go"
    refine ⟨(by show (0 : Int) < _; decide), ?_⟩
    walk_at "go"
    refine ⟨⟨by decide, by decide⟩, ?_⟩
    walk_at "go"
    refine ⟨b0, ?_⟩
    exact q _ _ (Int.emod_nonneg _ (by omega)) (Int.emod_lt_of_pos _ b0) ⟨_, _, _, hg2, by omega, by omega⟩ b2
end
end My

namespace My
open PySem PySem.Spec PyProof.Rows L2 Pre
theorem ty_list {K : PySem.W.Frag} {H : Hp} {a : Addr} {xs : List V} (h : H a = some (.lst xs)) : TyX K H (.ref a) (.type "list") := .base (.lst h)
theorem ty_tup {K : PySem.W.Frag} {H : Hp} {a : Addr} {xs : List V} (h : H a = some (.tup xs)) : TyX K H (.ref a) (.type "tuple") := .base (.tup h)
theorem fm_non0 {α β : Type} (l : List α) : (l.map fun _ => (none : Option β)).filterMap id = [] := by
  induction l with
  | nil => rfl
  | cons n r ih => simp
local macro_rules | `(tactic| walk_at "go") => `(tactic| repeat (first | (with_reducible first | refine iteT ?_ | refine iteF ?_ | refine iteNtt ?_ | refine iteNff ?_ | refine iteET (by omega) ?_ | refine iteEF (by omega) ?_ | refine iteENT (by omega) ?_ | refine iteENF (by omega) ?_ | refine iteDT (by omega) ?_ | refine iteDF (by omega) ?_ | refine iteNT (by omega) ?_ | refine iteNF (by omega) ?_) | refine ⟨_, rfl, ?_⟩ | refine ⟨_, _, rfl, rfl, ?_⟩ | refine ⟨_, _, rfl, ?_⟩ | refine ⟨rfl, ?_⟩ | refine .inl ⟨_, rfl, ?_⟩ | refine .inr ⟨_, rfl, ?_⟩))
local macro_rules | `(tactic| walk_at "b") => `(tactic| try dsimp (config := { proj := false, iota := false, eta := false, zeta := false }) only)
section
variable {P : Program} {w : World} {K : PySem.W.Frag} {mg : Str → Option Value} {base : Heap}
def sp_are_wholes : Sp := fun vs H Q _ => ∃ (a : Addr) (ns : List Int), vs = [.ref a] ∧ H a = some (.lst (ns.map V.int)) ∧ ns.length ≤ 1000 ∧ ∀ H', Same H H' → Q (.bl true) H'
theorem G_are_wholes (T : Top K mg) : FnOk P w K mg base CX0 2 T.f_are_wholes T.fd_are_wholes ["value"] sp_are_wholes := by
  refine T.F_are_wholes.ok sc_are_wholes (fun vs H Q E h => by obtain ⟨a, ns, rfl, _⟩ := h; rfl) (fun cdv A outer s H vs Q E hr h => ?_)
  obtain ⟨a, ns, rfl, hA, hn, q⟩ := h
  refine ⟨_, PSs.nox (pss_one (ps_ret (pe_and (pe_callB (k_isi K rfl) (by rfl) T.n_isinstance (by decide +kernel) (pa_cons (pv 0) (pa_cons (pe_bltn (v := .ty "list") (by rfl) T.n_list (by decide +kernel) rfl) pa_nil))) (pe_one (pe_cmpR (k_eqD K rfl hr.units) (pe_lc (own := [("item", 1)]) (g := gName 1) (by rfl) sc_are_wholes.nd (k_piL K rfl (pv 0)) (blkOk_by (own := [("item", 1)]) (N := N_are_wholes) (sc := defScope s_are_wholes) (by decide +kernel)) (fun _ _ _ _ _ => (pg_name (i := 1) sc_are_wholes.nd rfl (by first | exact Or.inl rfl | exact Or.inr rfl))) (fun _ _ _ _ _ => (pts_one (pt_not (pt_val (pe_call (G_is_whole T) (hr.mono (by decide)) (by rfl) T.g_is_whole T.F_is_whole.kp T.b_is_whole .nil pass0 (pa_cons (pv 1) pa_nil)))))) (fun _ _ _ _ _ => (pv 1))) (pe_lst pa_nil) (nomark _)))))), ?_⟩
  have hS : SqL K H a (ns.map V.int) := .inl (.inl hA)
  refine ⟨_, rfl, _, _, _, _, true, rfl, .ty _, ty_list hA, kit_ty (by decide +kernel), true, rfl, iteT ?_⟩
  refine ⟨_, rfl, a, rfl, ⟨_, hS⟩, fun D nD => ?_⟩
  refine lc_selL (K := K) (xs := ns.map V.int) (ns.map fun _ => none) nD hS (by rw [List.length_map, List.length_map]) (by rw [List.length_map]; exact small1000 hn) (fun x => rfl) ?_ ?_
  · intro i x o H' hx ho s Qt qt
    obtain ⟨n, hn, rfl⟩ := int_at hx
    rw [List.getElem?_map, hn] at ho
    cases ho
    refine ⟨_, rfl, n, rfl, true, rfl, ?_⟩
    exact qt _ (Same.refl _)
  · intro H' s hD
    rw [fm_non0] at hD
    refine ⟨Nat.zero_le _, fun p np => ?_⟩
    refine eq_lst (ns := []) (.inl (.inl (same_upd np _ _ hD))) (.inl (.inl upd_same)) ?_
    exact q _ (s.trans (same_upd np))
def sp_is_lift : Sp := fun vs H Q _ => ∃ (v : V) (n : Nat) (s : Step), vs = [v, .int n] ∧ StepV (fun _ => True) H v s ∧ s.ok n ∧ n ≤ 4 ∧ ∀ H', Same H H' → Q (.bl (match s with | .lift .. => true | _ => false)) H'
theorem G_is_lift (T : Top K mg) : FnOk P w K mg base CX0 3 T.f_is_lift T.fd_is_lift ["value", "wide"] sp_is_lift := by
  refine T.F_is_lift.ok sc_is_lift (fun vs H Q E h => by obtain ⟨v, n, s, rfl, _⟩ := h; rfl) (fun cdv A outer s H vs Q E hr h => ?_)
  obtain ⟨v, n, s, rfl, hV, hO, hn, q⟩ := h
  refine ⟨_, PSs.nox (pss_cons (ps_if (PW.pt (pw_or (pt_not (pt_val (pe_callB (k_isi K rfl) (by rfl) T.n_isinstance (by decide +kernel) (pa_cons (pv 0) (pa_cons (pe_bltn (v := .ty "tuple") (by rfl) T.n_tuple (by decide +kernel) rfl) pa_nil))))) (pw_or (pt_cmpR op_ne (pe_callB (k_len K rfl) (by rfl) T.n_len (by decide +kernel) (pa_cons (pv 0) pa_nil)) pe_int (nomark _)) (pw_or1 (pt_cmpR op_ne (pe_ix (k_ixT K rfl) (pv 0) pe_int (fun _ _ => rfl)) pe_str (nomark _))))))
    (pss_one (ps_ret pe_bl))
    pss_nil)
  (pss_cons (ps_if (PW.pt (pw_or (pt_not (pt_val (pe_call (G_is_between T) (hr.mono (by decide)) (by rfl) T.g_is_between T.F_is_between.kp T.b_is_between .nil pass0 (pa_cons (pe_ix (k_ixT K rfl) (pv 0) pe_int (fun _ _ => rfl)) (pa_cons pe_int (pa_cons (pe_op op_sub (pv 1) pe_int) pa_nil)))))) (pw_or1 (pt_not (pt_val (pe_call (G_is_between T) (hr.mono (by decide)) (by rfl) T.g_is_between T.F_is_between.kp T.b_is_between .nil pass0 (pa_cons (pe_ix (k_ixT K rfl) (pv 0) pe_int (fun _ _ => rfl)) (pa_cons pe_int (pa_cons pe_non pa_nil)))))))))
    (pss_one (ps_ret pe_bl))
    pss_nil)
  (pss_one (ps_ret (pe_and (pe_call (G_are_wholes T) (hr.mono (by decide)) (by rfl) T.g_are_wholes T.F_are_wholes.kp T.b_are_wholes .nil pass0 (pa_cons (pe_ix (k_ixT K rfl) (pv 0) pe_int (fun _ _ => rfl)) pa_nil)) (pe_and (pe_cmpR op_eq (pe_callB (k_len K rfl) (by rfl) T.n_len (by decide +kernel) (pa_cons (pe_ix (k_ixT K rfl) (pv 0) pe_int (fun _ _ => rfl)) pa_nil)) (pv 1) (nomark _)) (pe_one (pe_cmpR op_eq (pe_ix (k_ixL K rfl) (pe_ix (k_ixT K rfl) (pv 0) pe_int (fun _ _ => rfl)) (pe_ix (k_ixT K rfl) (pv 0) pe_int (fun _ _ => rfl)) (fun _ _ => rfl)) pe_int (nomark _))))))))), ?_⟩
  cases s with
  | turn i =>
    obtain ⟨t, rfl, ht⟩ := hV
    refine ⟨_, rfl, _, _, _, _, true, rfl, .ty _, ty_tup ht, kit_ty (by decide +kernel), true, rfl, ?_⟩
    walk_at "go"
    refine ⟨t, _, rfl, .inr (.inl (.inl ht)), ?_⟩
    walk_at "go"
    walk_at "b"
    refine iteENT (by show ¬ ((2 : Int) = 4); decide) ?_
    walk_at "go"
    exact q _ (Same.refl _)
  | swap i j =>
    obtain ⟨t, rfl, ht⟩ := hV
    refine ⟨_, rfl, _, _, _, _, true, rfl, .ty _, ty_tup ht, kit_ty (by decide +kernel), true, rfl, ?_⟩
    walk_at "go"
    refine ⟨t, _, rfl, .inr (.inl (.inl ht)), ?_⟩
    walk_at "go"
    walk_at "b"
    refine iteENT (by show ¬ ((3 : Int) = 4); decide) ?_
    walk_at "go"
    exact q _ (Same.refl _)
  | lift b ws sh =>
    obtain ⟨t, l, rfl, ht, hl, _⟩ := hV
    have hT : SqT K H t [sL, .int b, .ref l, .int sh] := .inl (.inl ht)
    refine ⟨_, rfl, _, _, _, _, true, rfl, .ty _, ty_tup ht, kit_ty (by decide +kernel), true, rfl, ?_⟩
    walk_at "go"
    refine ⟨t, _, rfl, .inr hT, ?_⟩
    walk_at "go"
    obtain ⟨hb, hwl, hw0, hs15, hws⟩ := hO
    have x0 : atI [sL, V.int b, .ref l, .int sh] 0 = some sL := rfl
    have x1 : atI [sL, V.int b, .ref l, .int sh] 1 = some (.int b) := rfl
    have x2 : atI [sL, V.int b, .ref l, .int sh] 2 = some (.ref l) := rfl
    have x3 : atI [sL, V.int b, .ref l, .int sh] 3 = some (.int sh) := rfl
    refine ⟨t, _, _, _, rfl, rfl, hT, x0, ?_⟩
    walk_at "go"
    refine ⟨t, _, _, _, rfl, rfl, hT, x1, ?_⟩
    walk_at "go"
    refine ⟨b, 0, some ((n : Int) - 1), rfl, ?_⟩
    rw [decide_eq_true ⟨by omega, fun j h => by cases h; omega⟩]
    refine ⟨true, rfl, ?_⟩
    walk_at "go"
    refine ⟨t, _, _, _, rfl, rfl, hT, x3, ?_⟩
    walk_at "go"
    refine ⟨sh, 0, none, rfl, ?_⟩
    rw [decide_eq_true ⟨by omega, fun j h => nomatch h⟩]
    refine ⟨true, rfl, ?_⟩
    walk_at "go"
    refine ⟨t, _, _, _, rfl, rfl, hT, x2, ?_⟩
    walk_at "go"
    refine ⟨l, ws, rfl, hl, by omega, fun H1 s1 => ?_⟩
    have hT1 := Same.tup s1 hT
    have hl1 := s1 _ _ hl
    refine ⟨true, rfl, iteT ?_⟩
    walk_at "go"
    refine ⟨t, _, _, _, rfl, rfl, hT1, x2, ?_⟩
    walk_at "go"
    refine ⟨l, _, rfl, .inl (.inl (.inl hl1)), ?_⟩
    rw [List.length_map, hwl]
    walk_at "go"
    have hz : (ws.map V.int)[b]? = some (.int 0) := by
      rw [List.getElem?_map, List.getElem?_eq_getElem (show b < ws.length by omega)]
      rw [List.getD_eq_getElem?_getD, List.getElem?_eq_getElem (show b < ws.length by omega)] at hw0
      exact congrArg (fun z => some (V.int z)) hw0
    refine ⟨t, _, _, _, rfl, rfl, hT1, x2, ?_⟩
    walk_at "go"
    refine ⟨t, _, _, _, rfl, rfl, hT1, x1, ?_⟩
    walk_at "go"
    refine ⟨l, _, _, _, rfl, rfl, .inl (.inl hl1), atI_nat hz, ?_⟩
    walk_at "go"
    exact q _ s1
def sp_is_step : Sp := fun vs H Q _ => ∃ (v : V) (n : Nat) (s : Step), vs = [v, .int n] ∧ StepV (fun _ => True) H v s ∧ s.ok n ∧ n ≤ 4 ∧ ∀ H', Same H H' → Q (.bl true) H'
theorem G_is_step (T : Top K mg) : FnOk P w K mg base CX0 4 T.f_is_step T.fd_is_step ["value", "wide"] sp_is_step := by
  refine T.F_is_step.ok sc_is_step (fun vs H Q E h => by obtain ⟨v, n, s, rfl, _⟩ := h; rfl) (fun cdv A outer s H vs Q E hr h => ?_)
  obtain ⟨v, n, s, rfl, hV, hO, hn, q⟩ := h
  refine ⟨_, PSs.nox (pss_cons (ps_if (pt_val (pe_call (G_is_lift T) (hr.mono (by decide)) (by rfl) T.g_is_lift T.F_is_lift.kp T.b_is_lift .nil pass0 (pa_cons (pv 0) (pa_cons (pv 1) pa_nil))))
    (pss_one (ps_ret pe_bl))
    pss_nil)
  (pss_cons (ps_if (PW.pt (pw_or (pt_not (pt_val (pe_callB (k_isi K rfl) (by rfl) T.n_isinstance (by decide +kernel) (pa_cons (pv 0) (pa_cons (pe_bltn (v := .ty "tuple") (by rfl) T.n_tuple (by decide +kernel) rfl) pa_nil))))) (pw_or (pt_cmpR op_lt (pe_callB (k_len K rfl) (by rfl) T.n_len (by decide +kernel) (pa_cons (pv 0) pa_nil)) pe_int (nomark _)) (pw_or1 (pt_cmpR (k_notIn K rfl) (pe_ix (k_ixT K rfl) (pv 0) pe_int (fun _ _ => rfl)) (pe_tup (pa_cons pe_str (pa_cons pe_str pa_nil))) (by rfl))))))
    (pss_one (ps_ret pe_bl))
    pss_nil)
  (pss_cons (ps_if (pt_cmpR (k_neD K rfl hr.units) (pe_lc (own := [("at", 2)]) (g := gName 2) (by rfl) sc_is_step.nd (k_piT K rfl (pe_slice (k_slT K rfl) (pv 0) (po_some pe_int) po_none)) (blkOk_by (own := [("at", 2)]) (N := N_is_step) (sc := defScope s_is_step) (by decide +kernel)) (fun _ _ _ _ _ => (pg_name (i := 2) sc_is_step.nd rfl (by first | exact Or.inl rfl | exact Or.inr rfl))) (fun _ _ _ _ _ => (pts_one (pt_not (pt_val (pe_call (G_is_between T) (hr.mono (by decide)) (by rfl) T.g_is_between T.F_is_between.kp T.b_is_between .nil pass0 (pa_cons (pv 2) (pa_cons pe_int (pa_cons (pe_op op_sub (pv 1) pe_int) pa_nil)))))))) (fun _ _ _ _ _ => (pv 2))) (pe_lst pa_nil) (nomark _))
    (pss_one (ps_ret pe_bl))
    pss_nil)
  (pss_cons (ps_if (pt_cmpR op_eq (pe_ix (k_ixT K rfl) (pv 0) pe_int (fun _ _ => rfl)) pe_str (nomark _))
    (pss_one (ps_ret (pe_cmpR op_eq (pe_callB (k_len K rfl) (by rfl) T.n_len (by decide +kernel) (pa_cons (pv 0) pa_nil)) pe_int (nomark _))))
    pss_nil)
  (pss_one (ps_ret (pe_and (pe_cmpR op_eq (pe_callB (k_len K rfl) (by rfl) T.n_len (by decide +kernel) (pa_cons (pv 0) pa_nil)) pe_int (nomark _)) (pe_one (pe_cmpR op_ne (pe_ix (k_ixT K rfl) (pv 0) pe_int (fun _ _ => rfl)) (pe_ix (k_ixT K rfl) (pv 0) pe_int (fun _ _ => rfl)) (nomark _)))))))))), ?_⟩
  refine ⟨_, rfl, _, rfl, v, n, s, rfl, hV, hO, hn, fun H1 s1 => ?_⟩
  cases s with
  | lift b ws sh =>
    refine ⟨true, rfl, ?_⟩
    walk_at "go"
    exact q _ s1
  | turn i =>
    obtain ⟨t, rfl, ht⟩ := hV
    have ht1 := s1 _ _ ht
    have hT : SqT K H1 t [sT, .int i] := .inl (.inl ht1)
    have x0 : atI [sT, V.int i] 0 = some sT := rfl
    have x1 : atI [sT, V.int i] 1 = some (.int i) := rfl
    have hi : i < n := hO
    refine ⟨false, rfl, ?_⟩
    walk_at "go"
    refine ⟨_, _, _, _, true, rfl, .ty _, ty_tup ht1, kit_ty (by decide +kernel), true, rfl, ?_⟩
    walk_at "go"
    refine ⟨t, _, rfl, .inr hT, ?_⟩
    walk_at "go"
    refine ⟨t, _, _, _, rfl, rfl, hT, x0, ?_⟩
    refine ⟨(show 2 ≤ sizeLine by decide), fun p2 np2 => ?_⟩
    obtain ⟨H2, e2, s2, h2⟩ := fresh (.tup [sT, sS]) np2
    rw [show upd H1 p2 (HO.tup [V.str (Str.ofString "turn"), V.str (Str.ofString "swap")]) = H2 from e2]
    refine ⟨p2, _, rfl, .inr (.inl (.inl h2)), rfl, rfl, ?_⟩
    rw [show (!inV sT [sT, sS]) = false by decide +kernel]
    walk_at "go"
    have hT2 := Same.tup s2 hT
    refine ⟨t, _, rfl, hT2, (show ¬ (HT.sIx 2 0 (some 1) = 0 ∧ HT.sIx 2 2 none = 2) by decide), fun p3 np3 => ?_⟩
    obtain ⟨H3, e3, s3, h3⟩ := fresh (.tup [V.int (i : Int)]) np3
    rw [show upd H2 p3 (.tup (cutV [sT, .int i] (some 1) none)) = H3 from e3]
    walk_at "go"
    refine ⟨⟨_, .inl (.inl h3)⟩, fun D nD => ?_⟩
    refine lc_dW (walk_tup (K := K) (a := p3) (xs := [V.int (i : Int)])) (S := []) Has.nil [none] nD rfl (small1000 (show 1 ≤ 1000 by decide)) (fun H' s => .inl (.inl (s _ _ h3))) ?_ ?_
    · rintro k o H0 x H'' hk ho s0 hH ⟨rfl, hx⟩ Qt qt
      obtain ⟨a, ha, rfl⟩ : ∃ a : Nat, a < n ∧ x = .int (a : Int) := by
        match k, hx with
        | 0, hx => cases hx; exact ⟨i, hi, rfl⟩
        | k + 1, hx => simp at hx
      have eo : o = none := by
        match k, ho with
        | 0, ho => cases ho; rfl
        | k + 1, ho => simp at ho
      subst eo
      refine ⟨rfl, ?_⟩
      walk_at "go"
      refine ⟨a, 0, some ((n : Int) - 1), rfl, ?_⟩
      rw [decide_eq_true ⟨by omega, fun j h => by cases h; omega⟩]
      refine ⟨true, rfl, ?_⟩
      walk_at "go"
      exact qt none _ (Same.refl _) trivial
    intro H4 s4 _ dD
    rw [show ([none] : List (Option PyData)).filterMap id = ([] : List Int).map PyData.int from rfl, rs_nil] at dD
    obtain ⟨_, e, hD⟩ := Dt.intsE (ns := []) dD
    cases e
    walk_at "go"
    refine ⟨Nat.zero_le _, fun p4 np4 => ?_⟩
    obtain ⟨H5, e5, s5, h5⟩ := fresh (.lst []) np4
    rw [e5]
    refine ne_lst (ns := []) (.inl (.inl (s5 _ _ hD))) (.inl (.inl h5)) ?_
    have s25 := s3.trans (s4.trans s5)
    have hT5 := Same.tup s25 hT2
    have s05 := s1.trans (s2.trans s25)
    walk_at "go"
    refine ⟨t, _, _, _, rfl, rfl, hT5, x0, ?_⟩
    refine ⟨rfl, _, rfl, iteDT rfl ?_⟩
    walk_at "go"
    refine ⟨t, _, rfl, .inr hT5, ?_⟩
    exact ⟨rfl, q _ s05⟩
  | swap i j =>
    obtain ⟨t, rfl, ht⟩ := hV
    have ht1 := s1 _ _ ht
    have hT : SqT K H1 t [sS, .int i, .int j] := .inl (.inl ht1)
    have x0 : atI [sS, V.int i, .int j] 0 = some sS := rfl
    have x1 : atI [sS, V.int i, .int j] 1 = some (.int i) := rfl
    have x2 : atI [sS, V.int i, .int j] 2 = some (.int j) := rfl
    obtain ⟨hi, hj, hij⟩ := hO
    refine ⟨false, rfl, ?_⟩
    walk_at "go"
    refine ⟨_, _, _, _, true, rfl, .ty _, ty_tup ht1, kit_ty (by decide +kernel), true, rfl, ?_⟩
    walk_at "go"
    refine ⟨t, _, rfl, .inr hT, ?_⟩
    walk_at "go"
    refine ⟨t, _, _, _, rfl, rfl, hT, x0, ?_⟩
    refine ⟨(show 2 ≤ sizeLine by decide), fun p2 np2 => ?_⟩
    obtain ⟨H2, e2, s2, h2⟩ := fresh (.tup [sT, sS]) np2
    rw [show upd H1 p2 (HO.tup [V.str (Str.ofString "turn"), V.str (Str.ofString "swap")]) = H2 from e2]
    refine ⟨p2, _, rfl, .inr (.inl (.inl h2)), rfl, rfl, ?_⟩
    rw [show (!inV sS [sT, sS]) = false by decide +kernel]
    walk_at "go"
    have hT2 := Same.tup s2 hT
    refine ⟨t, _, rfl, hT2, (show ¬ (HT.sIx 3 0 (some 1) = 0 ∧ HT.sIx 3 3 none = 3) by decide), fun p3 np3 => ?_⟩
    obtain ⟨H3, e3, s3, h3⟩ := fresh (.tup [V.int (i : Int), V.int (j : Int)]) np3
    rw [show upd H2 p3 (.tup (cutV [sS, .int i, .int j] (some 1) none)) = H3 from e3]
    walk_at "go"
    refine ⟨⟨_, .inl (.inl h3)⟩, fun D nD => ?_⟩
    refine lc_dW (walk_tup (K := K) (a := p3) (xs := [V.int (i : Int), V.int (j : Int)])) (S := []) Has.nil [none, none] nD rfl (small1000 (show 2 ≤ 1000 by decide)) (fun H' s => .inl (.inl (s _ _ h3))) ?_ ?_
    · rintro k o H0 x H'' hk ho s0 hH ⟨rfl, hx⟩ Qt qt
      obtain ⟨a, ha, rfl⟩ : ∃ a : Nat, a < n ∧ x = .int (a : Int) := by
        match k, hx with
        | 0, hx => cases hx; exact ⟨i, hi, rfl⟩
        | 1, hx => cases hx; exact ⟨j, hj, rfl⟩
        | k + 2, hx => simp at hx
      have eo : o = none := by
        match k, ho with
        | 0, ho => cases ho; rfl
        | 1, ho => cases ho; rfl
        | k + 2, ho => simp at ho
      subst eo
      refine ⟨rfl, ?_⟩
      walk_at "go"
      refine ⟨a, 0, some ((n : Int) - 1), rfl, ?_⟩
      rw [decide_eq_true ⟨by omega, fun j h => by cases h; omega⟩]
      refine ⟨true, rfl, ?_⟩
      walk_at "go"
      exact qt none _ (Same.refl _) trivial
    intro H4 s4 _ dD
    rw [show ([none, none] : List (Option PyData)).filterMap id = ([] : List Int).map PyData.int from rfl, rs_nil] at dD
    obtain ⟨_, e, hD⟩ := Dt.intsE (ns := []) dD
    cases e
    walk_at "go"
    refine ⟨Nat.zero_le _, fun p4 np4 => ?_⟩
    obtain ⟨H5, e5, s5, h5⟩ := fresh (.lst []) np4
    rw [e5]
    refine ne_lst (ns := []) (.inl (.inl (s5 _ _ hD))) (.inl (.inl h5)) ?_
    have s25 := s3.trans (s4.trans s5)
    have hT5 := Same.tup s25 hT2
    have s05 := s1.trans (s2.trans s25)
    walk_at "go"
    refine ⟨t, _, _, _, rfl, rfl, hT5, x0, ?_⟩
    refine ⟨rfl, _, rfl, iteDF (by decide) ?_⟩
    walk_at "go"
    refine ⟨t, _, rfl, .inr hT5, ?_⟩
    refine ⟨rfl, _, rfl, iteDT rfl ?_⟩
    walk_at "go"
    refine ⟨t, _, _, _, rfl, rfl, hT5, x1, ?_⟩
    walk_at "go"
    refine ⟨t, _, _, _, rfl, rfl, hT5, x2, ?_⟩
    have z := q _ s05
    rw [show true = (!decide (V.int (i : Int) = V.int (j : Int))) by rw [decide_eq_false (fun z => hij (by have := V.int.inj z; omega))]; rfl] at z
    exact ⟨rfl, z⟩
end
end My

namespace My
open PySem PySem.Spec PyProof.Rows L2 Pre
theorem take_snoc {α : Type} {l : List α} {i : Nat} {x : α} (h : l[i]? = some x) : l.take (i + 1) = l.take i ++ [x] := by
  rw [List.take_add_one, h]
  rfl
theorem tyx_insC {K : PySem.W.Frag} {H : Hp} {a C dx : Addr} {fs : List (Str × V)} (c : C8.InsC K C) (h : H a = some (.ins C dx fs)) : TyX K H (.ref a) (.ref C) := .base (.ins h c.cl c.ha c.hn c.htk c.hm)
/-- a comprehension that makes steps or rows of the items of a list -/
theorem lc_stp {K : PySem.W.Frag} {a : Addr} {xs : List V} {j : Nat} {te : TE} {vs : List Nat} {σ : L2.St} {H1 : Hp} {D : Addr} {Qd : Hp → Prop} {ss : List Step} (R : Hp → V → Step → Prop) (hR : ∀ {H H' : Hp}, (∃ ys, H D = some (.lst ys)) → (∀ b o, b ≠ D → H b = some o → H' b = some o) → ∀ v s, R H v s → R H' v s)
    (nD : H1 D = none) (hA : SqL K H1 a xs) (hl : xs.length = ss.length) (hz : xs.length < sizeLine)
    (hw : ∀ x, wipe ((wipe σ vs).set j (some x)) vs = wipe σ vs)
    (hs : ∀ (i : Nat) (x : V) (s : Step) (H' : Hp), xs[i]? = some x → ss[i]? = some s → Same H1 H' → (∃ ys, H' D = some (.lst ys)) → ∀ Qt : V → Hp → Prop, (∀ y H'', Same H' H'' → R H'' y s → Qt y H'') → te ((wipe σ vs).set j (some x)) H' Qt)
    (hd : ∀ H' ys, Same H1 H' → H' D = some (.lst ys) → AllV (R H') ys ss → Qd H') :
    ∃ W : Nat → Nat → Hp → Prop, (∃ m, W 0 m (upd H1 D (.lst []))) ∧ ∀ i m H, W i m H →
      ((Itl K a).stop i H ∧ Qd H) ∨ ((Itl K a).go i H ∧ ∃ Nx : Hp → Prop, (∀ H', Nx H' → ∃ m', m' < m ∧ W (i + 1) m' H') ∧ ∀ x H', (Itl K a).yld i H x H' → gName j x (wipe σ vs) H' fun σ2 H2 => wipe σ2 vs = wipe σ vs ∧ tYes σ2 H2 fun b H3 =>
        if b = true then te σ2 H3 fun y H4 => ∃ acc, H4 D = some (.lst acc) ∧ acc.length < sizeLine ∧ Nx (upd H4 D (.lst (acc ++ [y]))) else Nx H3) := by
  refine lc_list (K := K) (a := a) (xs := xs) (fun i H => Same H1 H ∧ ∃ ys, H D = some (.lst ys) ∧ AllV (R H) ys (ss.take i)) ⟨same_upd nD, [], upd_same, trivial⟩ (fun i H _ p => p.1.seq hA) ?_ ?_
  · rintro i x H hx ⟨s1, ys, hD, hy⟩
    refine ⟨hw _, ?_⟩
    have hi := (List.getElem?_eq_some_iff.mp hx).1
    have hsi : ss[i]? = some (ss[i]'(by omega)) := List.getElem?_eq_getElem (by omega)
    unfold tYes
    dsimp only
    rw [if_pos (show true = true from rfl)]
    refine hs i x _ H hx hsi s1 ⟨ys, hD⟩ _ fun y H2 s2 r => ?_
    have hD2 := s2 _ _ hD
    have hyl := hy.len
    rw [List.length_take] at hyl
    refine ⟨ys, hD2, by omega, same_over nD (s1.trans s2), ys ++ [y], upd_same, ?_⟩
    rw [take_snoc hsi]
    have k : ∀ b o, b ≠ D → H2 b = some o → upd H2 D (.lst (ys ++ [y])) b = some o := fun b o nb h => by rw [upd_ne nb]; exact h
    exact (hy.imp fun v s h => hR ⟨_, hD2⟩ k v s (hR ⟨_, hD⟩ (fun b o _ h => s2 b o h) v s h)).app ⟨hR ⟨_, hD2⟩ k _ _ r, trivial⟩
  · rintro H ⟨s1, ys, hD, hy⟩
    rw [hl, List.take_length] at hy
    exact hd H ys s1 hD hy
theorem row_off {D : Addr} {H H' : Hp} (h : ∃ ys, H D = some (.lst ys)) (k : ∀ b o, b ≠ D → H b = some o → H' b = some o) (v : V) (s : Step) (r : RowV H v s) : RowV H' v s :=
  RowV.lk (M := fun b => b = D) (fun b o n e => k b o n e) (fun b e => by rw [e]; exact h) r
theorem step_off {D : Addr} {H0 H H' : Hp} (h : ∃ ys, H D = some (.lst ys)) (k : ∀ b o, b ≠ D → H b = some o → H' b = some o) (v : V) (s : Step) (r : StepV (fun l => l ≠ D ∧ H0 l = none) H v s) : StepV (fun l => l ≠ D ∧ H0 l = none) H' v s :=
  StepV.lk (M := fun b => b = D) (fun b o n e => k b o n e) (fun b e => by rw [e]; exact h) (fun l n e => n.1 e) r
local macro_rules | `(tactic| walk_at "go") => `(tactic| repeat (first | (with_reducible first | refine iteT ?_ | refine iteF ?_ | refine iteNtt ?_ | refine iteNff ?_ | refine iteET (by omega) ?_ | refine iteEF (by omega) ?_ | refine iteENT (by omega) ?_ | refine iteENF (by omega) ?_ | refine iteDT (by omega) ?_ | refine iteDF (by omega) ?_ | refine iteNT (by omega) ?_ | refine iteNF (by omega) ?_) | refine ⟨_, rfl, ?_⟩ | refine ⟨_, _, rfl, rfl, ?_⟩ | refine ⟨_, _, rfl, ?_⟩ | refine ⟨rfl, ?_⟩ | refine .inl ⟨_, rfl, ?_⟩ | refine .inr ⟨_, rfl, ?_⟩))
local macro_rules | `(tactic| walk_at "b") => `(tactic| try dsimp (config := { proj := false, iota := false, eta := false, zeta := false }) only)
section
variable {P : Program} {w : World} {K : PySem.W.Frag} {mg : Str → Option Value} {base : Heap}
def sp_check_number : Sp := fun vs H Q _ => ∃ (i lo : Int) (hi : Option Int), vs = [.int i, .int lo, (match hi with | some j => .int j | none => .non)] ∧ lo ≤ i ∧ (∀ j, hi = some j → i ≤ j) ∧ Q .non H
theorem G_check_number (T : Top K mg) : FnOk P w K mg base CX0 3 T.f_check_number T.fd_check_number ["number", "low", "high"] sp_check_number := by
  refine T.F_check_number.ok sc_check_number (fun vs H Q E h => by obtain ⟨i, lo, hi, rfl, _⟩ := h; rfl) (fun cdv A outer s H vs Q E hr h => ?_)
  obtain ⟨i, lo, hi, rfl, h0, h1, q⟩ := h
  refine ⟨_, PSs.nox (pss_one (ps_if (pt_not (pt_val (pe_call (G_is_between T) (hr.mono (by decide)) (by rfl) T.g_is_between T.F_is_between.kp T.b_is_between .nil pass0 (pa_cons (pv 0) (pa_cons (pv 1) (pa_cons (pv 2) pa_nil))))))
    (pss_one ps_never)
    pss_nil)), ?_⟩
  refine ⟨_, rfl, _, rfl, _, rfl, i, lo, hi, rfl, _, rfl, ?_⟩
  rw [decide_eq_true ⟨h0, h1⟩]
  exact iteF q
def sp_closed : Sp := fun vs H Q _ => ∃ (v : V) (s : Step), vs = [v] ∧ StepV (fun _ => True) H v s ∧ ∀ H' v', Same H H' → RowV H' v' s → Q v' H'
theorem G_closed (T : Top K mg) : FnOk P w K mg base CX0 1 T.f_closed T.fd_closed ["step"] sp_closed := by
  refine T.F_closed.ok sc_closed (fun vs H Q E h => by obtain ⟨v, s, rfl, _⟩ := h; rfl) (fun cdv A outer s H vs Q E hr h => ?_)
  obtain ⟨v, s, rfl, hV, q⟩ := h
  refine ⟨_, PSs.nox (pss_one (ps_ret (pe_ifExp (pt_cmpR op_eq (pe_ix (k_ixT K rfl) (pv 0) pe_int (fun _ _ => rfl)) pe_str (nomark _)) (pe_tup (pa_cons (pe_ix (k_ixT K rfl) (pv 0) pe_int (fun _ _ => rfl)) (pa_cons (pe_ix (k_ixT K rfl) (pv 0) pe_int (fun _ _ => rfl)) (pa_cons (pe_callTy (k_tupleOf K rfl) (by rfl) T.n_tuple (by decide +kernel) (pa_cons (pe_ix (k_ixT K rfl) (pv 0) pe_int (fun _ _ => rfl)) pa_nil)) (pa_cons (pe_ix (k_ixT K rfl) (pv 0) pe_int (fun _ _ => rfl)) pa_nil))))) (pv 0)))), ?_⟩
  cases s with
  | turn i =>
    obtain ⟨t, rfl, ht⟩ := hV
    have hT : SqT K H t [sT, .int i] := .inl (.inl ht)
    refine ⟨_, rfl, t, _, _, _, rfl, rfl, hT, rfl, rfl, _, rfl, iteDF (by decide) ?_⟩
    exact ⟨_, rfl, q _ _ (Same.refl _) ⟨t, rfl, ht⟩⟩
  | swap i j =>
    obtain ⟨t, rfl, ht⟩ := hV
    have hT : SqT K H t [sS, .int i, .int j] := .inl (.inl ht)
    refine ⟨_, rfl, t, _, _, _, rfl, rfl, hT, rfl, rfl, _, rfl, iteDF (by decide) ?_⟩
    exact ⟨_, rfl, q _ _ (Same.refl _) ⟨t, rfl, ht⟩⟩
  | lift b ws sh =>
    obtain ⟨t, l, rfl, ht, hl, _⟩ := hV
    have hT : SqT K H t [sL, .int b, .ref l, .int sh] := .inl (.inl ht)
    refine ⟨_, rfl, t, _, _, _, rfl, rfl, hT, rfl, rfl, _, rfl, iteDT rfl ?_⟩
    refine ⟨_, rfl, t, _, _, _, rfl, rfl, hT, rfl, ?_⟩
    refine ⟨_, rfl, t, _, _, _, rfl, rfl, hT, rfl, ?_⟩
    refine ⟨_, rfl, t, _, _, _, rfl, rfl, hT, rfl, ?_⟩
    refine ⟨l, _, rfl, .inl ⟨.inl (.inl hl), fun p np => ?_⟩⟩
    obtain ⟨H1, e1, s1, h1⟩ := fresh (.tup (ws.map V.int)) np
    rw [e1]
    refine ⟨_, rfl, t, _, _, _, rfl, rfl, Same.tup s1 hT, rfl, (show 4 ≤ sizeLine by decide), fun p2 np2 => ?_⟩
    obtain ⟨H2, e2, s2, h2⟩ := fresh (.tup [sL, V.int b, .ref p, .int sh]) np2
    rw [e2]
    exact q _ _ (s1.trans s2) ⟨p2, p, rfl, h2, s2 _ _ h1⟩
def sp_opened : Sp := fun vs H Q _ => ∃ (v : V) (s : Step), vs = [v] ∧ RowV H v s ∧ ∀ H' v', Same H H' → StepV (Fl H H') H' v' s → Q v' H'
theorem G_opened (T : Top K mg) : FnOk P w K mg base CX0 1 T.f_opened T.fd_opened ["row"] sp_opened := by
  refine T.F_opened.ok sc_opened (fun vs H Q E h => by obtain ⟨v, s, rfl, _⟩ := h; rfl) (fun cdv A outer s H vs Q E hr h => ?_)
  obtain ⟨v, s, rfl, hV, q⟩ := h
  refine ⟨_, PSs.nox (pss_one (ps_ret (pe_ifExp (pt_cmpR op_eq (pe_ix (k_ixT K rfl) (pv 0) pe_int (fun _ _ => rfl)) pe_str (nomark _)) (pe_tup (pa_cons (pe_ix (k_ixT K rfl) (pv 0) pe_int (fun _ _ => rfl)) (pa_cons (pe_ix (k_ixT K rfl) (pv 0) pe_int (fun _ _ => rfl)) (pa_cons (pe_callTy (k_listOf K rfl) (by rfl) T.n_list (by decide +kernel) (pa_cons (pe_ix (k_ixT K rfl) (pv 0) pe_int (fun _ _ => rfl)) pa_nil)) (pa_cons (pe_ix (k_ixT K rfl) (pv 0) pe_int (fun _ _ => rfl)) pa_nil))))) (pv 0)))), ?_⟩
  cases s with
  | turn i =>
    obtain ⟨t, rfl, ht⟩ := hV
    have hT : SqT K H t [sT, .int i] := .inl (.inl ht)
    refine ⟨_, rfl, t, _, _, _, rfl, rfl, hT, rfl, rfl, _, rfl, iteDF (by decide) ?_⟩
    exact ⟨_, rfl, q _ _ (Same.refl _) ⟨t, rfl, ht⟩⟩
  | swap i j =>
    obtain ⟨t, rfl, ht⟩ := hV
    have hT : SqT K H t [sS, .int i, .int j] := .inl (.inl ht)
    refine ⟨_, rfl, t, _, _, _, rfl, rfl, hT, rfl, rfl, _, rfl, iteDF (by decide) ?_⟩
    exact ⟨_, rfl, q _ _ (Same.refl _) ⟨t, rfl, ht⟩⟩
  | lift b ws sh =>
    obtain ⟨t, l, rfl, ht, hl⟩ := hV
    have hT : SqT K H t [sL, .int b, .ref l, .int sh] := .inl (.inl ht)
    refine ⟨_, rfl, t, _, _, _, rfl, rfl, hT, rfl, rfl, _, rfl, iteDT rfl ?_⟩
    refine ⟨_, rfl, t, _, _, _, rfl, rfl, hT, rfl, ?_⟩
    refine ⟨_, rfl, t, _, _, _, rfl, rfl, hT, rfl, ?_⟩
    refine ⟨_, rfl, t, _, _, _, rfl, rfl, hT, rfl, ?_⟩
    refine ⟨l, _, rfl, .inr (.inl (.inl hl)), fun p np => ?_⟩
    obtain ⟨H1, e1, s1, h1⟩ := fresh (.lst (ws.map V.int)) np
    rw [e1]
    refine ⟨_, rfl, t, _, _, _, rfl, rfl, Same.tup s1 hT, rfl, (show 4 ≤ sizeLine by decide), fun p2 np2 => ?_⟩
    obtain ⟨H2, e2, s2, h2⟩ := fresh (.tup [sL, V.int b, .ref p, .int sh]) np2
    rw [e2]
    exact q _ _ (s1.trans s2) ⟨p2, p, rfl, h2, s2 _ _ h1, np, _, s2 _ _ h1⟩
def sp_Mixer___init__ (C : Addr) (K : PySem.W.Frag) : Sp := fun vs H Q _ => ∃ (x dx p : Addr) (n : Nat) (ss : List Step), vs = [.ref x, .int n, .ref p] ∧ H x = some (.ins C dx []) ∧ 1 ≤ n ∧ n ≤ 4 ∧ StepsAt (fun _ => True) H p ss ∧ (∀ s ∈ ss, s.ok n) ∧ ss.length ≤ 100 ∧
  ∀ H' r, (∀ b o, b ≠ x → H b = some o → H' b = some o) → H r = none → MixAt C H' x r n ss → Q .non H'
theorem G_Mixer___init__ (T : Top K mg) : FnOk P w K mg base CX0 5 T.f_Mixer___init__ T.fd_Mixer___init__ ["self", "wide", "steps"] (sp_Mixer___init__ T.C_Mixer K) := by
  refine T.F_Mixer___init__.ok sc_Mixer___init__ (fun vs H Q E h => by obtain ⟨x, dx, p, n, ss, rfl, _⟩ := h; rfl) (fun cdv A outer s H vs Q E hr h => ?_)
  obtain ⟨x, dx, p, n, ss, rfl, hx, hn1, hn4, hS, hO, hl, q⟩ := h
  refine ⟨_, PSs.nox (pss_cons (ps_expr (pe_call (G_check_number T) (hr.mono (by decide)) (by rfl) T.g_check_number T.F_check_number.kp T.b_check_number .nil pass0 (pa_cons (pv 1) (pa_cons pe_int (pa_cons (pe_glob (v := .int 4) rfl T.m_MOST_WAYS ⟨_, rfl⟩) pa_nil)))))
  (pss_cons (ps_if (pt_not (pt_val (pe_callB (k_isi K rfl) (by rfl) T.n_isinstance (by decide +kernel) (pa_cons (pv 2) (pa_cons (pe_bltn (v := .ty "list") (by rfl) T.n_list (by decide +kernel) rfl) pa_nil)))))
    (pss_one ps_never)
    pss_nil)
  (pss_cons (ps_for PassesOwn.never rfl (k_piL K rfl (pv 2)) (pg_name (i := 3) sc_Mixer___init__.nd rfl (by first | exact Or.inl rfl | exact Or.inr rfl))
    (pss_one (ps_if (pt_not (pt_val (pe_call (G_is_step T) (hr.mono (by decide)) (by rfl) T.g_is_step T.F_is_step.kp T.b_is_step .nil pass0 (pa_cons (pv 3) (pa_cons (pv 1) pa_nil)))))
    (pss_one ps_never)
    pss_nil)))
  (pss_cons (ps_fld (pv 0) (pv 1) rfl)
  (pss_one (ps_fld (pv 0) (pe_lc (own := [("item", 3)]) (g := gName 3) (tt := tYes) (by rfl) sc_Mixer___init__.nd (k_piL K rfl (pv 2)) (blkOk_by (own := [("item", 3)]) (N := N_Mixer___init__) (sc := defScope s_Mixer___init__) (by decide +kernel)) (fun _ _ _ _ _ => (pg_name (i := 3) sc_Mixer___init__.nd rfl (by first | exact Or.inl rfl | exact Or.inr rfl))) (fun _ _ _ _ _ => pts_nil) (fun _ _ _ _ _ => (pe_call (G_closed T) (hr.mono (by decide)) (by rfl) T.g_closed T.F_closed.kp T.b_closed .nil pass0 (pa_cons (pv 3) pa_nil)))) rfl)))))), ?_⟩
  obtain ⟨vs, hp, hv⟩ := hS
  have hvl := hv.len
  refine ⟨_, rfl, n, 1, some 4, rfl, by omega, (fun j h => by cases h; omega), ?_⟩
  refine ⟨_, rfl, _, _, _, _, true, rfl, .ty _, ty_list hp, kit_ty (by decide +kernel), true, rfl, iteF ?_⟩
  refine ⟨_, rfl, p, rfl, ⟨_, .inl (.inl hp)⟩, for_list (K := K) (a := p) (xs := vs) (fun i σ H1 => ∃ v3 : Option V, σ = [some (.ref x), some (.int n), some (.ref p), v3] ∧ Same H H1) ⟨none, rfl, Same.refl _⟩ (fun i σ H1 _ ⟨_, _, s⟩ => .inl (.inl (s _ _ hp))) ?_ ?_⟩
  · rintro i v σ H1 hi ⟨v3, rfl, s1⟩
    obtain ⟨s, hs, hvs⟩ := hv.get hi
    walk_at "go"
    refine ⟨v, n, s, rfl, hvs.same s1, hO s (List.mem_of_getElem? hs), hn4, fun H2 s2 => ?_⟩
    walk_at "go"
    exact s1.trans s2
  rintro σ H1 ⟨v3, rfl, s1⟩
  walk_at "go"
  refine ⟨x, T.C_Mixer, dx, [], rfl, s1 _ _ hx, T.cl_Mixer, T.na_Mixer_many, by decide, ?_⟩
  obtain ⟨H2, e2⟩ : ∃ H2, upd H1 x (.ins T.C_Mixer dx (putF (Str.ofString "many") (V.int n) [])) = H2 := ⟨_, rfl⟩
  rw [e2]
  have k12 : ∀ b o, b ≠ x → H b = some o → H2 b = some o := fun b o nb h => by rw [← e2, upd_ne nb]; exact s1 b o h
  have hx2 : H2 x = some (.ins T.C_Mixer dx [("many", V.int n)]) := by rw [← e2, upd_same]; rfl
  have px : p ≠ x := fun z => by rw [z, hx] at hp; cases hp
  have hp2 := k12 _ _ px hp
  have hv2 : AllV (StepV (fun _ => True) H2) vs ss := hv.imp fun v s h => by
    cases s with
    | turn i => obtain ⟨t, e, h1⟩ := h; exact ⟨t, e, k12 _ _ (fun z => by rw [z, hx] at h1; cases h1) h1⟩
    | swap i j => obtain ⟨t, e, h1⟩ := h; exact ⟨t, e, k12 _ _ (fun z => by rw [z, hx] at h1; cases h1) h1⟩
    | lift b ws sh =>
      obtain ⟨t, l, e, h1, h2, _⟩ := h
      exact ⟨t, l, e, k12 _ _ (fun z => by rw [z, hx] at h1; cases h1) h1, k12 _ _ (fun z => by rw [z, hx] at h2; cases h2) h2, trivial⟩
  refine ⟨_, rfl, p, rfl, ⟨_, .inl (.inl hp2)⟩, fun D nD => ?_⟩
  refine lc_stp (K := K) (xs := vs) (ss := ss) (fun H => RowV H) row_off nD (.inl (.inl hp2)) hvl (small1000 (by omega)) (fun x => rfl) ?_ ?_
  · intro i y s H' hy hs s' _ Qt qt
    obtain ⟨s2, hs2, hys⟩ := hv2.get hy
    rw [hs] at hs2
    cases hs2
    walk_at "go"
    exact ⟨y, s, rfl, hys.same s', fun H3 v' s3 r => qt v' H3 s3 r⟩
  intro H3 ys s3 hD hys
  walk_at "go"
  refine ⟨x, T.C_Mixer, dx, _, rfl, s3 _ _ hx2, T.cl_Mixer, T.na_Mixer_rows, (by show 1 < 1000; decide), ?_⟩
  have nDH : H D = none := by
    cases e : H D with
    | none => rfl
    | some o =>
      exfalso
      by_cases z : D = x
      · rw [z, hx2] at nD; cases nD
      · rw [k12 D o z e] at nD; cases nD
  have Dx : D ≠ x := fun z => by rw [z, hx2] at nD; cases nD
  refine q _ D (fun b o nb hb => ?_) nDH ⟨dx, ys, ?_, ?_, ?_⟩
  · rw [upd_ne nb]
    exact s3 _ _ (k12 b o nb hb)
  · rw [upd_same]
    rfl
  · rw [upd_ne Dx]
    exact hD
  · have hx3 := s3 _ _ hx2
    have off : ∀ {t : Addr} {xs : List V}, H3 t = some (.tup xs) → t ≠ x := fun h z => by rw [z, hx3] at h; cases h
    refine hys.imp fun v s h => ?_
    cases s with
    | turn i => obtain ⟨t, e, h1⟩ := h; exact ⟨t, e, by rw [upd_ne (off h1)]; exact h1⟩
    | swap i j => obtain ⟨t, e, h1⟩ := h; exact ⟨t, e, by rw [upd_ne (off h1)]; exact h1⟩
    | lift b ws sh =>
      obtain ⟨t, l, e, h1, h2⟩ := h
      exact ⟨t, l, e, by rw [upd_ne (off h1)]; exact h1, by rw [upd_ne (off h2)]; exact h2⟩
def sp_Mixer_wide (C : Addr) : Sp := fun vs H Q _ => ∃ (a r : Addr) (n : Nat) (ss : List Step), vs = [.ref a] ∧ MixAt C H a r n ss ∧ Q (.int n) H
theorem G_Mixer_wide (T : Top K mg) : FnOk P w K mg base CX0 1 T.f_Mixer_wide T.fd_Mixer_wide ["self"] (sp_Mixer_wide T.C_Mixer) := by
  refine T.F_Mixer_wide.ok sc_Mixer_wide (fun vs H Q E h => by obtain ⟨a, r, n, ss, rfl, _⟩ := h; rfl) (fun cdv A outer s H vs Q E hr h => ?_)
  obtain ⟨a, r, n, ss, rfl, hM, q⟩ := h
  refine ⟨_, PSs.nox (pss_one (ps_ret (pe_fld (pv 0) rfl))), ?_⟩
  obtain ⟨dx, vs, ha, hr0, hv⟩ := hM
  exact ⟨_, rfl, a, T.C_Mixer, dx, _, _, rfl, ha, T.cl_Mixer, T.na_Mixer_many, rfl, q⟩
def sp_Mixer_steps (C : Addr) (K : PySem.W.Frag) : Sp := fun vs H Q _ => ∃ (a r : Addr) (n : Nat) (ss : List Step), vs = [.ref a] ∧ MixAt C H a r n ss ∧ ss.length ≤ 100 ∧ ∀ H' p, Same H H' → H p = none → StepsAt (Fl H H') H' p ss → Q (.ref p) H'
theorem G_Mixer_steps (T : Top K mg) : FnOk P w K mg base CX0 2 T.f_Mixer_steps T.fd_Mixer_steps ["self"] (sp_Mixer_steps T.C_Mixer K) := by
  refine T.F_Mixer_steps.ok sc_Mixer_steps (fun vs H Q E h => by obtain ⟨a, r, n, ss, rfl, _⟩ := h; rfl) (fun cdv A outer s H vs Q E hr h => ?_)
  obtain ⟨a, r, n, ss, rfl, hM, hl, q⟩ := h
  refine ⟨_, PSs.nox (pss_one (ps_ret (pe_lc (own := [("row", 1)]) (g := gName 1) (tt := tYes) (by rfl) sc_Mixer_steps.nd (k_piL K rfl (pe_fld (pv 0) rfl)) (blkOk_by (own := [("row", 1)]) (N := N_Mixer_steps) (sc := defScope s_Mixer_steps) (by decide +kernel)) (fun _ _ _ _ _ => (pg_name (i := 1) sc_Mixer_steps.nd rfl (by first | exact Or.inl rfl | exact Or.inr rfl))) (fun _ _ _ _ _ => pts_nil) (fun _ _ _ _ _ => (pe_call (G_opened T) (hr.mono (by decide)) (by rfl) T.g_opened T.F_opened.kp T.b_opened .nil pass0 (pa_cons (pv 1) pa_nil)))))), ?_⟩
  obtain ⟨dx, vs, ha, hr0, hv⟩ := hM
  have hvl := hv.len
  refine ⟨_, rfl, a, T.C_Mixer, dx, _, _, rfl, ha, T.cl_Mixer, T.na_Mixer_rows, rfl, r, rfl, ⟨_, .inl (.inl hr0)⟩, fun D nD => ?_⟩
  refine lc_stp (K := K) (xs := vs) (ss := ss) (fun H1 => StepV (fun l => l ≠ D ∧ H l = none) H1) step_off nD (.inl (.inl hr0)) hvl (small1000 (by omega)) (fun x => rfl) ?_ ?_
  · intro i y s H' hy hs s' ⟨zs, hD⟩ Qt qt
    obtain ⟨s2, hs2, hys⟩ := hv.get hy
    rw [hs] at hs2
    cases hs2
    walk_at "go"
    refine ⟨y, s, rfl, hys.same s', fun H3 v' s3 k => ?_⟩
    exact qt v' H3 s3 (k.mono fun l hf => ⟨fun z => (by rw [z] at hf; rw [hf.1] at hD; cases hD), s'.free hf.1⟩)
  intro H3 ys s3 hD hys
  refine q _ D s3 nD ⟨ys, hD, hys.imp fun v s h => ?_⟩
  cases s with
  | turn i => exact h
  | swap i j => exact h
  | lift b ws sh =>
    obtain ⟨t, l, e, h1, h2, h3⟩ := h
    exact ⟨t, l, e, h1, h2, h3.2, _, h2⟩
def sp_Mixer___eq__ (C : Addr) : Sp := fun vs H Q _ => ∃ (a b r : Addr) (n : Nat) (ss : List Step), vs = [.ref a, .ref b] ∧ MixAt C H a r n ss ∧
  ((∃ r2 m ts, MixAt C H b r2 m ts ∧ ∀ H', Same H H' → Q (.bl (PyData.eqv (mixD n ss) (mixD m ts))) H') ∨ (∃ xs, H b = some (.lst xs) ∧ Q (.bl false) H))
theorem G_Mixer___eq__ (T : Top K mg) : FnOk P w K mg base CX0 1 T.f_Mixer___eq__ T.fd_Mixer___eq__ ["self", "other"] (sp_Mixer___eq__ T.C_Mixer) := by
  refine T.F_Mixer___eq__.ok sc_Mixer___eq__ (fun vs H Q E h => by obtain ⟨a, b, r, n, ss, rfl, _⟩ := h; rfl) (fun cdv A outer s H vs Q E hr h => ?_)
  obtain ⟨a, b, r, n, ss, rfl, hM, q⟩ := h
  refine ⟨_, PSs.nox (pss_cons (ps_if (pt_not (pt_val (pe_callB (k_isi K rfl) (by rfl) T.n_isinstance (by decide +kernel) (pa_cons (pv 1) (pa_cons (pe_glob (v := .ref T.C_Mixer) rfl T.gc_Mixer rfl) pa_nil)))))
    (pss_one (ps_ret pe_bl))
    pss_nil)
  (pss_one (ps_ret (pe_cmpR (k_eqD K rfl hr.units) (pe_tup (pa_cons (pe_fld (pv 0) rfl) (pa_cons (pe_fld (pv 0) rfl) pa_nil))) (pe_tup (pa_cons (pe_fld (pv 1) rfl) (pa_cons (pe_fld (pv 1) rfl) pa_nil))) (nomark _))))), ?_⟩
  rcases q with ⟨r2, m, ts, hM2, q⟩ | ⟨xs, hB, q⟩
  · obtain ⟨dx, vs, ha, hr0, hv⟩ := hM
    obtain ⟨dy, us, hb, hr2, hu⟩ := hM2
    refine ⟨_, rfl, _, _, _, _, true, rfl, .own _, tyx_insC T.ic_Mixer hb, T.ic_Mixer.me, true, rfl, ?_⟩
    walk_at "go"
    refine ⟨a, T.C_Mixer, dx, _, _, rfl, ha, T.cl_Mixer, T.na_Mixer_many, rfl, ?_⟩
    walk_at "go"
    refine ⟨a, T.C_Mixer, dx, _, _, rfl, ha, T.cl_Mixer, T.na_Mixer_rows, rfl, (show 2 ≤ sizeLine by decide), fun p np => ?_⟩
    obtain ⟨H1, e1, s1, h1⟩ := fresh (.tup [V.int n, V.ref r]) np
    rw [e1]
    walk_at "go"
    refine ⟨b, T.C_Mixer, dy, _, _, rfl, s1 _ _ hb, T.cl_Mixer, T.na_Mixer_many, rfl, ?_⟩
    walk_at "go"
    refine ⟨b, T.C_Mixer, dy, _, _, rfl, s1 _ _ hb, T.cl_Mixer, T.na_Mixer_rows, rfl, (show 2 ≤ sizeLine by decide), fun p2 np2 => ?_⟩
    obtain ⟨H2, e2, s2, h2⟩ := fresh (.tup [V.int m, V.ref r2]) np2
    rw [e2]
    have s02 := s1.trans s2
    have d1 : Dt H2 (.ref p) (mixD n ss) := .tup (s2 _ _ h1) (.cons (.int _) (.cons (.lst (s02 _ _ hr0) (AllV.dtr (hv.imp fun v s => RowV.same s02))) .nil))
    have d2 : Dt H2 (.ref p2) (mixD m ts) := .tup h2 (.cons (.int _) (.cons (.lst (s02 _ _ hr2) (AllV.dtr (hu.imp fun v s => RowV.same s02))) .nil))
    exact d_eq d1 d2 (mix_shaped n ss) (mix_shaped m ts) (q _ s02)
  · refine ⟨_, rfl, _, _, _, _, false, rfl, .own _, ty_list hB, T.ec_Mixer.ki, false, rfl, ?_⟩
    walk_at "go"
    exact q
def sp_check_mixer (C : Addr) : Sp := fun vs H Q _ => ∃ (a r : Addr) (n : Nat) (ss : List Step), vs = [.ref a] ∧ MixAt C H a r n ss ∧ Q .non H
theorem G_check_mixer (T : Top K mg) : FnOk P w K mg base CX0 1 T.f_check_mixer T.fd_check_mixer ["mixer"] (sp_check_mixer T.C_Mixer) := by
  refine T.F_check_mixer.ok sc_check_mixer (fun vs H Q E h => by obtain ⟨a, r, n, ss, rfl, _⟩ := h; rfl) (fun cdv A outer s H vs Q E hr h => ?_)
  obtain ⟨a, r, n, ss, rfl, hM, q⟩ := h
  refine ⟨_, PSs.nox (pss_one (ps_if (pt_not (pt_val (pe_callB (k_isi K rfl) (by rfl) T.n_isinstance (by decide +kernel) (pa_cons (pv 0) (pa_cons (pe_glob (v := .ref T.C_Mixer) rfl T.gc_Mixer rfl) pa_nil)))))
    (pss_one ps_never)
    pss_nil)), ?_⟩
  obtain ⟨dx, vs, ha, hr0, hv⟩ := hM
  refine ⟨_, rfl, _, _, _, _, true, rfl, .own _, tyx_insC T.ic_Mixer ha, T.ic_Mixer.me, true, rfl, iteF ?_⟩
  exact q
def sp_check_moment (C : Addr) : Sp := fun vs H Q _ => ∃ (a r p : Addr) (n : Nat) (ss : List Step) (xs : List Int), vs = [.ref a, .ref p] ∧ MixAt C H a r n ss ∧ n ≤ 4 ∧ H p = some (.lst (xs.map V.int)) ∧ xs.length = n ∧ ∀ H', Same H H' → Q .non H'
theorem G_check_moment (T : Top K mg) : FnOk P w K mg base CX0 3 T.f_check_moment T.fd_check_moment ["mixer", "samples"] (sp_check_moment T.C_Mixer) := by
  refine T.F_check_moment.ok sc_check_moment (fun vs H Q E h => by obtain ⟨a, r, p, n, ss, xs, rfl, _⟩ := h; rfl) (fun cdv A outer s H vs Q E hr h => ?_)
  obtain ⟨a, r, p, n, ss, xs, rfl, hM, hn, hp, hx, q⟩ := h
  refine ⟨_, PSs.nox (pss_one (ps_if (PW.pt (pw_or (pt_not (pt_val (pe_call (G_are_wholes T) (hr.mono (by decide)) (by rfl) T.g_are_wholes T.F_are_wholes.kp T.b_are_wholes .nil pass0 (pa_cons (pv 1) pa_nil)))) (pw_or1 (pt_cmpR op_ne (pe_callB (k_len K rfl) (by rfl) T.n_len (by decide +kernel) (pa_cons (pv 1) pa_nil)) (pe_fld (pv 0) rfl) (nomark _)))))
    (pss_one ps_never)
    pss_nil)), ?_⟩
  refine ⟨_, rfl, p, xs, rfl, hp, by omega, fun H1 s1 => ?_⟩
  obtain ⟨dx, vs, ha, hr0, hv⟩ := hM.same s1
  walk_at "go"
  refine ⟨p, _, rfl, .inl (.inl (.inl (s1 _ _ hp))), ?_⟩
  rw [List.length_map, hx]
  walk_at "go"
  refine ⟨a, T.C_Mixer, dx, _, _, rfl, ha, T.cl_Mixer, T.na_Mixer_many, rfl, rfl, _, rfl, iteENF rfl ?_⟩
  exact q _ s1
end
end My

namespace My
open PySem PySem.Spec PyProof.Rows L2 Pre
theorem dot_zip : ∀ ws xs : List Int, (List.zipWith (fun a b => a * b) ws xs).sum = dotP ws xs
  | [], xs => by cases xs <;> rfl
  | _ :: _, [] => rfl
  | w :: ws, x :: xs => by
    show w * x + (List.zipWith (fun a b => a * b) ws xs).sum = w * x + dotP ws xs
    rw [dot_zip ws xs]
theorem at_getD {xs : List Int} {i : Nat} (h : i < xs.length) : atI (xs.map V.int) (i : Int) = some (.int (xs.getD i 0)) := atI_nat (by
  rw [List.getElem?_map, List.getElem?_eq_getElem h, List.getD_eq_getElem?_getD, List.getElem?_eq_getElem h]
  rfl)
theorem ix_ok {xs : List V} {i : Nat} (h : i < xs.length) : ixN xs.length (i : Int) = some i := by
  unfold ixN
  rw [if_pos (by omega), Int.toNat_natCast, if_pos (Int.ofNat_lt.mpr h)]
theorem play_take {ss : List Step} {i : Nat} {s : Step} (h : ss[i]? = some s) (xs : List Int) : playF (ss.take (i + 1)) xs = stepF 1 s (playF (ss.take i) xs) := by
  unfold playF
  rw [take_snoc h, List.foldl_append]
  rfl
theorem back_take {ss : List Step} {i : Nat} {s : Step} (h : ss.reverse[i]? = some s) (xs : List Int) : (ss.reverse.take (i + 1)).foldl (fun x s => stepF (-1) s x) xs = stepF (-1) s ((ss.reverse.take i).foldl (fun x s => stepF (-1) s x) xs) := by
  rw [take_snoc h, List.foldl_append]
  rfl
theorem fold_len (way : Int) : ∀ (ss : List Step) (xs : List Int), (ss.foldl (fun x s => stepF way s x) xs).length = xs.length
  | [], _ => rfl
  | s :: ss, xs => by rw [List.foldl_cons, fold_len way ss, stepF_len]
local macro_rules | `(tactic| walk_at "go") => `(tactic| repeat (first | (with_reducible first | refine iteT ?_ | refine iteF ?_ | refine iteNtt ?_ | refine iteNff ?_ | refine iteET (by omega) ?_ | refine iteEF (by omega) ?_ | refine iteENT (by omega) ?_ | refine iteENF (by omega) ?_ | refine iteDT (by omega) ?_ | refine iteDF (by omega) ?_ | refine iteNT (by omega) ?_ | refine iteNF (by omega) ?_) | refine ⟨_, rfl, ?_⟩ | refine ⟨_, _, rfl, rfl, ?_⟩ | refine ⟨_, _, rfl, ?_⟩ | refine ⟨rfl, ?_⟩ | refine .inl ⟨_, rfl, ?_⟩ | refine .inr ⟨_, rfl, ?_⟩))
local macro_rules | `(tactic| walk_at "b") => `(tactic| try dsimp (config := { proj := false, iota := false, eta := false, zeta := false }) only)
section
variable {P : Program} {w : World} {K : PySem.W.Frag} {mg : Str → Option Value} {base : Heap}
def sp_summed (K : PySem.W.Frag) : Sp := fun vs H Q _ => ∃ (a b : Addr) (ws xs : List Int), vs = [.ref a, .ref b] ∧ (SqT K H a (ws.map V.int) ∨ SqL K H a (ws.map V.int)) ∧ SqL K H b (xs.map V.int) ∧ ws.length = xs.length ∧ ws.length ≤ 100 ∧ ((∀ w ∈ ws, -32768 ≤ w ∧ w ≤ 32768) ∨ ∀ w ∈ ws, ∀ x ∈ xs, CMulX w x) ∧ ∀ H', Same H H' → Q (.int (dotP ws xs)) H'
theorem G_summed (T : Top K mg) : FnOk P w K mg base CX0 1 T.f_summed T.fd_summed ["weights", "numbers"] (sp_summed K) := by
  refine T.F_summed.ok sc_summed (fun vs H Q E h => by obtain ⟨a, b, ws, xs, rfl, _⟩ := h; rfl) (fun cdv A outer s H vs Q E hr h => ?_)
  obtain ⟨a, b, ws, xs, rfl, hA, hB, hl, hz, hw, q⟩ := h
  refine ⟨_, PSs.nox (pss_one (ps_ret (pe_callB (k_sum K rfl rfl) (by rfl) T.n_sum (by decide +kernel) (pa_cons (pe_lc (own := [("weight", 2), ("number", 3)]) (g := gTup K 2 (gCons (gName 2) (gCons (gName 3) (gNil)))) (tt := tYes) (by rfl) sc_summed.nd (k_piZB K rfl (by rfl) T.n_zip (pa_cons (pv 0) (pa_cons (pv 1) pa_nil)) (pk_cons pe_bl pk_nil)) (blkOk_by (own := [("weight", 2), ("number", 3)]) (N := N_summed) (sc := defScope s_summed) (by decide +kernel)) (fun _ _ _ _ _ => (k_pgT K rfl (by rfl) (pgs_cons (pg_name (i := 2) sc_summed.nd rfl (by first | exact Or.inl rfl | exact Or.inr rfl)) (pgs_cons (pg_name (i := 3) sc_summed.nd rfl (by first | exact Or.inl rfl | exact Or.inr rfl)) pgs_nil)))) (fun _ _ _ _ _ => pts_nil) (fun _ _ _ _ _ => (pe_op op_mulA (pv 2) (pv 3)))) pa_nil)))), ?_⟩
  walk_at "go"
  have hzl : (List.zipWith (fun a b => a * b) ws xs).length = ws.length := by rw [List.length_zipWith, hl, Nat.min_self]
  have hm : ∀ {j n1 n2}, ws[j]? = some n1 → xs[j]? = some n2 → CMulA n1 n2 := fun h1 h2 => by
    rcases hw with hw | hw
    · have hb := hw _ (List.mem_of_getElem? h1)
      exact .inl (.inl ⟨by omega, by omega⟩)
    · exact .inr (hw _ (List.mem_of_getElem? h1) _ (List.mem_of_getElem? h2))
  rcases hA with hA | hA
  · refine ⟨a, b, _, _, rfl, hB, .inl ⟨hA, fun D nD => ?_⟩⟩
    refine lc_dW (walk_zs (K := K) (a := a) (b := b) (xs := ws.map V.int) (ys := xs.map V.int) (by rw [List.length_map, List.length_map, hl])) (S := []) Has.nil ((List.zipWith (fun a b => a * b) ws xs).map fun x => some (PyData.int x)) nD (by rw [List.length_map, hzl, List.length_map]) (by rw [List.length_map]; exact small1000 (by omega)) (fun H' s => ⟨Same.tup s hA, s.seq hB⟩) ?_ ?_
    · rintro j o H0 x H'' hj ho s0 hH ⟨T1, x1, y1, rfl, nT, rfl, e1, e2⟩ Qt qt
      have st := same_upd (o := .tup [x1, y1]) nT
      obtain ⟨n1, en1, rfl⟩ := int_at e1
      obtain ⟨n2, en2, rfl⟩ := int_at e2
      have eo : o = some (PyData.int (n1 * n2)) := by
        rw [List.getElem?_map, List.getElem?_zipWith, en1, en2] at ho
        exact (Option.some.inj ho).symm
      subst eo
      refine ⟨T1, _, rfl, .inl (.inl upd_same), rfl, ?_⟩
      generalize upd H0 T1 (.tup [V.int n1, V.int n2]) = H8 at st
      refine ⟨_, _, rfl, _, _, rfl, rfl, ⟨rfl, ?_⟩⟩
      walk_at "go"
      refine ⟨hm en1 en2, ?_⟩
      exact qt _ _ st (.int _)
    · intro H7 s7 _ dD
      have el : ((List.zipWith (fun a b => a * b) ws xs).map fun x => some (PyData.int x)).filterMap id = (List.zipWith (fun a b => a * b) ws xs).map PyData.int := sel_map _ _
      rw [el, rs_nil] at dD
      obtain ⟨_, e, hD⟩ := Dt.intsE (ns := List.zipWith (fun a b => a * b) ws xs) dD
      cases e
      refine ⟨D, _, rfl, .inl (.inl hD), ?_⟩
      rw [dot_zip]
      exact q _ s7
  · refine ⟨a, b, _, _, rfl, hB, .inr ⟨hA, fun D nD => ?_⟩⟩
    refine lc_dW (walk_zl (K := K) (a := a) (b := b) (xs := ws.map V.int) (ys := xs.map V.int) (by rw [List.length_map, List.length_map, hl])) (S := []) Has.nil ((List.zipWith (fun a b => a * b) ws xs).map fun x => some (PyData.int x)) nD (by rw [List.length_map, hzl, List.length_map]) (by rw [List.length_map]; exact small1000 (by omega)) (fun H' s => ⟨s.seq hA, s.seq hB⟩) ?_ ?_
    · rintro j o H0 x H'' hj ho s0 hH ⟨T1, x1, y1, rfl, nT, rfl, e1, e2⟩ Qt qt
      have st := same_upd (o := .tup [x1, y1]) nT
      obtain ⟨n1, en1, rfl⟩ := int_at e1
      obtain ⟨n2, en2, rfl⟩ := int_at e2
      have eo : o = some (PyData.int (n1 * n2)) := by
        rw [List.getElem?_map, List.getElem?_zipWith, en1, en2] at ho
        exact (Option.some.inj ho).symm
      subst eo
      refine ⟨T1, _, rfl, .inl (.inl upd_same), rfl, ?_⟩
      generalize upd H0 T1 (.tup [V.int n1, V.int n2]) = H8 at st
      refine ⟨_, _, rfl, _, _, rfl, rfl, ⟨rfl, ?_⟩⟩
      walk_at "go"
      refine ⟨hm en1 en2, ?_⟩
      exact qt _ _ st (.int _)
    · intro H7 s7 _ dD
      have el : ((List.zipWith (fun a b => a * b) ws xs).map fun x => some (PyData.int x)).filterMap id = (List.zipWith (fun a b => a * b) ws xs).map PyData.int := sel_map _ _
      rw [el, rs_nil] at dD
      obtain ⟨_, e, hD⟩ := Dt.intsE (ns := List.zipWith (fun a b => a * b) ws xs) dD
      cases e
      refine ⟨D, _, rfl, .inl (.inl hD), ?_⟩
      rw [dot_zip]
      exact q _ s7
def sp_stepped (K : PySem.W.Frag) : Sp := fun vs H Q _ => ∃ (v : V) (p : Addr) (way : Int) (s : Step) (xs : List Int), vs = [v, .ref p, .int way] ∧ RowV H v s ∧ H p = some (.lst (xs.map V.int)) ∧ s.ok xs.length ∧ xs.length ≤ 4 ∧ -1 ≤ way ∧ way ≤ 1 ∧
  ∀ H' p', Same H H' → H p' = none → H' p' = some (.lst ((stepF way s xs).map V.int)) → Q (.ref p') H'
theorem G_stepped (T : Top K mg) : FnOk P w K mg base CX0 2 T.f_stepped T.fd_stepped ["row", "numbers", "way"] (sp_stepped K) := by
  refine T.F_stepped.ok sc_stepped (fun vs H Q E h => by obtain ⟨v, p, way, s, xs, rfl, _⟩ := h; rfl) (fun cdv A outer s H vs Q E hr h => ?_)
  obtain ⟨v, p, way, s, xs, rfl, hV, hp, hO, hx, hw1, hw2, q⟩ := h
  refine ⟨_, PSs.nox (pss_cons (ps_set (i := 3) sc_stepped.nd rfl (by first | exact Or.inl rfl | exact Or.inr rfl) (pe_callTy (k_listOf K rfl) (by rfl) T.n_list (by decide +kernel) (pa_cons (pv 1) pa_nil)))
  (pss_cons (ps_if (pt_cmpR op_eq (pe_ix (k_ixT K rfl) (pv 0) pe_int (fun _ _ => rfl)) pe_str (nomark _))
    (pss_one (ps_asg (pe_op op_add (pe_ix (k_ixL K rfl) (pv 3) (pe_ix (k_ixT K rfl) (pv 0) pe_int (fun _ _ => rfl)) (fun _ _ => rfl)) (pe_op op_mul (pv 2) (pe_op op_shr (pe_call (G_summed T) (hr.mono (by decide)) (by rfl) T.g_summed T.F_summed.kp T.b_summed .nil pass0 (pa_cons (pe_ix (k_ixT K rfl) (pv 0) pe_int (fun _ _ => rfl)) (pa_cons (pv 3) pa_nil))) (pe_ix (k_ixT K rfl) (pv 0) pe_int (fun _ _ => rfl))))) (pg_sub (pv 3) (pe_ix (k_ixT K rfl) (pv 0) pe_int (fun _ _ => rfl)) set_list)))
    (pss_one (ps_if (pt_cmpR op_eq (pe_ix (k_ixT K rfl) (pv 0) pe_int (fun _ _ => rfl)) pe_str (nomark _))
    (pss_one (ps_asg (pe_op op_sub pe_int (pe_ix (k_ixL K rfl) (pv 3) (pe_ix (k_ixT K rfl) (pv 0) pe_int (fun _ _ => rfl)) (fun _ _ => rfl))) (pg_sub (pv 3) (pe_ix (k_ixT K rfl) (pv 0) pe_int (fun _ _ => rfl)) set_list)))
    (pss_one (ps_asg (pe_tup (pa_cons (pe_ix (k_ixL K rfl) (pv 3) (pe_ix (k_ixT K rfl) (pv 0) pe_int (fun _ _ => rfl)) (fun _ _ => rfl)) (pa_cons (pe_ix (k_ixL K rfl) (pv 3) (pe_ix (k_ixT K rfl) (pv 0) pe_int (fun _ _ => rfl)) (fun _ _ => rfl)) pa_nil))) (k_pgT K rfl (by rfl) (pgs_cons (pg_sub (pv 3) (pe_ix (k_ixT K rfl) (pv 0) pe_int (fun _ _ => rfl)) set_list) (pgs_cons (pg_sub (pv 3) (pe_ix (k_ixT K rfl) (pv 0) pe_int (fun _ _ => rfl)) set_list) pgs_nil))))))))
  (pss_one (ps_ret (pv 3))))), ?_⟩
  refine ⟨_, rfl, p, _, rfl, .inl (.inl (.inl hp)), fun l nl => ?_⟩
  obtain ⟨H1, e1, s1, h1⟩ := fresh (.lst (xs.map V.int)) nl
  rw [e1]
  have fin : ∀ {H2 : Hp} {ys : List Int}, Same H1 H2 → stepF way s xs = ys → Q (.ref l) (upd H2 l (.lst (ys.map V.int))) := fun s2 e => q _ l (same_over nl (s1.trans s2)) nl (by rw [upd_same, e])
  cases s with
  | turn i =>
    obtain ⟨t, rfl, ht⟩ := hV
    have hi : i < xs.length := hO
    have hT : SqT K H1 t [sT, .int i] := .inl (.inl (s1 _ _ ht))
    walk_at "go"
    refine ⟨t, _, _, _, rfl, rfl, hT, rfl, rfl, _, rfl, iteDF (by decide) ?_⟩
    walk_at "go"
    refine ⟨t, _, _, _, rfl, rfl, hT, rfl, rfl, _, rfl, iteDT rfl ?_⟩
    walk_at "go"
    refine ⟨t, _, _, _, rfl, rfl, hT, rfl, ?_⟩
    refine ⟨l, _, _, _, rfl, rfl, .inl (.inl h1), at_getD hi, ?_⟩
    walk_at "go"
    refine ⟨t, _, _, _, rfl, rfl, hT, rfl, ?_⟩
    refine ⟨l, _, _, i, rfl, rfl, h1, ix_ok (by rw [List.length_map]; exact hi), ?_⟩
    have z := fin (ys := xs.set i (0 - xs.getD i 0)) (Same.refl H1) rfl
    rw [List.map_set] at z
    exact ⟨_, rfl, z⟩
  | swap i j =>
    obtain ⟨t, rfl, ht⟩ := hV
    have hT : SqT K H1 t [sS, .int i, .int j] := .inl (.inl (s1 _ _ ht))
    walk_at "go"
    refine ⟨t, _, _, _, rfl, rfl, hT, rfl, rfl, _, rfl, iteDF (by decide) ?_⟩
    walk_at "go"
    refine ⟨t, _, _, _, rfl, rfl, hT, rfl, rfl, _, rfl, iteDF (by decide) ?_⟩
    walk_at "go"
    obtain ⟨hi, hj, hij⟩ := hO
    refine ⟨t, _, _, _, rfl, rfl, hT, rfl, ?_⟩
    refine ⟨l, _, _, _, rfl, rfl, .inl (.inl h1), at_getD hj, ?_⟩
    walk_at "go"
    refine ⟨t, _, _, _, rfl, rfl, hT, rfl, ?_⟩
    refine ⟨l, _, _, _, rfl, rfl, .inl (.inl h1), at_getD hi, ?_⟩
    refine ⟨(show 2 ≤ sizeLine by decide), fun tp ntp => ?_⟩
    obtain ⟨H2, e2, s2, h2⟩ := fresh (.tup [V.int (xs.getD j 0), V.int (xs.getD i 0)]) ntp
    rw [e2]
    have hT2 := Same.tup s2 hT
    have h12 := s2 _ _ h1
    refine ⟨tp, _, rfl, .inl (.inl h2), rfl, ?_⟩
    walk_at "go"
    refine ⟨t, _, _, _, rfl, rfl, hT2, rfl, ?_⟩
    refine ⟨l, _, _, i, rfl, rfl, h12, ix_ok (by rw [List.length_map]; exact hi), ?_⟩
    walk_at "go"
    have ht2 := s2 _ _ (s1 _ _ ht)
    have tl : t ≠ l := fun z => by rw [z, h12] at ht2; cases ht2
    refine ⟨t, _, _, _, rfl, rfl, .inl (.inl (by rw [upd_ne tl]; exact ht2)), rfl, ?_⟩
    refine ⟨l, _, _, j, rfl, rfl, upd_same, ix_ok (by rw [List.length_set, List.length_map]; exact hj), rfl, _, rfl, ?_⟩
    refine q _ l (same_over nl (same_over nl (s1.trans s2))) nl ?_
    rw [upd_same]
    show _ = some (HO.lst (((xs.set i (xs.getD j 0)).set j (xs.getD i 0)).map V.int))
    rw [List.map_set, List.map_set]
  | lift b ws sh =>
    obtain ⟨t, lw, rfl, ht, hlw⟩ := hV
    have hT : SqT K H1 t [sL, .int b, .ref lw, .int sh] := .inl (.inl (s1 _ _ ht))
    walk_at "go"
    refine ⟨t, _, _, _, rfl, rfl, hT, rfl, rfl, _, rfl, iteDT rfl ?_⟩
    walk_at "go"
    obtain ⟨hb, hwl, hw0, hs15, hws⟩ := hO
    refine ⟨t, _, _, _, rfl, rfl, hT, rfl, ?_⟩
    refine ⟨l, _, _, _, rfl, rfl, .inl (.inl h1), at_getD hb, ?_⟩
    walk_at "go"
    refine ⟨t, _, _, _, rfl, rfl, hT, rfl, ?_⟩
    walk_at "go"
    refine ⟨lw, l, ws, xs, rfl, .inl (.inl (.inl (s1 _ _ hlw))), .inl (.inl h1), hwl, by omega, .inl hws, fun H2 s2 => ?_⟩
    have hT2 := Same.tup s2 hT
    have h12 := s2 _ _ h1
    walk_at "go"
    refine ⟨t, _, _, _, rfl, rfl, hT2, rfl, ?_⟩
    refine ⟨_, _, rfl, rfl, Int.natCast_nonneg _, _, _, rfl, rfl, .inl ⟨by omega, by omega⟩, _, _, rfl, rfl, ?_⟩
    walk_at "go"
    refine ⟨t, _, _, _, rfl, rfl, hT2, rfl, ?_⟩
    refine ⟨l, _, _, b, rfl, rfl, h12, ix_ok (by rw [List.length_map]; exact hb), ?_⟩
    have z := fin (ys := xs.set b (xs.getD b 0 + way * (dotP ws xs / 2 ^ sh))) s2 rfl
    rw [List.map_set] at z
    exact ⟨_, rfl, z⟩
def sp_played (K : PySem.W.Frag) : Sp := fun vs H Q _ => ∃ (r p : Addr) (us : List V) (ss : List Step) (xs : List Int), vs = [.ref r, .ref p] ∧ H r = some (.lst us) ∧ AllV (RowV H) us ss ∧ H p = some (.lst (xs.map V.int)) ∧ (∀ s ∈ ss, s.ok xs.length) ∧ xs.length ≤ 4 ∧
  ∀ H' p', Same H H' → H' p' = some (.lst ((playF ss xs).map V.int)) → Q (.ref p') H'
theorem G_played (T : Top K mg) : FnOk P w K mg base CX0 3 T.f_played T.fd_played ["rows", "numbers"] (sp_played K) := by
  refine T.F_played.ok sc_played (fun vs H Q E h => by obtain ⟨r, p, us, ss, xs, rfl, _⟩ := h; rfl) (fun cdv A outer s H vs Q E hr h => ?_)
  obtain ⟨r, p, us, ss, xs, rfl, hr0, hv, hp, hO, hx, q⟩ := h
  refine ⟨_, PSs.nox (pss_cons (ps_set (i := 2) sc_played.nd rfl (by first | exact Or.inl rfl | exact Or.inr rfl) (pv 1))
  (pss_cons (ps_for PassesOwn.never rfl (k_piL K rfl (pv 0)) (pg_name (i := 3) sc_played.nd rfl (by first | exact Or.inl rfl | exact Or.inr rfl))
    (pss_one (ps_set (i := 2) sc_played.nd rfl (by first | exact Or.inl rfl | exact Or.inr rfl) (pe_call (G_stepped T) (hr.mono (by decide)) (by rfl) T.g_stepped T.F_stepped.kp T.b0_stepped T.v0_stepped pass0 (pa_cons (pv 3) (pa_cons (pv 2) pa_nil))))))
  (pss_one (ps_ret (pv 2))))), ?_⟩
  walk_at "go"
  refine ⟨⟨_, .inl (.inl hr0)⟩, for_list (K := K) (a := r) (xs := us) (fun i σ H1 => ∃ (v3 : Option V) (p' : Addr), σ = [some (.ref r), some (.ref p), some (.ref p'), v3] ∧ Same H H1 ∧ H1 p' = some (.lst ((playF (ss.take i) xs).map V.int))) ⟨none, p, rfl, Same.refl _, hp⟩ (fun i σ H1 _ ⟨_, _, _, s, _⟩ => .inl (.inl (s _ _ hr0))) ?_ ?_⟩
  · rintro i v σ H1 hi ⟨v3, p', rfl, s1, h1⟩
    obtain ⟨s, hs, hvs⟩ := hv.get hi
    have pl := play_len (ss.take i) xs
    walk_at "go"
    refine ⟨v, p', 1, s, playF (ss.take i) xs, rfl, hvs.same s1, h1, by rw [pl]; exact hO s (List.mem_of_getElem? hs), by omega, by decide, by decide, fun H2 p2 s2 np2 h2 => ?_⟩
    rw [← play_take hs] at h2
    exact ⟨_, _, rfl, s1.trans s2, h2⟩
  · rintro σ H1 ⟨v3, p', rfl, s1, h1⟩
    rw [hv.len, List.take_length] at h1
    exact ⟨_, rfl, q _ p' s1 h1⟩
def sp_mixed (C : Addr) : Sp := fun vs H Q _ => ∃ (a r p : Addr) (n : Nat) (ss : List Step) (xs : List Int), vs = [.ref a, .ref p] ∧ MixAt C H a r n ss ∧ n ≤ 4 ∧ H p = some (.lst (xs.map V.int)) ∧ xs.length = n ∧ (∀ s ∈ ss, s.ok n) ∧
  ∀ H' p', Same H H' → H p' = none → H' p' = some (.lst ((playF ss xs).map V.int)) → Q (.ref p') H'
theorem G_mixed (T : Top K mg) : FnOk P w K mg base CX0 4 T.f_mixed T.fd_mixed ["mixer", "samples"] (sp_mixed T.C_Mixer) := by
  refine T.F_mixed.ok sc_mixed (fun vs H Q E h => by obtain ⟨a, r, p, n, ss, xs, rfl, _⟩ := h; rfl) (fun cdv A outer s H vs Q E hr h => ?_)
  obtain ⟨a, r, p, n, ss, xs, rfl, hM, hn, hp, hx, hO, q⟩ := h
  refine ⟨_, PSs.nox (pss_cons (ps_expr (pe_call (G_check_mixer T) (hr.mono (by decide)) (by rfl) T.g_check_mixer T.F_check_mixer.kp T.b_check_mixer .nil pass0 (pa_cons (pv 0) pa_nil)))
  (pss_cons (ps_expr (pe_call (G_check_moment T) (hr.mono (by decide)) (by rfl) T.g_check_moment T.F_check_moment.kp T.b_check_moment .nil pass0 (pa_cons (pv 0) (pa_cons (pv 1) pa_nil))))
  (pss_one (ps_ret (pe_callTy (k_listOf K rfl) (by rfl) T.n_list (by decide +kernel) (pa_cons (pe_call (G_played T) (hr.mono (by decide)) (by rfl) T.g_played T.F_played.kp T.b_played .nil pass0 (pa_cons (pe_fld (pv 0) rfl) (pa_cons (pv 1) pa_nil))) pa_nil)))))), ?_⟩
  refine ⟨_, rfl, a, r, n, ss, rfl, hM, ?_⟩
  refine ⟨_, rfl, _, rfl, a, r, p, n, ss, xs, rfl, hM, hn, hp, hx, fun H1 s1 => ?_⟩
  have hp1 := s1 _ _ hp
  obtain ⟨dx, us, ha, hr0, hv⟩ := hM.same s1
  walk_at "go"
  refine ⟨a, T.C_Mixer, dx, _, _, rfl, ha, T.cl_Mixer, T.na_Mixer_rows, rfl, ?_⟩
  walk_at "go"
  refine ⟨r, p, us, ss, xs, rfl, hr0, hv, hp1, by rw [hx]; exact hO, by omega, fun H2 p2 s2 h2 => ?_⟩
  refine ⟨p2, _, rfl, .inl (.inl (.inl h2)), fun p3 np3 => ?_⟩
  exact q _ p3 (s1.trans (s2.trans (same_upd np3))) (s1.free (s2.free np3)) upd_same
def sp_unmixed (C : Addr) (K : PySem.W.Frag) : Sp := fun vs H Q _ => ∃ (a r p : Addr) (n : Nat) (ss : List Step) (xs : List Int), vs = [.ref a, .ref p] ∧ MixAt C H a r n ss ∧ n ≤ 4 ∧ H p = some (.lst (xs.map V.int)) ∧ xs.length = n ∧ (∀ s ∈ ss, s.ok n) ∧ ss.length ≤ 100 ∧
  ∀ H' p', Same H H' → H p' = none → H' p' = some (.lst ((backF ss xs).map V.int)) → Q (.ref p') H'
end
end My

namespace My
/-! ### mixers as matrices: what 2 ^ bits times a row more does -/
def shS : Step → Nat
  | .lift _ _ sh => sh
  | _ => 0
def bitsS (ss : List Step) : Nat := (ss.map shS).sum
def colM (M : List (List Int)) (k : Nat) : List Int := M.map fun l => l.getD k 0
def numS (n : Nat) : Step → List (List Int) → List (List Int)
  | .lift t ws sh, M => (M.map fun l => l.map fun x => x * 2 ^ sh).set t (List.zipWith (fun a b => a + b) ((M.getD t []).map fun x => x * 2 ^ sh) ((List.range n).map fun k => dotP ws (colM M k)))
  | .turn i, M => M.set i ((M.getD i []).map fun x => 0 - x)
  | .swap i j, M => (M.set i (M.getD j [])).set j (M.getD i [])
def unitM (n : Nat) : List (List Int) := (List.range n).map fun i => (List.range n).map fun j => if i = j then 1 else 0
def numF (n : Nat) (ss : List Step) : List (List Int) := ss.foldl (fun M s => numS n s M) (unitM n)
def mulV (M : List (List Int)) (y : List Int) : List Int := M.map fun l => dotP l y
def addM (u : List Int) (c : Int) (v : List Int) : List Int := List.zipWith (fun a b => a + c * b) u v
def linS : Step → List Int → List Int
  | .lift t ws sh, v => (v.map fun x => x * 2 ^ sh).set t (v.getD t 0 * 2 ^ sh + dotP ws v)
  | .turn i, v => v.set i (0 - v.getD i 0)
  | .swap i j, v => (v.set i (v.getD j 0)).set j (v.getD i 0)
def Sq (n : Nat) (M : List (List Int)) : Prop := M.length = n ∧ ∀ l ∈ M, l.length = n
theorem dot_add : ∀ {a b : List Int} (y : List Int), a.length = b.length → dotP (List.zipWith (fun a b => a + b) a b) y = dotP a y + dotP b y
  | [], [], y, _ => by cases y <;> rfl
  | x :: a, z :: b, [], _ => rfl
  | x :: a, z :: b, w :: y, h => by
    show (x + z) * w + dotP (List.zipWith (fun a b => a + b) a b) y = x * w + dotP a y + (z * w + dotP b y)
    rw [dot_add y (by simpa using h), Int.add_mul]
    omega
  | [], _ :: _, _, h => by simp at h
  | _ :: _, [], _, h => by simp at h
theorem dot_mul (c : Int) : ∀ (a y : List Int), dotP (a.map fun x => c * x) y = c * dotP a y
  | [], y => by cases y <;> simp [dotP]
  | x :: a, [] => by simp [dotP]
  | x :: a, w :: y => by
    show c * x * w + dotP (a.map fun x => c * x) y = c * (x * w + dotP a y)
    rw [dot_mul c a y, Int.mul_add, Int.mul_assoc]
theorem dot_mulr (c : Int) (a y : List Int) : dotP (a.map fun x => x * c) y = dotP a y * c := by
  rw [Int.mul_comm, ← dot_mul]
  congr 1
  exact List.map_congr_left fun x _ => Int.mul_comm x c
theorem dot_neg (a y : List Int) : dotP (a.map fun x => 0 - x) y = 0 - dotP a y := by
  have := dot_mul (-1) a y
  rw [show (a.map fun x => 0 - x) = a.map fun x => -1 * x from List.map_congr_left fun x _ => by omega, this]
  omega
/-- sums the other way about -/
theorem dot_cols {n : Nat} : ∀ (ws : List Int) (M : List (List Int)) (y : List Int), (∀ l ∈ M, l.length = n) → y.length = n → dotP ((List.range n).map fun k => dotP ws (colM M k)) y = dotP ws (mulV M y)
  | [], M, y, _, hy => by
    have : ∀ (m : Nat) (y : List Int), dotP ((List.replicate m (0 : Int))) y = 0 := by
      intro m
      induction m with
      | zero => intro y; cases y <;> rfl
      | succ m ih =>
        intro y
        cases y with
        | nil => rfl
        | cons w y =>
          show 0 * w + dotP (List.replicate m 0) y = 0
          rw [ih]
          omega
    have e : ((List.range n).map fun k => dotP [] (colM M k)) = List.replicate n 0 := by
      apply List.ext_getElem
      · simp
      · intro i h1 h2
        simp [dotP]
    rw [e, this]
    cases M <;> rfl
  | w :: ws, [], y, _, hy => by
    have : ∀ (m : Nat) (y : List Int), dotP ((List.replicate m (0 : Int))) y = 0 := by
      intro m
      induction m with
      | zero => intro y; cases y <;> rfl
      | succ m ih =>
        intro y
        cases y with
        | nil => rfl
        | cons w y =>
          show 0 * w + dotP (List.replicate m 0) y = 0
          rw [ih]
          omega
    have e : ((List.range n).map fun k => dotP (w :: ws) (colM [] k)) = List.replicate n 0 := by
      apply List.ext_getElem
      · simp
      · intro i h1 h2
        simp [dotP, colM]
    rw [e, this]
    rfl
  | w :: ws, l :: M, y, hM, hy => by
    have hl : l.length = n := hM l List.mem_cons_self
    have e : ((List.range n).map fun k => dotP (w :: ws) (colM (l :: M) k)) = List.zipWith (fun a b => a + b) (l.map fun x => w * x) ((List.range n).map fun k => dotP ws (colM M k)) := by
      apply List.ext_getElem
      · simp [hl]
      · intro i h1 h2
        have hi : i < n := by simpa using h1
        simp [dotP, colM, List.getElem?_eq_getElem (show i < l.length by omega)]
    rw [e, dot_add y (by simp [hl]), dot_mul, dot_cols ws M y (fun k hk => hM k (List.mem_cons_of_mem _ hk)) hy]
    rfl
theorem mul_getD {M : List (List Int)} {y : List Int} {i : Nat} : (mulV M y).getD i 0 = dotP (M.getD i []) y := by
  unfold mulV
  rw [List.getD_eq_getElem?_getD, List.getElem?_map, List.getD_eq_getElem?_getD]
  cases M[i]? with
  | none => rfl
  | some l => rfl
theorem getD_mem {M : List (List Int)} {i : Nat} (h : i < M.length) : M.getD i [] ∈ M := by
  rw [List.getD_eq_getElem?_getD, List.getElem?_eq_getElem h]
  exact List.getElem_mem h
theorem numS_sq {n : Nat} {s : Step} {M : List (List Int)} (h : Sq n M) (ok : s.ok n) : Sq n (numS n s M) := by
  obtain ⟨h1, h2⟩ := h
  cases s with
  | turn i =>
    have hi : i < n := ok
    refine ⟨by simp [numS, h1], fun l hl => ?_⟩
    rcases List.mem_or_eq_of_mem_set hl with hl | rfl
    · exact h2 l hl
    · rw [List.length_map]
      exact h2 _ (getD_mem (by omega))
  | swap i j =>
    obtain ⟨hi, hj, _⟩ := ok
    refine ⟨by simp [numS, h1], fun l hl => ?_⟩
    rcases List.mem_or_eq_of_mem_set hl with hl | rfl
    · rcases List.mem_or_eq_of_mem_set hl with hl | rfl
      · exact h2 l hl
      · exact h2 _ (getD_mem (by omega))
    · exact h2 _ (getD_mem (by omega))
  | lift t ws sh =>
    obtain ⟨ht, _⟩ := ok
    refine ⟨by simp [numS, h1], fun l hl => ?_⟩
    rcases List.mem_or_eq_of_mem_set hl with hl | rfl
    · obtain ⟨k, hk, rfl⟩ := List.mem_map.mp hl
      rw [List.length_map]
      exact h2 k hk
    · rw [List.length_zipWith, List.length_map, List.length_map, List.length_range, h2 _ (getD_mem (by omega)), Nat.min_self]
theorem mul_num {n : Nat} {s : Step} {M : List (List Int)} {y : List Int} (h : Sq n M) (ok : s.ok n) (hy : y.length = n) : mulV (numS n s M) y = linS s (mulV M y) := by
  obtain ⟨h1, h2⟩ := h
  have hm : ∀ (A : List (List Int)) (i : Nat) (l : List Int), mulV (A.set i l) y = (mulV A y).set i (dotP l y) := fun A i l => by
    unfold mulV
    rw [List.map_set]
  cases s with
  | turn i =>
    show mulV (M.set i ((M.getD i []).map fun x => 0 - x)) y = (mulV M y).set i (0 - (mulV M y).getD i 0)
    rw [hm, dot_neg, mul_getD]
  | swap i j =>
    show mulV ((M.set i (M.getD j [])).set j (M.getD i [])) y = ((mulV M y).set i ((mulV M y).getD j 0)).set j ((mulV M y).getD i 0)
    rw [hm, hm, mul_getD, mul_getD]
  | lift t ws sh =>
    obtain ⟨ht, hw, _⟩ := ok
    have hl : (M.getD t []).length = n := h2 _ (getD_mem (by omega))
    show mulV ((M.map fun l => l.map fun x => x * 2 ^ sh).set t _) y = ((mulV M y).map fun x => x * 2 ^ sh).set t ((mulV M y).getD t 0 * 2 ^ sh + dotP ws (mulV M y))
    rw [hm, dot_add y (by rw [List.length_map, List.length_map, List.length_range, hl]), dot_cols ws M y h2 hy, dot_mulr, mul_getD]
    congr 1
    unfold mulV
    rw [List.map_map, List.map_map]
    exact List.map_congr_left fun l _ => dot_mulr _ l y
theorem addM_len {u v : List Int} {c : Int} (h : u.length = v.length) : (addM u c v).length = u.length := by
  unfold addM
  rw [List.length_zipWith, h, Nat.min_self]
theorem addM_getD {u v : List Int} {c : Int} (h : u.length = v.length) (i : Nat) : (addM u c v).getD i 0 = u.getD i 0 + c * v.getD i 0 := by
  unfold addM
  rw [List.getD_eq_getElem?_getD, List.getElem?_zipWith, List.getD_eq_getElem?_getD, List.getD_eq_getElem?_getD]
  by_cases k : i < u.length
  · rw [List.getElem?_eq_getElem k, List.getElem?_eq_getElem (show i < v.length by omega)]
    rfl
  · rw [List.getElem?_eq_none (by omega), List.getElem?_eq_none (by omega)]
    simp
theorem dot_addM (c : Int) : ∀ (ws u v : List Int), u.length = v.length → dotP ws (addM u c v) = dotP ws u + c * dotP ws v
  | [], u, v, _ => by cases u <;> cases v <;> simp [dotP, addM]
  | w :: ws, [], [], _ => by simp [dotP, addM]
  | w :: ws, x :: u, z :: v, h => by
    show w * (x + c * z) + dotP ws (addM u c v) = w * x + dotP ws u + c * (w * z + dotP ws v)
    rw [dot_addM c ws u v (by simpa using h), Int.mul_add, Int.mul_add, Int.mul_left_comm w c z]
    omega
  | w :: ws, [], _ :: _, h => by simp at h
  | w :: ws, _ :: _, [], h => by simp at h
theorem linS_len (s : Step) (v : List Int) : (linS s v).length = v.length := by
  cases s <;> simp [linS]
theorem step_add {n : Nat} {s : Step} {u v : List Int} (c : Int) (ok : s.ok n) (hu : u.length = n) (hv : v.length = n) : stepF 1 s (addM u (2 ^ shS s * c) v) = addM (stepF 1 s u) c (linS s v) := by
  have huv : u.length = v.length := by omega
  refine ext_getD (by rw [stepF_len, addM_len huv, addM_len (by rw [stepF_len, linS_len, huv]), stepF_len]) fun k hk => ?_
  rw [stepF_len, addM_len huv] at hk
  rw [addM_getD (by rw [stepF_len, linS_len, huv])]
  cases s with
  | turn i =>
    have hi : i < n := ok
    have e1 : (2 : Int) ^ shS (.turn i) * c = c := by show (2 : Int) ^ 0 * c = c; omega
    rw [e1]
    show ((addM u c v).set i (0 - (addM u c v).getD i 0)).getD k 0 = (u.set i (0 - u.getD i 0)).getD k 0 + c * (v.set i (0 - v.getD i 0)).getD k 0
    rw [getD_set (by rw [addM_len huv]; omega), getD_set (by omega), getD_set (by omega), addM_getD huv, addM_getD huv]
    by_cases e : i = k
    · rw [if_pos e, if_pos e, if_pos e, Int.mul_sub]
      omega
    · rw [if_neg e, if_neg e, if_neg e]
  | swap i j =>
    obtain ⟨hi, hj, _⟩ := ok
    have e1 : (2 : Int) ^ shS (.swap i j) * c = c := by show (2 : Int) ^ 0 * c = c; omega
    rw [e1]
    show (((addM u c v).set i ((addM u c v).getD j 0)).set j ((addM u c v).getD i 0)).getD k 0 = ((u.set i (u.getD j 0)).set j (u.getD i 0)).getD k 0 + c * ((v.set i (v.getD j 0)).set j (v.getD i 0)).getD k 0
    rw [getD_set (by rw [List.length_set, addM_len huv]; omega), getD_set (by rw [addM_len huv]; omega), getD_set (by rw [List.length_set]; omega), getD_set (by omega), getD_set (by rw [List.length_set]; omega), getD_set (by omega), addM_getD huv, addM_getD huv, addM_getD huv]
    by_cases e : j = k
    · rw [if_pos e, if_pos e, if_pos e]
    · rw [if_neg e, if_neg e, if_neg e]
      by_cases e' : i = k
      · rw [if_pos e', if_pos e', if_pos e']
      · rw [if_neg e', if_neg e', if_neg e']
  | lift t ws sh =>
    obtain ⟨ht, _⟩ := ok
    show ((addM u (2 ^ sh * c) v).set t ((addM u (2 ^ sh * c) v).getD t 0 + 1 * (dotP ws (addM u (2 ^ sh * c) v) / 2 ^ sh))).getD k 0 = (u.set t (u.getD t 0 + 1 * (dotP ws u / 2 ^ sh))).getD k 0 + c * ((v.map fun x => x * 2 ^ sh).set t (v.getD t 0 * 2 ^ sh + dotP ws v)).getD k 0
    rw [getD_set (by rw [addM_len huv]; omega), getD_set (by omega), getD_set (by rw [List.length_map]; omega), addM_getD huv, addM_getD huv, dot_addM _ _ _ _ huv]
    have hp : (2 : Int) ^ sh ≠ 0 := Int.ne_of_gt (Int.pow_pos (by decide))
    have e2 : (dotP ws u + 2 ^ sh * c * dotP ws v) / 2 ^ sh = dotP ws u / 2 ^ sh + c * dotP ws v := by
      rw [Int.mul_assoc, Int.add_mul_ediv_left _ _ hp]
    rw [e2]
    by_cases e : t = k
    · rw [if_pos e, if_pos e, if_pos e, Int.mul_add c]
      have : c * (v.getD t 0 * 2 ^ sh) = 2 ^ sh * c * v.getD t 0 := by
        rw [Int.mul_comm (v.getD t 0), ← Int.mul_assoc, Int.mul_comm c]
      omega
    · rw [if_neg e, if_neg e, if_neg e]
      have e3 : (v.map fun x => x * 2 ^ sh).getD k 0 = v.getD k 0 * 2 ^ sh := by
        rw [List.getD_eq_getElem?_getD, List.getElem?_map, List.getD_eq_getElem?_getD]
        cases v[k]? with
        | none => simp
        | some x => rfl
      rw [e3, Int.mul_comm (v.getD k 0), ← Int.mul_assoc, Int.mul_comm c]
theorem mulV_len (M : List (List Int)) (y : List Int) : (mulV M y).length = M.length := List.length_map ..
theorem play_addM {n : Nat} (c : Int) {y : List Int} (hy : y.length = n) : ∀ (ss : List Step) (M : List (List Int)) (u : List Int), (∀ s ∈ ss, s.ok n) → Sq n M → u.length = n →
    playF ss (addM u (2 ^ bitsS ss * c) (mulV M y)) = addM (playF ss u) c (mulV (ss.foldl (fun M s => numS n s M) M) y)
  | [], M, u, _, hM, hu => by
    show addM u (2 ^ 0 * c) (mulV M y) = addM u c (mulV M y)
    rw [Int.pow_zero, Int.one_mul]
  | s :: ss, M, u, ok, hM, hu => by
    have e : (2 : Int) ^ bitsS (s :: ss) * c = 2 ^ shS s * (2 ^ bitsS ss * c) := by
      show (2 : Int) ^ (shS s + bitsS ss) * c = _
      rw [Int.pow_add, Int.mul_assoc]
    have o1 := ok s List.mem_cons_self
    show playF ss (stepF 1 s (addM u (2 ^ bitsS (s :: ss) * c) (mulV M y))) = addM (playF ss (stepF 1 s u)) c (mulV (ss.foldl (fun M s => numS n s M) (numS n s M)) y)
    rw [e, step_add _ o1 hu (by rw [mulV_len]; exact hM.1), ← mul_num hM o1 hy]
    exact play_addM c hy ss _ _ (fun s hs => ok s (List.mem_cons_of_mem _ hs)) (numS_sq hM o1) (by rw [stepF_len, hu])
theorem unit_sq (n : Nat) : Sq n (unitM n) := ⟨by simp [unitM], fun l hl => by
  obtain ⟨i, _, rfl⟩ := List.mem_map.mp hl
  simp⟩
theorem dot_unit {i : Nat} : ∀ (n lo : Nat) (y : List Int), y.length = n → dotP ((List.range' lo n).map fun j => if i = j then (1 : Int) else 0) y = if lo ≤ i then y.getD (i - lo) 0 else 0
  | 0, lo, [], _ => by simp [dotP]
  | n + 1, lo, z :: y, h => by
    rw [List.range'_succ, List.map_cons]
    show (if i = lo then (1 : Int) else 0) * z + dotP ((List.range' (lo + 1) n).map fun j => if i = j then (1 : Int) else 0) y = _
    rw [dot_unit n (lo + 1) y (by simpa using h)]
    by_cases c : i = lo
    · rw [if_pos c, if_neg (by omega), if_pos (by omega), c, Nat.sub_self]
      simp
    · rw [if_neg c]
      by_cases d : lo + 1 ≤ i
      · rw [if_pos d, if_pos (by omega)]
        obtain ⟨k, rfl⟩ : ∃ k, i = lo + 1 + k := ⟨i - (lo + 1), by omega⟩
        rw [show lo + 1 + k - lo = k + 1 by omega, show lo + 1 + k - (lo + 1) = k by omega, List.getD_cons_succ]
        omega
      · rw [if_neg d, if_neg (by omega)]
        omega
  | 0, lo, _ :: _, h => by simp at h
  | _ + 1, lo, [], h => by simp at h
theorem mul_unit {n : Nat} {y : List Int} (hy : y.length = n) : mulV (unitM n) y = y := by
  refine ext_getD (by rw [mulV_len, (unit_sq n).1, hy]) fun i hi => ?_
  rw [mulV_len, (unit_sq n).1] at hi
  rw [mul_getD]
  have e : (unitM n).getD i [] = (List.range' 0 n).map fun j => if i = j then (1 : Int) else 0 := by
    unfold unitM
    rw [List.getD_eq_getElem?_getD, List.getElem?_map, List.getElem?_range hi]
    rw [List.range_eq_range']
    rfl
  rw [e, dot_unit n 0 y hy, if_pos (Nat.zero_le _), Nat.sub_zero]
theorem play_add {n : Nat} (c : Int) {ss : List Step} {x y : List Int} (ok : ∀ s ∈ ss, s.ok n) (hx : x.length = n) (hy : y.length = n) : playF ss (addM x (2 ^ bitsS ss * c) y) = addM (playF ss x) c (mulV (numF n ss) y) := by
  have := play_addM c hy ss (unitM n) x ok (unit_sq n) hx
  rw [mul_unit hy] at this
  exact this
/-! #### how great the numbers grow -/
def Bd (c : Nat) (M : List (List Int)) : Prop := ∀ l ∈ M, ∀ x ∈ l, x.natAbs < 2 ^ c
theorem dot_bd {c : Nat} : ∀ (ws xs : List Int), (∀ w ∈ ws, -32768 ≤ w ∧ w ≤ 32768) → (∀ x ∈ xs, x.natAbs < 2 ^ c) → (dotP ws xs).natAbs ≤ ws.length * (2 ^ 15 * 2 ^ c)
  | [], xs, _, _ => by cases xs <;> exact Nat.zero_le _
  | _ :: _, [], _, _ => Nat.zero_le _
  | w :: ws, x :: xs, h, k => by
    have ih := dot_bd ws xs (fun w hw => h w (List.mem_cons_of_mem _ hw)) (fun x hx => k x (List.mem_cons_of_mem _ hx))
    have hw := h w List.mem_cons_self
    have hx := k x List.mem_cons_self
    have e : (w * x).natAbs ≤ 2 ^ 15 * 2 ^ c := by
      rw [Int.natAbs_mul]
      exact Nat.mul_le_mul (by omega) (by omega)
    have e2 : (dotP (w :: ws) (x :: xs)).natAbs ≤ (w * x).natAbs + (dotP ws xs).natAbs := Int.natAbs_add_le _ _
    rw [List.length_cons, Nat.add_mul, Nat.one_mul]
    omega
theorem numS_bd {n c : Nat} {s : Step} {M : List (List Int)} (hM : Sq n M) (ok : s.ok n) (hn : n ≤ 4) (h : Bd c M) : Bd (c + 18) (numS n s M) := by
  have up : ∀ {x : Int}, x.natAbs < 2 ^ c → x.natAbs < 2 ^ (c + 18) := fun hx => Nat.lt_of_lt_of_le hx (Nat.pow_le_pow_right (by decide) (by omega))
  have pe : 2 ^ (c + 18) = 2 ^ c * 262144 := Nat.pow_add 2 c 18
  cases s with
  | turn i =>
    have hi : i < n := ok
    intro l hl x hx
    rcases List.mem_or_eq_of_mem_set hl with hl | rfl
    · exact up (h l hl x hx)
    · obtain ⟨y, hy, rfl⟩ := List.mem_map.mp hx
      have := up (h _ (getD_mem (by rw [hM.1]; exact hi)) y hy)
      omega
  | swap i j =>
    obtain ⟨hi, hj, _⟩ := ok
    intro l hl x hx
    rcases List.mem_or_eq_of_mem_set hl with hl | rfl
    · rcases List.mem_or_eq_of_mem_set hl with hl | rfl
      · exact up (h l hl x hx)
      · exact up (h _ (getD_mem (by rw [hM.1]; exact hj)) x hx)
    · exact up (h _ (getD_mem (by rw [hM.1]; exact hi)) x hx)
  | lift t ws sh =>
    obtain ⟨ht, hw, _, hs, hws⟩ := ok
    have psh : 2 ^ sh ≤ 2 ^ 15 := Nat.pow_le_pow_right (by decide) hs
    have grow : ∀ {y : Int}, y.natAbs < 2 ^ c → (y * 2 ^ sh).natAbs ≤ 2 ^ c * 2 ^ 15 := fun {y} hy => by
      rw [Int.natAbs_mul, Int.natAbs_pow]
      exact Nat.mul_le_mul (by omega) psh
    have p0 : 0 < 2 ^ c := Nat.two_pow_pos c
    intro l hl x hx
    rcases List.mem_or_eq_of_mem_set hl with hl | rfl
    · obtain ⟨k, hk, rfl⟩ := List.mem_map.mp hl
      obtain ⟨y, hy, rfl⟩ := List.mem_map.mp hx
      have := grow (h k hk y hy)
      omega
    · obtain ⟨i, hi, rfl⟩ := List.mem_iff_getElem.mp hx
      rw [List.getElem_zipWith, List.getElem_map, List.getElem_map]
      have hi1 : i < (M.getD t []).length := by
        rw [List.length_zipWith, List.length_map] at hi
        omega
      have h1 := grow (h _ (getD_mem (by rw [hM.1]; exact ht)) _ (List.getElem_mem hi1))
      generalize hk : (List.range n)[i]'_ = k
      have hk' : k < n := by
        rw [← hk]
        exact List.mem_range.mp (List.getElem_mem _)
      have h2 := dot_bd (c := c) ws (colM M k) hws (fun x hx => by
        obtain ⟨l, hl, rfl⟩ := List.mem_map.mp hx
        have hlk : k < l.length := by rw [hM.2 l hl]; exact hk'
        rw [List.getD_eq_getElem?_getD, List.getElem?_eq_getElem hlk]
        exact h l hl _ (List.getElem_mem hlk))
      have h3 : ws.length * (2 ^ 15 * 2 ^ c) ≤ 4 * (2 ^ 15 * 2 ^ c) := Nat.mul_le_mul_right _ (by omega)
      have := Int.natAbs_add_le ((M.getD t [])[i] * 2 ^ sh) (dotP ws (colM M k))
      omega
theorem unit_bd (n : Nat) : Bd 1 (unitM n) := fun l hl x hx => by
  obtain ⟨i, _, rfl⟩ := List.mem_map.mp hl
  obtain ⟨j, _, rfl⟩ := List.mem_map.mp hx
  split <;> decide
theorem num_bd {n : Nat} (hn : n ≤ 4) : ∀ {ss : List Step} {M : List (List Int)} {c : Nat}, (∀ s ∈ ss, s.ok n) → Sq n M → Bd c M → Bd (c + 18 * ss.length) (ss.foldl (fun M s => numS n s M) M)
  | [], M, c, _, _, h => h
  | s :: ss, M, c, ok, hM, h => by
    have := num_bd hn (ss := ss) (fun t ht => ok t (List.mem_cons_of_mem _ ht)) (numS_sq hM (ok s List.mem_cons_self)) (numS_bd hM (ok s List.mem_cons_self) hn h)
    rw [show c + 18 + 18 * ss.length = c + 18 * (s :: ss).length by rw [List.length_cons]; omega] at this
    exact this
theorem num_sq {n : Nat} : ∀ {ss : List Step} {M : List (List Int)}, (∀ s ∈ ss, s.ok n) → Sq n M → Sq n (ss.foldl (fun M s => numS n s M) M)
  | [], M, _, h => h
  | s :: ss, M, ok, h => num_sq (ss := ss) (fun t ht => ok t (List.mem_cons_of_mem _ ht)) (numS_sq h (ok s List.mem_cons_self))
end My

namespace My
open PySem PySem.Spec PyProof.Rows L2 Pre
theorem dot_range : ∀ ws xs : List Int, ws.length = xs.length → ((List.range xs.length).map fun i => ws.getD i 0 * xs.getD i 0).sum = dotP ws xs
  | [], [], _ => rfl
  | [], _ :: _, h => by simp at h
  | _ :: _, [], h => by simp at h
  | w :: ws, x :: xs, h => by
    rw [List.length_cons, List.range_succ_eq_map, List.map_cons, List.sum_cons, List.map_map]
    show w * x + _ = w * x + dotP ws xs
    rw [← dot_range ws xs (by simpa using h)]
    rfl
local macro_rules | `(tactic| walk_at "go") => `(tactic| repeat (first | (with_reducible first | refine iteT ?_ | refine iteF ?_ | refine iteNtt ?_ | refine iteNff ?_ | refine iteET (by omega) ?_ | refine iteEF (by omega) ?_ | refine iteENT (by omega) ?_ | refine iteENF (by omega) ?_ | refine iteDT (by omega) ?_ | refine iteDF (by omega) ?_ | refine iteNT (by omega) ?_ | refine iteNF (by omega) ?_) | refine ⟨_, rfl, ?_⟩ | refine ⟨_, _, rfl, rfl, ?_⟩ | refine ⟨_, _, rfl, ?_⟩ | refine ⟨rfl, ?_⟩ | refine .inl ⟨_, rfl, ?_⟩ | refine .inr ⟨_, rfl, ?_⟩))
local macro_rules | `(tactic| walk_at "b") => `(tactic| try dsimp (config := { proj := false, iota := false, eta := false, zeta := false }) only)
section
variable {P : Program} {w : World} {K : PySem.W.Frag} {mg : Str → Option Value} {base : Heap}
def sp_law_whole : Sp := fun vs H Q _ => ∃ i : Int, vs = [.int i] ∧ Q (.bl true) H
theorem G_law_whole (T : Top K mg) : FnOk P w K mg base CX0 1 T.f_law_whole T.fd_law_whole ["_law_value"] sp_law_whole := by
  refine T.F_law_whole.ok sc_law_whole (fun vs H Q E h => by obtain ⟨i, rfl, _⟩ := h; rfl) (fun cdv A outer s H vs Q E hr h => ?_)
  obtain ⟨i, rfl, q⟩ := h
  refine ⟨_, PSs.nox (pss_one (ps_ret (pe_and (pe_callB (k_isi K rfl) (by rfl) T.n_isinstance (by decide +kernel) (pa_cons (pv 0) (pa_cons (pe_bltn (v := .ty "int") (by rfl) T.n_int (by decide +kernel) rfl) pa_nil))) (pe_one (pe_not (pe_callB (k_isi K rfl) (by rfl) T.n_isinstance (by decide +kernel) (pa_cons (pv 0) (pa_cons (pe_bltn (v := .ty "bool") (by rfl) T.n_bool (by decide +kernel) rfl) pa_nil)))))))), ?_⟩
  refine ⟨_, rfl, _, _, _, _, true, rfl, .ty _, .base (.int i), kit_ty (by decide +kernel), true, rfl, iteT ?_⟩
  exact ⟨_, rfl, _, _, _, _, false, rfl, .ty _, .base (.int i), kit_ty (by decide +kernel), false, rfl, q⟩
/-- value a whole number, low one, high None or one -/
def sp_law_numbers_right : Sp := fun vs H Q _ => ∃ (a : Addr) (ns : List Int) (n : Nat), vs = [.ref a, .int n] ∧ H a = some (.lst (ns.map V.int)) ∧ ns.length = n ∧ n ≤ 4 ∧ ∀ H', Same H H' → Q (.bl true) H'
theorem G_law_numbers_right (T : Top K mg) : FnOk P w K mg base CX0 2 T.f_law_numbers_right T.fd_law_numbers_right ["_law_row", "_law_broad"] sp_law_numbers_right := by
  refine T.F_law_numbers_right.ok sc_law_numbers_right (fun vs H Q E h => by obtain ⟨a, ns, n, rfl, _⟩ := h; rfl) (fun cdv A outer s H vs Q E hr h => ?_)
  obtain ⟨a, ns, n, rfl, hA, hn, hn4, q⟩ := h
  refine ⟨_, PSs.nox (pss_one (ps_ret (pe_and (pe_callB (k_isi K rfl) (by rfl) T.n_isinstance (by decide +kernel) (pa_cons (pv 0) (pa_cons (pe_bltn (v := .ty "list") (by rfl) T.n_list (by decide +kernel) rfl) pa_nil))) (pe_and (pe_cmpR op_eq (pe_callB (k_len K rfl) (by rfl) T.n_len (by decide +kernel) (pa_cons (pv 0) pa_nil)) (pv 1) (nomark _)) (pe_one (pe_cmpR (k_eqD K rfl hr.units) (pe_lc (own := [("_law_one", 2)]) (g := gName 2) (by rfl) sc_law_numbers_right.nd (k_piL K rfl (pv 0)) (blkOk_by (own := [("_law_one", 2)]) (N := N_law_numbers_right) (sc := defScope s_law_numbers_right) (by decide +kernel)) (fun _ _ _ _ _ => (pg_name (i := 2) sc_law_numbers_right.nd rfl (by first | exact Or.inl rfl | exact Or.inr rfl))) (fun _ _ _ _ _ => (pts_one (pt_not (pt_val (pe_call (G_law_whole T) (hr.mono (by decide)) (by rfl) T.g_law_whole T.F_law_whole.kp T.b_law_whole .nil pass0 (pa_cons (pv 2) pa_nil)))))) (fun _ _ _ _ _ => (pv 2))) (pe_lst pa_nil) (nomark _))))))), ?_⟩
  have hS : SqL K H a (ns.map V.int) := .inl (.inl hA)
  refine ⟨_, rfl, _, _, _, _, true, rfl, .ty _, ty_list hA, kit_ty (by decide +kernel), true, rfl, iteT ?_⟩
  walk_at "go"
  refine ⟨a, _, rfl, .inl hS, ?_⟩
  rw [List.length_map, hn]
  walk_at "go"
  refine ⟨⟨_, hS⟩, fun D nD => ?_⟩
  refine lc_selL (K := K) (xs := ns.map V.int) (ns.map fun _ => none) nD hS (by rw [List.length_map, List.length_map]) (by rw [List.length_map]; exact small1000 (by omega)) (fun x => rfl) ?_ ?_
  · intro i x o H' hx ho s Qt qt
    obtain ⟨n, hn, rfl⟩ := int_at hx
    rw [List.getElem?_map, hn] at ho
    cases ho
    refine ⟨_, rfl, n, rfl, true, rfl, ?_⟩
    exact qt _ (Same.refl _)
  · intro H' s hD
    rw [fm_non0] at hD
    walk_at "go"
    refine ⟨Nat.zero_le _, fun p np => ?_⟩
    refine eq_lst (ns := []) (.inl (.inl (same_upd np _ _ hD))) (.inl (.inl upd_same)) ?_
    exact q _ (s.trans (same_upd np))
def sp_law_stepped : Sp := fun vs H Q _ => ∃ (N : Addr → Prop) (v : V) (p : Addr) (way : Int) (s : Step) (xs : List Int), vs = [v, .ref p, .int way] ∧ StepV N H v s ∧ H p = some (.lst (xs.map V.int)) ∧ s.ok xs.length ∧ xs.length ≤ 4 ∧ -1 ≤ way ∧ way ≤ 1 ∧
  ∀ H' p', Same H H' → H p' = none → H' p' = some (.lst ((stepF way s xs).map V.int)) → Q (.ref p') H'
theorem G_law_stepped (T : Top K mg) : FnOk P w K mg base CX0 1 T.f_law_stepped T.fd_law_stepped ["_law_step", "_law_row", "_law_way"] sp_law_stepped := by
  refine T.F_law_stepped.ok sc_law_stepped (fun vs H Q E h => by obtain ⟨N, v, p, way, s, xs, rfl, _⟩ := h; rfl) (fun cdv A outer s H vs Q E hr h => ?_)
  obtain ⟨N, v, p, way, s, xs, rfl, hV, hp, hO, hx, hw1, hw2, q⟩ := h
  refine ⟨_, PSs.nox (pss_cons (ps_set (i := 3) sc_law_stepped.nd rfl (by first | exact Or.inl rfl | exact Or.inr rfl) (pe_callTy (k_listOf K rfl) (by rfl) T.n_list (by decide +kernel) (pa_cons (pv 1) pa_nil)))
  (pss_cons (ps_if (pt_cmpR op_eq (pe_ix (k_ixT K rfl) (pv 0) pe_int (fun _ _ => rfl)) pe_str (nomark _))
    (pss_cons (ps_set (i := 4) sc_law_stepped.nd rfl (by first | exact Or.inl rfl | exact Or.inr rfl) (pe_callB (k_sum K rfl rfl) (by rfl) T.n_sum (by decide +kernel) (pa_cons (pe_lc (own := [("_law_at", 5)]) (g := gName 5) (tt := tYes) (by rfl) sc_law_stepped.nd (pi_range1 (by rfl) T.n_range (pa_cons (pe_callB (k_len K rfl) (by rfl) T.n_len (by decide +kernel) (pa_cons (pv 1) pa_nil)) pa_nil)) (blkOk_by (own := [("_law_at", 5)]) (N := N_law_stepped) (sc := defScope s_law_stepped) (by decide +kernel)) (fun _ _ _ _ _ => (pg_name (i := 5) sc_law_stepped.nd rfl (by first | exact Or.inl rfl | exact Or.inr rfl))) (fun _ _ _ _ _ => pts_nil) (fun _ _ _ _ _ => (pe_op op_mul (pe_ix (k_ixL K rfl) (pe_ix (k_ixT K rfl) (pv 0) pe_int (fun _ _ => rfl)) (pv 5) (fun _ _ => rfl)) (pe_ix (k_ixL K rfl) (pv 1) (pv 5) (fun _ _ => rfl))))) pa_nil)))
  (pss_one (ps_asg (pe_op op_add (pe_ix (k_ixL K rfl) (pv 3) (pe_ix (k_ixT K rfl) (pv 0) pe_int (fun _ _ => rfl)) (fun _ _ => rfl)) (pe_op op_mul (pv 2) (pe_op op_fdivW (pv 4) (pe_op op_shl pe_int (pe_ix (k_ixT K rfl) (pv 0) pe_int (fun _ _ => rfl)))))) (pg_sub (pv 3) (pe_ix (k_ixT K rfl) (pv 0) pe_int (fun _ _ => rfl)) set_list))))
    (pss_one (ps_if (pt_cmpR op_eq (pe_ix (k_ixT K rfl) (pv 0) pe_int (fun _ _ => rfl)) pe_str (nomark _))
    (pss_one (ps_asg (pe_op op_sub pe_int (pe_ix (k_ixL K rfl) (pv 3) (pe_ix (k_ixT K rfl) (pv 0) pe_int (fun _ _ => rfl)) (fun _ _ => rfl))) (pg_sub (pv 3) (pe_ix (k_ixT K rfl) (pv 0) pe_int (fun _ _ => rfl)) set_list)))
    (pss_cons (ps_asg (pe_ix (k_ixL K rfl) (pv 1) (pe_ix (k_ixT K rfl) (pv 0) pe_int (fun _ _ => rfl)) (fun _ _ => rfl)) (pg_sub (pv 3) (pe_ix (k_ixT K rfl) (pv 0) pe_int (fun _ _ => rfl)) set_list))
  (pss_one (ps_asg (pe_ix (k_ixL K rfl) (pv 1) (pe_ix (k_ixT K rfl) (pv 0) pe_int (fun _ _ => rfl)) (fun _ _ => rfl)) (pg_sub (pv 3) (pe_ix (k_ixT K rfl) (pv 0) pe_int (fun _ _ => rfl)) set_list)))))))
  (pss_one (ps_ret (pv 3))))), ?_⟩
  refine ⟨_, rfl, p, _, rfl, .inl (.inl (.inl hp)), fun l nl => ?_⟩
  obtain ⟨H1, e1, s1, h1⟩ := fresh (.lst (xs.map V.int)) nl
  rw [e1]
  have hp1 := s1 _ _ hp
  have pl : p ≠ l := fun z => by rw [z, nl] at hp; cases hp
  have fin : ∀ {H2 : Hp} {ys : List Int}, Same H1 H2 → stepF way s xs = ys → Q (.ref l) (upd H2 l (.lst (ys.map V.int))) := fun s2 e => q _ l (same_over nl (s1.trans s2)) nl (by rw [upd_same, e])
  cases s with
  | turn i =>
    obtain ⟨t, rfl, ht⟩ := hV
    have hi : i < xs.length := hO
    have hT : SqT K H1 t [sT, .int i] := .inl (.inl (s1 _ _ ht))
    walk_at "go"
    refine ⟨t, _, _, _, rfl, rfl, hT, rfl, rfl, _, rfl, iteDF (by decide) ?_⟩
    walk_at "go"
    refine ⟨t, _, _, _, rfl, rfl, hT, rfl, rfl, _, rfl, iteDT rfl ?_⟩
    walk_at "go"
    refine ⟨t, _, _, _, rfl, rfl, hT, rfl, ?_⟩
    refine ⟨l, _, _, _, rfl, rfl, .inl (.inl h1), at_getD hi, ?_⟩
    walk_at "go"
    refine ⟨t, _, _, _, rfl, rfl, hT, rfl, ?_⟩
    refine ⟨l, _, _, i, rfl, rfl, h1, ix_ok (by rw [List.length_map]; exact hi), ?_⟩
    have z := fin (ys := xs.set i (0 - xs.getD i 0)) (Same.refl H1) rfl
    rw [List.map_set] at z
    exact ⟨_, rfl, z⟩
  | swap i j =>
    obtain ⟨t, rfl, ht⟩ := hV
    have hT : SqT K H1 t [sS, .int i, .int j] := .inl (.inl (s1 _ _ ht))
    obtain ⟨hi, hj, hij⟩ := hO
    walk_at "go"
    refine ⟨t, _, _, _, rfl, rfl, hT, rfl, rfl, _, rfl, iteDF (by decide) ?_⟩
    walk_at "go"
    refine ⟨t, _, _, _, rfl, rfl, hT, rfl, rfl, _, rfl, iteDF (by decide) ?_⟩
    walk_at "go"
    refine ⟨t, _, _, _, rfl, rfl, hT, rfl, ?_⟩
    refine ⟨p, _, _, _, rfl, rfl, .inl (.inl hp1), at_getD hj, ?_⟩
    walk_at "go"
    refine ⟨t, _, _, _, rfl, rfl, hT, rfl, ?_⟩
    refine ⟨l, _, _, i, rfl, rfl, h1, ix_ok (by rw [List.length_map]; exact hi), ?_⟩
    have ht2 := s1 _ _ ht
    have tl : t ≠ l := fun z => by rw [z, h1] at ht2; cases ht2
    have hT2 : SqT K (upd H1 l (.lst ((xs.map V.int).set i (.int (xs.getD j 0))))) t [sS, .int i, .int j] := .inl (.inl (by rw [upd_ne tl]; exact ht2))
    have hp2 : upd H1 l (.lst ((xs.map V.int).set i (.int (xs.getD j 0)))) p = some (.lst (xs.map V.int)) := by rw [upd_ne pl]; exact hp1
    walk_at "go"
    refine ⟨t, _, _, _, rfl, rfl, hT2, rfl, ?_⟩
    refine ⟨p, _, _, _, rfl, rfl, .inl (.inl hp2), at_getD hi, ?_⟩
    walk_at "go"
    refine ⟨t, _, _, _, rfl, rfl, hT2, rfl, ?_⟩
    refine ⟨l, _, _, j, rfl, rfl, upd_same, ix_ok (by rw [List.length_set, List.length_map]; exact hj), _, rfl, ?_⟩
    refine q _ l (same_over nl (same_over nl s1)) nl ?_
    rw [upd_same]
    show _ = some (HO.lst (((xs.set i (xs.getD j 0)).set j (xs.getD i 0)).map V.int))
    rw [List.map_set, List.map_set]
  | lift b ws sh =>
    obtain ⟨t, lw, rfl, ht, hlw, _⟩ := hV
    have hT : SqT K H1 t [sL, .int b, .ref lw, .int sh] := .inl (.inl (s1 _ _ ht))
    have hlw1 := s1 _ _ hlw
    obtain ⟨hb, hwl, hw0, hs15, hws⟩ := hO
    walk_at "go"
    refine ⟨t, _, _, _, rfl, rfl, hT, rfl, rfl, _, rfl, iteDT rfl ?_⟩
    walk_at "go"
    refine ⟨p, _, rfl, .inl (.inl (.inl hp1)), ?_⟩
    rw [List.length_map]
    walk_at "go"
    refine ⟨by omega, by omega, fun D nD => ?_⟩
    rw [Int.toNat_natCast]
    refine lc_mapR (lo := 0) (n := xs.length) (((List.range xs.length).map fun i => ws.getD i 0 * xs.getD i 0).map V.int) nD (by rw [List.length_map, List.length_map, List.length_range]) (small1000 (by omega)) (fun x => rfl) ?_ ?_
    · intro k y H' hk hy s Qt qt
      rw [List.getElem?_map, List.getElem?_map, List.getElem?_range hk] at hy
      cases hy
      rw [Int.zero_add]
      walk_at "go"
      refine ⟨t, _, _, _, rfl, rfl, Same.tup s hT, rfl, ?_⟩
      walk_at "go"
      refine ⟨lw, _, _, _, rfl, rfl, .inl (.inl (s _ _ hlw1)), at_getD (by omega), ?_⟩
      walk_at "go"
      refine ⟨p, _, _, _, rfl, rfl, .inl (.inl (s _ _ hp1)), at_getD hk, ?_⟩
      have hb2 := hws (ws.getD k 0) (by
        rw [List.getD_eq_getElem?_getD, List.getElem?_eq_getElem (show k < ws.length by omega)]
        exact List.getElem_mem _)
      refine ⟨_, _, rfl, rfl, .inl ⟨by omega, by omega⟩, ?_⟩
      exact qt _ (Same.refl _)
    intro H2 s2 hD
    refine ⟨D, _, rfl, .inl (.inl hD), ?_⟩
    rw [dot_range ws xs hwl]
    have hT2 := Same.tup s2 hT
    have h12 := s2 _ _ h1
    walk_at "go"
    refine ⟨t, _, _, _, rfl, rfl, hT2, rfl, ?_⟩
    refine ⟨l, _, _, _, rfl, rfl, .inl (.inl h12), at_getD hb, ?_⟩
    walk_at "go"
    refine ⟨t, _, _, _, rfl, rfl, hT2, rfl, ?_⟩
    refine ⟨_, _, rfl, rfl, ⟨by omega, by omega, by decide⟩, ?_⟩
    walk_at "b"
    have e2 : (1 : Int) * 2 ^ ((sh : Int)).toNat = ((2 ^ sh : Nat) : Int) := by rw [Int.one_mul, Int.toNat_natCast, Int.natCast_pow]; rfl
    have h15 : 2 ^ sh ≤ 2 ^ 15 := Nat.pow_le_pow_right (by decide) hs15
    have h0 : (0 : Int) < ((2 ^ sh : Nat) : Int) := Int.natCast_pos.mpr (Nat.two_pow_pos sh)
    rw [e2]
    refine ⟨_, _, rfl, rfl, wide_div (b := 60) h0 (by rw [Int.natAbs_natCast]; omega) (by decide) (by decide), ?_⟩
    refine ⟨_, _, rfl, rfl, .inl ⟨by omega, by omega⟩, _, _, rfl, rfl, ?_⟩
    walk_at "go"
    refine ⟨t, _, _, _, rfl, rfl, hT2, rfl, ?_⟩
    refine ⟨l, _, _, b, rfl, rfl, h12, ix_ok (by rw [List.length_map]; exact hb), ?_⟩
    have z := fin (ys := xs.set b (xs.getD b 0 + way * (dotP ws xs / 2 ^ sh))) s2 rfl
    rw [List.map_set, show (2 : Int) ^ sh = ((2 ^ sh : Nat) : Int) by rw [Int.natCast_pow]; rfl] at z
    exact ⟨_, rfl, z⟩
def sp_law_played (K : PySem.W.Frag) : Sp := fun vs H Q _ => ∃ (N : Addr → Prop) (r p : Addr) (ss : List Step) (xs : List Int), vs = [.ref r, .ref p] ∧ StepsAt N H r ss ∧ H p = some (.lst (xs.map V.int)) ∧ (∀ s ∈ ss, s.ok xs.length) ∧ xs.length ≤ 4 ∧
  ∀ H' p', Same H H' → H p' = none → H' p' = some (.lst ((playF ss xs).map V.int)) → Q (.ref p') H'
theorem G_law_played (T : Top K mg) : FnOk P w K mg base CX0 2 T.f_law_played T.fd_law_played ["_law_steps_here", "_law_row"] (sp_law_played K) := by
  refine T.F_law_played.ok sc_law_played (fun vs H Q E h => by obtain ⟨N, r, p, ss, xs, rfl, _⟩ := h; rfl) (fun cdv A outer s H vs Q E hr h => ?_)
  obtain ⟨N, r, p, ss, xs, rfl, hS, hp, hO, hx, q⟩ := h
  refine ⟨_, PSs.nox (pss_cons (ps_set (i := 2) sc_law_played.nd rfl (by first | exact Or.inl rfl | exact Or.inr rfl) (pe_callTy (k_listOf K rfl) (by rfl) T.n_list (by decide +kernel) (pa_cons (pv 1) pa_nil)))
  (pss_cons (ps_for PassesOwn.never rfl (k_piL K rfl (pv 0)) (pg_name (i := 3) sc_law_played.nd rfl (by first | exact Or.inl rfl | exact Or.inr rfl))
    (pss_one (ps_set (i := 2) sc_law_played.nd rfl (by first | exact Or.inl rfl | exact Or.inr rfl) (pe_call (G_law_stepped T) (hr.mono (by decide)) (by rfl) T.g_law_stepped T.F_law_stepped.kp T.b_law_stepped .nil pass0 (pa_cons (pv 3) (pa_cons (pv 2) (pa_cons pe_int pa_nil)))))))
  (pss_one (ps_ret (pv 2))))), ?_⟩
  obtain ⟨us, hr0, hv⟩ := hS
  refine ⟨_, rfl, p, _, rfl, .inl (.inl (.inl hp)), fun p0 np0 => ?_⟩
  obtain ⟨H1, e1, s1, h1⟩ := fresh (.lst (xs.map V.int)) np0
  rw [e1]
  have hr1 := s1 _ _ hr0
  walk_at "go"
  refine ⟨⟨_, .inl (.inl hr1)⟩, for_list (K := K) (a := r) (xs := us) (fun i σ H2 => ∃ (v3 : Option V) (p' : Addr), σ = [some (.ref r), some (.ref p), some (.ref p'), v3] ∧ Same H1 H2 ∧ H p' = none ∧ H2 p' = some (.lst ((playF (ss.take i) xs).map V.int))) ⟨none, p0, rfl, Same.refl _, np0, h1⟩ (fun i σ H1 _ ⟨_, _, _, s, _⟩ => .inl (.inl (s _ _ hr1))) ?_ ?_⟩
  · rintro i v σ H2 hi ⟨v3, p', rfl, s2, np', h2⟩
    obtain ⟨s, hs, hvs⟩ := hv.get hi
    have pl := play_len (ss.take i) xs
    walk_at "go"
    refine ⟨N, v, p', 1, s, playF (ss.take i) xs, rfl, hvs.same (s1.trans s2), h2, by rw [pl]; exact hO s (List.mem_of_getElem? hs), by omega, by decide, by decide, fun H3 p2 s3 np2 h3 => ?_⟩
    rw [← play_take hs] at h3
    exact ⟨_, _, rfl, s2.trans s3, (s1.trans s2).free np2, h3⟩
  · rintro σ H2 ⟨v3, p', rfl, s2, np', h2⟩
    rw [hv.len, List.take_length] at h2
    exact ⟨_, rfl, q _ p' (s1.trans s2) np' h2⟩
def sp_law_led_back (K : PySem.W.Frag) : Sp := fun vs H Q _ => ∃ (N : Addr → Prop) (r p : Addr) (ss : List Step) (xs : List Int), vs = [.ref r, .ref p] ∧ StepsAt N H r ss ∧ H p = some (.lst (xs.map V.int)) ∧ (∀ s ∈ ss, s.ok xs.length) ∧ xs.length ≤ 4 ∧
  ∀ H' p', Same H H' → H' p' = some (.lst ((backF ss xs).map V.int)) → Q (.ref p') H'
end
end My

namespace My
open PySem PySem.Spec PyProof.Rows L2 Pre
local macro_rules | `(tactic| walk_at "go") => `(tactic| repeat (first | (with_reducible first | refine iteT ?_ | refine iteF ?_ | refine iteNtt ?_ | refine iteNff ?_ | refine iteET (by omega) ?_ | refine iteEF (by omega) ?_ | refine iteENT (by omega) ?_ | refine iteENF (by omega) ?_ | refine iteDT (by omega) ?_ | refine iteDF (by omega) ?_ | refine iteNT (by omega) ?_ | refine iteNF (by omega) ?_) | refine ⟨_, rfl, ?_⟩ | refine ⟨_, _, rfl, rfl, ?_⟩ | refine ⟨_, _, rfl, ?_⟩ | refine ⟨rfl, ?_⟩ | refine .inl ⟨_, rfl, ?_⟩ | refine .inr ⟨_, rfl, ?_⟩))
local macro_rules | `(tactic| walk_at "b") => `(tactic| try dsimp (config := { proj := false, iota := false, eta := false, zeta := false }) only)
section
variable {P : Program} {w : World} {K : PySem.W.Frag} {mg : Str → Option Value} {base : Heap}
def sp_law_number : Sp := fun vs H Q _ => ∃ (g : Addr) (N : Nat), vs = [.ref g] ∧ GenAt H g N ∧ N ≤ 10 ^ 11 ∧ ∀ (n : Int) H', n.natAbs < 2 ^ 100 → But g H H' → GenAt H' g (N + 1000) → Q (.int n) H'
def sp_law_weight : Sp := fun vs H Q _ => ∃ (g : Addr) (N : Nat), vs = [.ref g] ∧ GenAt H g N ∧ N ≤ 10 ^ 11 ∧ ∀ (n : Int) H', -32768 ≤ n → n ≤ 32768 → But g H H' → GenAt H' g (N + 300) → Q (.int n) H'
theorem G_law_weight (T : Top K mg) : FnOk P w K mg base CX0 2 T.f_law_weight T.fd_law_weight ["_law_purse_here"] sp_law_weight := by
  refine T.F_law_weight.ok sc_law_weight (fun vs H Q E h => by obtain ⟨g, N, rfl, _⟩ := h; rfl) (fun cdv A outer s H vs Q E hr h => ?_)
  obtain ⟨g, N, rfl, hG, hN, q⟩ := h
  refine ⟨_, PSs.nox (pss_cons (ps_set (i := 1) sc_law_weight.nd rfl (by first | exact Or.inl rfl | exact Or.inr rfl) (pe_lst (pa_cons pe_int (pa_cons pe_int (pa_cons (pe_un un_neg pe_int) (pa_cons pe_int (pa_cons pe_int (pa_cons (pe_un un_neg pe_int) (pa_cons pe_int (pa_cons (pe_op op_sub (pe_call (G_law_draw T) (hr.mono (by decide)) (by rfl) T.g_law_draw T.F_law_draw.kp T.b_law_draw .nil pass0 (pa_cons (pv 0) (pa_cons pe_int pa_nil))) pe_int) pa_nil))))))))))
  (pss_one (ps_ret (pe_ix (k_ixL K rfl) (pe_op op_cat (pv 1) (pe_lst (pa_cons (pe_op op_sub (pe_call (G_law_draw T) (hr.mono (by decide)) (by rfl) T.g_law_draw T.F_law_draw.kp T.b_law_draw .nil pass0 (pa_cons (pv 0) (pa_cons pe_int pa_nil))) pe_int) pa_nil))) (pe_call (G_law_draw T) (hr.mono (by decide)) (by rfl) T.g_law_draw T.F_law_draw.kp T.b_law_draw .nil pass0 (pa_cons (pv 0) (pa_cons pe_int pa_nil))) (fun _ _ => rfl))))), ?_⟩
  walk_at "go"
  refine ⟨g, _, _, rfl, hG, by omega, by decide, small_2900 (by decide), fun r1 H1 r10 r11 g1 b1 => ?_⟩
  walk_at "go"
  refine ⟨(show 8 ≤ sizeLine by decide), fun F nF => ?_⟩
  obtain ⟨H2, e2, s2, h2⟩ := fresh (.lst [V.int 0, V.int 1, V.int (-1), V.int 1, V.int 2, V.int (-2), V.int 3, V.int (r1 - 10)]) nF
  rw [show upd H1 F (.lst _) = H2 from e2]
  have Fg : F ≠ g := g1.ne nF
  walk_at "go"
  refine ⟨g, _, _, rfl, g1.same s2, by omega, by decide, small_2900 (by decide), fun r3 H3 r30 r31 g3 b3 => ?_⟩
  have h3 := b3 _ _ Fg h2
  walk_at "go"
  refine ⟨(show 1 ≤ sizeLine by decide), fun L nL => ?_⟩
  obtain ⟨H4, e4, s4, h4⟩ := fresh (.lst [V.int (r3 - 32768)]) nL
  rw [show upd H3 L (.lst _) = H4 from e4]
  refine ⟨F, L, _, _, rfl, rfl, s4 _ _ h3, h4, (show 9 ≤ sizeLine by decide), fun Z nZ => ?_⟩
  obtain ⟨H5, e5, s5, h5⟩ := fresh (.lst [V.int 0, V.int 1, V.int (-1), V.int 1, V.int 2, V.int (-2), V.int 3, V.int (r1 - 10), V.int (r3 - 32768)]) nZ
  rw [show upd H4 Z (.lst ([V.int 0, V.int 1, V.int (-1), V.int 1, V.int 2, V.int (-2), V.int 3, V.int (r1 - 10)] ++ [V.int (r3 - 32768)])) = H5 from e5]
  have g5 := (g3.same s4).same s5
  have Zg : Z ≠ g := (g3.same s4).ne nZ
  walk_at "go"
  refine ⟨g, _, _, rfl, g5, by omega, by decide, small_2900 (by decide), fun r6 H6 r60 r61 g6 b6 => ?_⟩
  have h6 := b6 _ _ Zg h5
  obtain ⟨wt, hw1, hw2, hwt⟩ : ∃ wt : Int, -32768 ≤ wt ∧ wt ≤ 32768 ∧ atI [V.int 0, V.int 1, V.int (-1), V.int 1, V.int 2, V.int (-2), V.int 3, V.int (r1 - 10), V.int (r3 - 32768)] r6 = some (.int wt) := by
    obtain ⟨i, rfl⟩ : ∃ i : Nat, r6 = (i : Int) := ⟨r6.toNat, by omega⟩
    match i, r61 with
    | 0, _ => exact ⟨0, by decide, by decide, atI_nat rfl⟩
    | 1, _ => exact ⟨1, by decide, by decide, atI_nat rfl⟩
    | 2, _ => exact ⟨-1, by decide, by decide, atI_nat rfl⟩
    | 3, _ => exact ⟨1, by decide, by decide, atI_nat rfl⟩
    | 4, _ => exact ⟨2, by decide, by decide, atI_nat rfl⟩
    | 5, _ => exact ⟨-2, by decide, by decide, atI_nat rfl⟩
    | 6, _ => exact ⟨3, by decide, by decide, atI_nat rfl⟩
    | 7, _ => exact ⟨r1 - 10, by omega, by omega, atI_nat rfl⟩
    | 8, _ => exact ⟨r3 - 32768, by omega, by omega, atI_nat rfl⟩
    | i + 9, h => omega
  refine ⟨Z, _, _, _, rfl, rfl, .inl (.inl h6), hwt, ?_⟩
  exact q _ _ hw1 hw2 ((((b1.same s2).trans b3).same (s4.trans s5)).trans b6) (g6.mono (by omega))
def sp_law_lift : Sp := fun vs H Q _ => ∃ (g : Addr) (N n m : Nat), vs = [.ref g, .int n, .int m] ∧ GenAt H g N ∧ N ≤ 10 ^ 10 ∧ 1 ≤ n ∧ n ≤ 4 ∧ m ≤ 3 ∧
  ∀ H' v t ws sh, But g H H' → GenAt H' g (N + 5000) → StepV (fun l => H l = none ∧ l ≠ g) H' v (.lift t ws sh) → Step.ok n (.lift t ws sh) → sh ≤ m → Q v H'
theorem G_law_lift (T : Top K mg) : FnOk P w K mg base CX0 3 T.f_law_lift T.fd_law_lift ["_law_purse_here", "_law_broad", "_law_most"] sp_law_lift := by
  refine T.F_law_lift.ok sc_law_lift (fun vs H Q E h => by obtain ⟨g, N, n, m, rfl, _⟩ := h; rfl) (fun cdv A outer s H vs Q E hr h => ?_)
  obtain ⟨g, N, n, m, rfl, hG, hN, hn1, hn4, hm, q⟩ := h
  refine ⟨_, PSs.nox (pss_cons (ps_par (by rfl) sc_law_lift.nd (i := 4) (j := 5) rfl rfl (by decide) rfl rfl (pa_cons (pe_call (G_law_draw T) (hr.mono (by decide)) (by rfl) T.g_law_draw T.F_law_draw.kp T.b_law_draw .nil pass0 (pa_cons (pv 0) (pa_cons (pv 1) pa_nil))) (pa_cons (pe_call (G_law_draw T) (hr.mono (by decide)) (by rfl) T.g_law_draw T.F_law_draw.kp T.b_law_draw .nil pass0 (pa_cons (pv 0) (pa_cons (pe_op op_add (pv 2) pe_int) pa_nil))) pa_nil)) (by rfl))
  (pss_cons (ps_setLc (i := 3) (own := [("_law_way", 6)]) (g := gName 6) (tt := tYes) (by rfl) sc_law_lift.nd rfl rfl (sw_true rfl rfl rfl (by decide +kernel)) (pi_range1 (by rfl) T.n_range (pa_cons (pv 1) pa_nil)) (blkOk_by (own := [("_law_way", 6)]) (N := N_law_lift) (sc := defScope s_law_lift) (by decide +kernel)) (fun _ _ _ _ _ => (pg_name (i := 6) sc_law_lift.nd rfl (by first | exact Or.inl rfl | exact Or.inr rfl))) (fun _ _ _ _ _ => pts_nil) (fun _ _ _ _ _ => (pe_call (G_law_weight T) (hr.mono (by decide)) (by rfl) T.g_law_weight T.F_law_weight.kp T.b_law_weight .nil pass0 (pa_cons (pv 0) pa_nil))))
  (pss_cons (ps_asg pe_int (pg_sub (pv 3) (pv 4) set_list))
  (pss_one (ps_ret (pe_tup (pa_cons pe_str (pa_cons (pv 4) (pa_cons (pv 3) (pa_cons (pv 5) pa_nil)))))))))), ?_⟩
  walk_at "go"
  refine ⟨g, _, _, rfl, hG, by omega, by omega, small_2900 (by omega), fun r1 H1 r10 r11 g1 b1 => ?_⟩
  walk_at "go"
  refine ⟨g, _, _, rfl, g1, by omega, by omega, small_2900 (by omega), fun r2 H2 r20 r21 g2 b2 => ?_⟩
  obtain ⟨t, rfl⟩ : ∃ t : Nat, r1 = (t : Int) := ⟨r1.toNat, by omega⟩
  obtain ⟨sh, rfl⟩ : ∃ sh : Nat, r2 = (sh : Int) := ⟨r2.toNat, by omega⟩
  have ht : t < n := by omega
  walk_at "go"
  refine ⟨by omega, by omega, fun D nD => ?_⟩
  rw [Int.toNat_natCast]
  have Dg : D ≠ g := g2.ne nD
  have nDH : H D = none := b1.free Dg (b2.free Dg nD)
  refine lc_drawR (lo := 0) (n := n) g _ 300 (fun x => -32768 ≤ x ∧ x ≤ 32768) nD g2 (small1000 (by omega)) (fun x => rfl) ?_ ?_
  · intro i H' hi b' g' Qt qt
    walk_at "go"
    refine ⟨g, _, rfl, g', by have : 300 * i ≤ 300 * 4 := Nat.mul_le_mul_left _ (by omega); omega, fun y H3 y1 y2 b3 g3 => ?_⟩
    exact qt y H3 ⟨y1, y2⟩ b3 (g3.mono (by rw [Nat.mul_succ]; omega))
  · intro H3 ys b3 g3 hD hl hy
    walk_at "go"
    refine ⟨D, _, _, t, rfl, rfl, hD, ix_ok (by rw [List.length_map]; omega), ?_⟩
    obtain ⟨H4, e4⟩ : ∃ H4, upd H3 D (.lst ((ys.map V.int).set t (.int 0))) = H4 := ⟨_, rfl⟩
    rw [e4]
    have h4 : H4 D = some (.lst ((ys.set t 0).map V.int)) := by rw [← e4, upd_same, List.map_set]
    have b34 : ∀ c o, c ≠ D → H3 c = some o → H4 c = some o := fun c o n h => by rw [← e4, upd_ne n]; exact h
    have b04 : But g H H4 := fun c o n h => b34 c o (fun z => by rw [z, nDH] at h; cases h) (b3 c o n (b2 c o n (b1 c o n h)))
    have g4 : GenAt H4 g (N + 100 + 100 + 300 * n) := by
      obtain ⟨x, y, z, a, b⟩ := g3
      exact ⟨x, y, z, b34 _ _ Dg.symm a, b⟩
    walk_at "go"
    refine ⟨(show 4 ≤ sizeLine by decide), fun tp ntp => ?_⟩
    obtain ⟨H5, e5, s5, h5⟩ := fresh (.tup [sL, V.int t, .ref D, .int sh]) ntp
    rw [show upd H4 tp (.tup [V.str (Str.ofString "lift"), V.int t, V.ref D, V.int sh]) = H5 from e5]
    refine q _ _ t (ys.set t 0) sh (b04.same s5) ((g4.same s5).mono (by have : 300 * n ≤ 300 * 4 := Nat.mul_le_mul_left _ hn4; omega)) ⟨tp, D, rfl, h5, s5 _ _ h4, nDH, Dg⟩ ⟨ht, by rw [List.length_set, hl], ?_, by omega, ?_⟩ (by omega)
    · rw [List.getD_eq_getElem?_getD, List.getElem?_set, if_pos rfl, if_pos (by omega)]
      rfl
    · intro x hx
      rcases List.mem_or_eq_of_mem_set hx with hx | rfl
      · exact hy x hx
      · decide
/-- what draws let stand: steps whose lists are not the purse -/
theorem AllV.but {N : Addr → Prop} {g : Addr} {H H' : Hp} {vs : List V} {ss : List Step} {n : Nat} (h : AllV (StepV N H) vs ss) (hG : GenAt H g n) (b : But g H H') (f : ∀ l, N l → l ≠ g) : AllV (StepV N H') vs ss :=
  h.imp fun v s => StepV.lk (M := fun b => b = g) (fun c o nc e => b c o nc e) (fun c e => by obtain ⟨x, y, z, a, _⟩ := hG; rw [e]; exact ⟨_, a⟩) (fun l hl e => f l hl e)
theorem steps_but {N : Addr → Prop} {g p : Addr} {H H' : Hp} {ss : List Step} {n : Nat} (h : StepsAt N H p ss) (hG : GenAt H g n) (b : But g H H') (f : ∀ l, N l → l ≠ g) (pg : p ≠ g) : StepsAt N H' p ss := by
  obtain ⟨vs, h1, h2⟩ := h
  exact ⟨vs, b _ _ pg h1, AllV.but h2 hG b f⟩
theorem bits_snoc (ss : List Step) (s : Step) : bitsS (ss ++ [s]) = bitsS ss + shS s := by
  unfold bitsS
  rw [List.map_append, List.sum_append]
  simp
theorem other_mod {k x n : Nat} (hk : k < n) (hx : x + 1 < n) : (k + 1 + x) % n < n ∧ (k + 1 + x) % n ≠ k := by
  refine ⟨Nat.mod_lt _ (by omega), ?_⟩
  by_cases h : k + 1 + x < n
  · rw [Nat.mod_eq_of_lt h]
    omega
  · rw [Nat.mod_eq_sub_mod (by omega), Nat.mod_eq_of_lt (by omega)]
    omega
def sp_law_steps : Sp := fun vs H Q _ => ∃ (g : Addr) (N n m b : Nat), vs = [.ref g, .int n, .int m, .int b] ∧ GenAt H g N ∧ N ≤ 10 ^ 9 ∧ 1 ≤ n ∧ n ≤ 4 ∧ m ≤ 8 ∧ b ≤ 15 ∧
  ∀ H' p ss, But g H H' → GenAt H' g (N + 100000) → H p = none → p ≠ g → StepsAt (fun l => l ≠ g) H' p ss → (∀ s ∈ ss, s.ok n) → ss.length ≤ m → bitsS ss ≤ b → Q (.ref p) H'
theorem G_law_steps (T : Top K mg) : FnOk P w K mg base CX0 4 T.f_law_steps T.fd_law_steps ["_law_purse_here", "_law_broad", "_law_many", "_law_bits_here"] sp_law_steps := by
  refine T.F_law_steps.ok sc_law_steps (fun vs H Q E h => by obtain ⟨g, N, n, m, b, rfl, _⟩ := h; rfl) (fun cdv A outer s H vs Q E hr h => ?_)
  obtain ⟨g, N, n, m, b, rfl, hG, hN, hn1, hn4, hm8, hb15, q⟩ := h
  refine ⟨_, PSs.nox (pss_cons (ps_par (by rfl) sc_law_steps.nd (i := 5) (j := 6) rfl rfl (by decide) rfl rfl (pa_cons (pe_lst pa_nil) (pa_cons (pv 3) pa_nil)) (by rfl))
  (pss_cons (ps_for PassesOwn.never rfl (pi_range1 (by rfl) T.n_range (pa_cons (pe_call (G_law_draw T) (hr.mono (by decide)) (by rfl) T.g_law_draw T.F_law_draw.kp T.b_law_draw .nil pass0 (pa_cons (pv 0) (pa_cons (pe_op op_add (pv 2) pe_int) pa_nil))) pa_nil)) (pg_name (i := 4) sc_law_steps.nd rfl (by first | exact Or.inl rfl | exact Or.inr rfl))
    (pss_cons (ps_par (by rfl) sc_law_steps.nd (i := 7) (j := 8) rfl rfl (by decide) rfl rfl (pa_cons (pe_call (G_law_draw T) (hr.mono (by decide)) (by rfl) T.g_law_draw T.F_law_draw.kp T.b_law_draw .nil pass0 (pa_cons (pv 0) (pa_cons pe_int pa_nil))) (pa_cons (pe_tup (pa_cons pe_str (pa_cons (pe_call (G_law_draw T) (hr.mono (by decide)) (by rfl) T.g_law_draw T.F_law_draw.kp T.b_law_draw .nil pass0 (pa_cons (pv 0) (pa_cons (pv 1) pa_nil))) pa_nil))) pa_nil)) (by rfl))
  (pss_cons (ps_if (PW.pt (pw_and (pt_cmpR op_eq (pv 7) pe_int (nomark _)) (pw_and1 (pt_cmpR op_gt (pv 1) pe_int (nomark _)))))
    (pss_one (ps_set (i := 8) sc_law_steps.nd rfl (by first | exact Or.inl rfl | exact Or.inr rfl) (pe_tup (pa_cons pe_str (pa_cons (pe_ix (k_ixT K rfl) (pv 8) pe_int (fun _ _ => rfl)) (pa_cons (pe_op op_mod (pe_op op_add (pe_op op_add (pe_ix (k_ixT K rfl) (pv 8) pe_int (fun _ _ => rfl)) pe_int) (pe_call (G_law_draw T) (hr.mono (by decide)) (by rfl) T.g_law_draw T.F_law_draw.kp T.b_law_draw .nil pass0 (pa_cons (pv 0) (pa_cons (pe_op op_sub (pv 1) pe_int) pa_nil)))) (pv 1)) pa_nil))))))
    pss_nil)
  (pss_cons (ps_if (pt_cmpR op_gt (pv 7) pe_int (nomark _))
    (pss_cons (ps_set (i := 8) sc_law_steps.nd rfl (by first | exact Or.inl rfl | exact Or.inr rfl) (pe_call (G_law_lift T) (hr.mono (by decide)) (by rfl) T.g_law_lift T.F_law_lift.kp T.b_law_lift .nil pass0 (pa_cons (pv 0) (pa_cons (pv 1) (pa_cons (pe_callB (call_min2 rfl) (by rfl) T.n_min (by decide +kernel) (pa_cons (pv 6) (pa_cons pe_int pa_nil))) pa_nil)))))
  (pss_one (ps_set (i := 6) sc_law_steps.nd rfl (by first | exact Or.inl rfl | exact Or.inr rfl) (pe_op op_sub (pv 6) (pe_ix (k_ixT K rfl) (pv 8) pe_int (fun _ _ => rfl))))))
    pss_nil)
  (pss_one (ps_expr (pe_bm PySem.F.plainAttrs_list PySem.F.slot_list_append PySem.F.type_list_append mt_append (pv 5) (pa_cons (pv 8) pa_nil))))))))
  (pss_one (ps_ret (pv 5))))), ?_⟩
  refine ⟨Nat.zero_le _, fun p np => ?_⟩
  obtain ⟨H1, e1, s1, h1⟩ := fresh (.lst []) np
  rw [e1]
  have pg : p ≠ g := hG.ne np
  walk_at "go"
  refine ⟨g, _, _, rfl, hG.same s1, by omega, by omega, small_2900 (by omega), fun r1 H2 r10 r11 g2 b2 => ?_⟩
  walk_at "go"
  refine ⟨by omega, by omega, ?_⟩
  walk_at "b"
  refine for_range (lo := 0) (n := r1.toNat) (fun i σ H3 => ∃ (v4 v7 v8 : Option V) (left : Nat) (vs : List V) (ss : List Step), σ = [some (.ref g), some (.int n), some (.int m), some (.int b), v4, some (.ref p), some (.int left), v7, v8] ∧ But g H H3 ∧ GenAt H3 g (N + 100 + 6000 * i) ∧ H3 p = some (.lst vs) ∧ AllV (StepV (fun l => l ≠ g ∧ l ≠ p) H3) vs ss ∧ ss.length = i ∧ (∀ s ∈ ss, s.ok n) ∧ left + bitsS ss ≤ b)
    ⟨none, none, none, b, [], [], rfl, (But.of s1).trans b2, g2, b2 _ _ pg h1, trivial, rfl, (fun s h => nomatch h), Nat.le_refl _⟩ ?_ ?_
  · rintro i σ H3 hi ⟨v4, v7, v8, left, vs, ss, rfl, b3, g3, h3, hv, hl, hO, hleft⟩
    have i8 : i < 8 := by omega
    walk_at "go"
    refine ⟨g, _, _, rfl, g3, by omega, by decide, small_2900 (by decide), fun r4 H4 r40 r41 g4 b4 => ?_⟩
    walk_at "go"
    refine ⟨g, _, _, rfl, g4, by omega, by omega, small_2900 (by omega), fun r5 H5 r50 r51 g5 b5 => ?_⟩
    obtain ⟨k, rfl⟩ : ∃ k : Nat, r5 = (k : Int) := ⟨r5.toNat, by omega⟩
    have b35 := b4.trans b5
    walk_at "go"
    refine ⟨(show 2 ≤ sizeLine by decide), fun tp ntp => ?_⟩
    obtain ⟨H6, e6, s6, h6⟩ := fresh (.tup [sT, V.int k]) ntp
    rw [show upd H5 tp (.tup [V.str (Str.ofString "turn"), V.int k]) = H6 from e6]
    have hv6 : ∀ {H7 : Hp}, But g H3 H7 → AllV (StepV (fun l => l ≠ g ∧ l ≠ p) H7) vs ss := fun b => AllV.but hv g3 b fun l z => z.1
    have app1 : ∀ {H7 : Hp}, But g H3 H7 → H7 p = some (.lst vs) := fun b => b _ _ pg h3
    have app2 : ∀ {H7 : Hp} {v : V} {s : Step}, But g H3 H7 → GenAt H7 g (N + 100 + 6000 * (i + 1)) → StepV (fun l => l ≠ g ∧ l ≠ p) H7 v s → s.ok n →
        But g H (upd H7 p (.lst (vs ++ [v]))) ∧ GenAt (upd H7 p (.lst (vs ++ [v]))) g (N + 100 + 6000 * (i + 1)) ∧ upd H7 p (.lst (vs ++ [v])) p = some (.lst (vs ++ [v])) ∧ AllV (StepV (fun l => l ≠ g ∧ l ≠ p) (upd H7 p (.lst (vs ++ [v])))) (vs ++ [v]) (ss ++ [s]) ∧ (ss ++ [s]).length = i + 1 ∧ (∀ s' ∈ ss ++ [s], s'.ok n) := fun {H7 v s} b g7 hvs ho => by
      have k : ∀ c o, ¬ c = p → H7 c = some o → upd H7 p (.lst (vs ++ [v])) c = some o := fun c o nc h => by rw [upd_ne nc]; exact h
      have ka : ∀ c, c = p → ∃ xs, H7 c = some (.lst xs) := fun c e => ⟨vs, by rw [e]; exact app1 b⟩
      refine ⟨fun c o nc h => k c o (fun z => by rw [z, np] at h; cases h) (b c o nc (b3 c o nc h)), ?_, upd_same, ?_, by rw [List.length_append, hl]; rfl, ?_⟩
      · obtain ⟨x, y, z, a, e⟩ := g7
        exact ⟨x, y, z, k _ _ pg.symm a, e⟩
      · exact ((hv6 b).imp fun v s h => StepV.lk (M := fun c => c = p) k ka (fun l z => z.2) h).app ⟨StepV.lk (M := fun c => c = p) k ka (fun l z => z.2) hvs, trivial⟩
      · intro s' hs'
        rcases List.mem_append.mp hs' with h | h
        · exact hO s' h
        · rw [List.mem_singleton.mp h]
          exact ho
    have b36 := b35.same s6
    have g6 := g5.same s6
    have hT6 : SqT K H6 tp [sT, .int k] := .inl (.inl h6)
    by_cases w1 : r4 = 1
    · subst w1
      walk_at "go"
      by_cases n1 : 1 < n
      · walk_at "go"
        refine ⟨tp, _, _, _, rfl, rfl, hT6, rfl, ?_⟩
        walk_at "go"
        refine ⟨tp, _, _, _, rfl, rfl, hT6, rfl, ?_⟩
        walk_at "go"
        refine ⟨g, _, _, rfl, g6, by omega, by omega, small_2900 (by omega), fun r7 H7 r70 r71 g7 b7 => ?_⟩
        obtain ⟨x, rfl⟩ : ∃ x : Nat, r7 = (x : Int) := ⟨r7.toNat, by omega⟩
        walk_at "go"
        refine ⟨by omega, ?_⟩
        walk_at "go"
        have hk : k < n := by omega
        have hx : x + 1 < n := by omega
        obtain ⟨k2, hk2, hk3⟩ : ∃ k2 : Nat, ((k : Int) + 1 + (x : Int)) % (n : Int) = (k2 : Int) ∧ k2 < n ∧ k2 ≠ k := ⟨(k + 1 + x) % n, by rw [Int.natCast_emod, Int.natCast_add, Int.natCast_add]; rfl, other_mod hk hx⟩
        walk_at "go"
        refine ⟨(show 3 ≤ sizeLine by decide), fun tq ntq => ?_⟩
        obtain ⟨H8, e8, s8, h8⟩ := fresh (.tup [sS, V.int k, V.int k2]) ntq
        rw [show upd H7 tq (.tup [V.str (Str.ofString "swap"), V.int k, V.int (((k : Int) + 1 + (x : Int)) % (n : Int))]) = H8 from by rw [hk2]; exact e8]
        have b38 := (b36.trans b7).same s8
        walk_at "go"
        refine ⟨.inl ⟨rfl, _, .inl (.inl (app1 b38))⟩, ?_⟩
        walk_at "go"
        refine ⟨p, _, _, rfl, rfl, app1 b38, by rw [hv.len]; exact small1000 (by omega), ?_⟩
        obtain ⟨c1, c2, c3, c4, c5, c6⟩ := app2 b38 ((g7.same s8).mono (by omega)) (show StepV _ H8 (.ref tq) (.swap k k2) from ⟨tq, rfl, h8⟩) ⟨hk, hk3.1, fun e => hk3.2 e.symm⟩
        exact ⟨_, _, _, _, _, _, rfl, c1, c2, c3, c4, c5, c6, by rw [bits_snoc]; show left + (bitsS ss + 0) ≤ b; omega⟩
      · walk_at "go"
        refine ⟨.inl ⟨rfl, _, .inl (.inl (app1 b36))⟩, ?_⟩
        walk_at "go"
        refine ⟨p, _, _, rfl, rfl, app1 b36, by rw [hv.len]; exact small1000 (by omega), ?_⟩
        obtain ⟨c1, c2, c3, c4, c5, c6⟩ := app2 b36 (g6.mono (by omega)) (show StepV _ H6 (.ref tp) (.turn k) from ⟨tp, rfl, h6⟩) (show k < n by omega)
        exact ⟨_, _, _, _, _, _, rfl, c1, c2, c3, c4, c5, c6, by rw [bits_snoc]; show left + (bitsS ss + 0) ≤ b; omega⟩
    · by_cases w2 : 1 < r4
      · walk_at "go"
        refine ⟨g, _, n, min left 3, ?_, g6, by omega, hn1, hn4, by omega, fun H7 v t ws sh b7 g7 hv7 ho7 hs7 => ?_⟩
        · have : (if (3 : Int) < (left : Int) then (3 : Int) else (left : Int)) = ((min left 3 : Nat) : Int) := by split <;> omega
          rw [this]
          rfl
        obtain ⟨tq, D, rfl, h7, hD, nD, Dg⟩ := hv7
        walk_at "go"
        refine ⟨tq, _, _, _, rfl, rfl, .inl (.inl h7), rfl, ?_⟩
        walk_at "go"
        have b37 := b36.trans b7
        obtain ⟨left2, hleft2⟩ : ∃ x : Nat, (left : Int) - (sh : Int) = (x : Int) := ⟨((left : Int) - (sh : Int)).toNat, by omega⟩
        rw [show (fun (i j : Int) => V.int (i - j)) (left : Int) (sh : Int) = V.int (left2 : Int) from congrArg V.int hleft2]
        refine ⟨.inl ⟨rfl, _, .inl (.inl (app1 b37))⟩, ?_⟩
        walk_at "go"
        refine ⟨p, _, _, rfl, rfl, app1 b37, by rw [hv.len]; exact small1000 (by omega), ?_⟩
        obtain ⟨c1, c2, c3, c4, c5, c6⟩ := app2 b37 (g7.mono (by omega)) (show StepV _ H7 (.ref tq) (.lift t ws sh) from ⟨tq, D, rfl, h7, hD, Dg, fun z => by rw [z, app1 b36] at nD; cases nD⟩) ho7
        exact ⟨_, _, _, _, _, _, rfl, c1, c2, c3, c4, c5, c6, by rw [bits_snoc]; show left2 + (bitsS ss + sh) ≤ b; omega⟩
      · walk_at "go"
        refine ⟨.inl ⟨rfl, _, .inl (.inl (app1 b36))⟩, ?_⟩
        walk_at "go"
        refine ⟨p, _, _, rfl, rfl, app1 b36, by rw [hv.len]; exact small1000 (by omega), ?_⟩
        obtain ⟨c1, c2, c3, c4, c5, c6⟩ := app2 b36 (g6.mono (by omega)) (show StepV _ H6 (.ref tp) (.turn k) from ⟨tp, rfl, h6⟩) (show k < n by omega)
        exact ⟨_, _, _, _, _, _, rfl, c1, c2, c3, c4, c5, c6, by rw [bits_snoc]; show left + (bitsS ss + 0) ≤ b; omega⟩
  · rintro σ H3 ⟨v4, v7, v8, left, vs, ss, rfl, b3, g3, h3, hv, hl, hO, hleft⟩
    walk_at "go"
    have h8 : r1.toNat ≤ 8 := by omega
    exact q _ p ss b3 (g3.mono (by have : 6000 * r1.toNat ≤ 6000 * 8 := Nat.mul_le_mul_left _ h8; omega)) np pg ⟨vs, h3, hv.imp fun v s h => h.mono fun l z => z.1⟩ hO (by omega) (by omega)
end
end My

namespace My
open PySem PySem.Spec PyProof.Rows L2 Pre
local macro_rules | `(tactic| walk_at "go") => `(tactic| repeat (first | (with_reducible first | refine iteT ?_ | refine iteF ?_ | refine iteNtt ?_ | refine iteNff ?_ | refine iteET (by omega) ?_ | refine iteEF (by omega) ?_ | refine iteENT (by omega) ?_ | refine iteENF (by omega) ?_ | refine iteDT (by omega) ?_ | refine iteDF (by omega) ?_ | refine iteNT (by omega) ?_ | refine iteNF (by omega) ?_) | refine ⟨_, rfl, ?_⟩ | refine ⟨_, _, rfl, rfl, ?_⟩ | refine ⟨_, _, rfl, ?_⟩ | refine ⟨rfl, ?_⟩ | refine .inl ⟨_, rfl, ?_⟩ | refine .inr ⟨_, rfl, ?_⟩))
local macro_rules | `(tactic| walk_at "b") => `(tactic| try dsimp (config := { proj := false, iota := false, eta := false, zeta := false }) only)
section
variable {P : Program} {w : World} {K : PySem.W.Frag} {mg : Str → Option Value} {base : Heap}
def sp_law_copied (K : PySem.W.Frag) : Sp := fun vs H Q _ => ∃ (N : Addr → Prop) (p : Addr) (ss : List Step), vs = [.ref p] ∧ StepsAt N H p ss ∧ ss.length ≤ 100 ∧ ∀ H' p', Same H H' → H p' = none → StepsAt (Fl H H') H' p' ss → Q (.ref p') H'
theorem G_law_copied (T : Top K mg) : FnOk P w K mg base CX0 1 T.f_law_copied T.fd_law_copied ["_law_steps_here"] (sp_law_copied K) := by
  refine T.F_law_copied.ok sc_law_copied (fun vs H Q E h => by obtain ⟨N, p, ss, rfl, _⟩ := h; rfl) (fun cdv A outer s H vs Q E hr h => ?_)
  obtain ⟨N, p, ss, rfl, hS, hl, q⟩ := h
  refine ⟨_, PSs.nox (pss_one (ps_ret (pe_lc (own := [("_law_step", 1)]) (g := gName 1) (tt := tYes) (by rfl) sc_law_copied.nd (k_piL K rfl (pv 0)) (blkOk_by (own := [("_law_step", 1)]) (N := N_law_copied) (sc := defScope s_law_copied) (by decide +kernel)) (fun _ _ _ _ _ => (pg_name (i := 1) sc_law_copied.nd rfl (by first | exact Or.inl rfl | exact Or.inr rfl))) (fun _ _ _ _ _ => pts_nil) (fun _ _ _ _ _ => (pe_ifExp (pt_cmpR op_eq (pe_ix (k_ixT K rfl) (pv 1) pe_int (fun _ _ => rfl)) pe_str (nomark _)) (pe_tup (pa_cons (pe_ix (k_ixT K rfl) (pv 1) pe_int (fun _ _ => rfl)) (pa_cons (pe_ix (k_ixT K rfl) (pv 1) pe_int (fun _ _ => rfl)) (pa_cons (pe_callTy (k_listOf K rfl) (by rfl) T.n_list (by decide +kernel) (pa_cons (pe_ix (k_ixT K rfl) (pv 1) pe_int (fun _ _ => rfl)) pa_nil)) (pa_cons (pe_ix (k_ixT K rfl) (pv 1) pe_int (fun _ _ => rfl)) pa_nil))))) (pv 1)))))), ?_⟩
  obtain ⟨us, hp, hv⟩ := hS
  have hvl := hv.len
  refine ⟨_, rfl, p, rfl, ⟨_, .inl (.inl hp)⟩, fun D nD => ?_⟩
  refine lc_stp (K := K) (xs := us) (ss := ss) (fun H1 => StepV (fun l => l ≠ D ∧ H l = none) H1) step_off nD (.inl (.inl hp)) hvl (small1000 (by omega)) (fun x => rfl) ?_ ?_
  · intro i y s H' hy hs s' ⟨zs, hD⟩ Qt qt
    obtain ⟨s2, hs2, hys⟩ := hv.get hy
    rw [hs] at hs2
    cases hs2
    have nDH : ∀ {l : Addr}, H' l = none → l ≠ D ∧ H l = none := fun n => ⟨fun z => (by rw [z, hD] at n; cases n), s'.free n⟩
    walk_at "go"
    cases s with
    | turn i =>
      obtain ⟨t, rfl, ht⟩ := hys
      have hT : SqT K H' t [sT, .int i] := .inl (.inl (s' _ _ ht))
      refine ⟨t, _, _, _, rfl, rfl, hT, rfl, rfl, _, rfl, iteDF (by decide) ?_⟩
      exact ⟨_, rfl, qt _ _ (Same.refl _) ⟨t, rfl, s' _ _ ht⟩⟩
    | swap i j =>
      obtain ⟨t, rfl, ht⟩ := hys
      have hT : SqT K H' t [sS, .int i, .int j] := .inl (.inl (s' _ _ ht))
      refine ⟨t, _, _, _, rfl, rfl, hT, rfl, rfl, _, rfl, iteDF (by decide) ?_⟩
      exact ⟨_, rfl, qt _ _ (Same.refl _) ⟨t, rfl, s' _ _ ht⟩⟩
    | lift b ws sh =>
      obtain ⟨t, l, rfl, ht, hl, _⟩ := hys
      have hT : SqT K H' t [sL, .int b, .ref l, .int sh] := .inl (.inl (s' _ _ ht))
      refine ⟨t, _, _, _, rfl, rfl, hT, rfl, rfl, _, rfl, iteDT rfl ?_⟩
      refine ⟨_, rfl, t, _, _, _, rfl, rfl, hT, rfl, ?_⟩
      refine ⟨_, rfl, t, _, _, _, rfl, rfl, hT, rfl, ?_⟩
      refine ⟨_, rfl, t, _, _, _, rfl, rfl, hT, rfl, ?_⟩
      refine ⟨l, _, rfl, .inl (.inl (.inl (s' _ _ hl))), fun p np => ?_⟩
      obtain ⟨H1, e1, s1, h1⟩ := fresh (.lst (ws.map V.int)) np
      rw [e1]
      refine ⟨_, rfl, t, _, _, _, rfl, rfl, Same.tup s1 hT, rfl, (show 4 ≤ sizeLine by decide), fun p2 np2 => ?_⟩
      obtain ⟨H2, e2, s2, h2⟩ := fresh (.tup [sL, V.int b, .ref p, .int sh]) np2
      rw [e2]
      exact qt _ _ (s1.trans s2) ⟨p2, p, rfl, h2, s2 _ _ h1, nDH np⟩
  intro H3 ys s3 hD hys
  refine q _ D s3 nD ⟨ys, hD, hys.imp fun v s h => ?_⟩
  cases s with
  | turn i => exact h
  | swap i j => exact h
  | lift b ws sh =>
    obtain ⟨t, l, e, h1, h2, h3⟩ := h
    exact ⟨t, l, e, h1, h2, h3.2, _, h2⟩
end
end My

namespace My
open PySem PySem.Spec PyProof.Rows L2 Pre
/-- the lists at as are new since H0, none of them is f, and they hold the rows -/
def NewRows (H0 : Hp) (f : Addr) (H : Hp) (as : List Addr) (rows : List (List Int)) : Prop := as.length = rows.length ∧ ∀ (i : Nat) (a : Addr) (r : List Int), as[i]? = some a → rows[i]? = some r → H0 a = none ∧ a ≠ f ∧ H a = some (.lst (r.map V.int))
theorem NewRows.nil {H0 H : Hp} {f : Addr} : NewRows H0 f H [] [] := ⟨rfl, fun i a r h => by simp at h⟩
theorem NewRows.app {H0 H : Hp} {f : Addr} {as bs : List Addr} {xs ys : List (List Int)} (h : NewRows H0 f H as xs) (k : NewRows H0 f H bs ys) : NewRows H0 f H (as ++ bs) (xs ++ ys) := by
  refine ⟨by rw [List.length_append, List.length_append, h.1, k.1], fun i a r ha hr => ?_⟩
  by_cases c : i < as.length
  · rw [List.getElem?_append_left c] at ha
    rw [List.getElem?_append_left (by rw [← h.1]; exact c)] at hr
    exact h.2 i a r ha hr
  · rw [List.getElem?_append_right (by omega)] at ha
    rw [List.getElem?_append_right (by rw [← h.1]; omega), ← h.1] at hr
    exact k.2 _ a r ha hr
theorem NewRows.one {H0 H : Hp} {f p : Addr} {r : List Int} (h1 : H0 p = none) (h2 : p ≠ f) (h3 : H p = some (.lst (r.map V.int))) : NewRows H0 f H [p] [r] := by
  refine ⟨rfl, fun i a q ha hq => ?_⟩
  cases i with
  | zero =>
    rw [List.getElem?_cons_zero] at ha hq
    cases ha
    cases hq
    exact ⟨h1, h2, h3⟩
  | succ i => simp at ha
/-- all but f stand -/
theorem NewRows.but {H0 H H' : Hp} {f : Addr} {as : List Addr} {rows : List (List Int)} (h : NewRows H0 f H as rows) (s : ∀ b o, b ≠ f → H b = some o → H' b = some o) : NewRows H0 f H' as rows :=
  ⟨h.1, fun i a r ha hr => by
    obtain ⟨a1, a2, a3⟩ := h.2 i a r ha hr
    exact ⟨a1, a2, s _ _ a2 a3⟩⟩
/-- another base, another one that it is not -/
theorem NewRows.base {H0 H1 H : Hp} {f g : Addr} {as : List Addr} {rows : List (List Int)} (h : NewRows H1 f H as rows) (s : Same H0 H1) (n : H1 g ≠ none) : NewRows H0 g H as rows :=
  ⟨h.1, fun i a r ha hr => by
    obtain ⟨a1, a2, a3⟩ := h.2 i a r ha hr
    exact ⟨s.free a1, fun z => n (by rw [← z]; exact a1), a3⟩⟩
theorem NewRows.rows {H0 H : Hp} {f p : Addr} {as : List Addr} {rows : List (List Int)} (h : NewRows H0 f H as rows) (hp : H p = some (.lst (as.map V.ref))) : RowsIn H p rows := ⟨as, hp, h.1, fun i a r ha hr => (h.2 i a r ha hr).2.2⟩
theorem ne_rows {K : PySem.W.Frag} {H : Hp} {p q : Addr} {xs ys : List (List Int)} {Q : V → Hp → Prop} (hp : RowsIn H p xs) (hq : RowsIn H q ys) (e : xs = ys) (k : Q (.bl false) H) : rNeD K (.ref p) (.ref q) H Q := by
  subst e
  obtain ⟨as, h1, h2, h3⟩ := hp
  obtain ⟨bs, k1, k2, k3⟩ := hq
  refine ⟨.list (xs.map rowD), .list (xs.map rowD), .lst (.inl (.inl h1)) (rows_dp h2 h3), .lst (.inl (.inl k1)) (rows_dp k2 k3), rows_shaped xs, rows_shaped xs, ?_⟩
  rw [SeqAt.eqv_refl _ (Bool.and_eq_true_iff.mp (rows_shaped xs)).1]
  exact k
theorem eq_rows {K : PySem.W.Frag} {H : Hp} {p q : Addr} {xs ys : List (List Int)} {Q : V → Hp → Prop} (hp : RowsIn H p xs) (hq : RowsIn H q ys) (e : xs = ys) (k : Q (.bl true) H) : rEqD K (.ref p) (.ref q) H Q := by
  subst e
  obtain ⟨as, h1, h2, h3⟩ := hp
  obtain ⟨bs, k1, k2, k3⟩ := hq
  refine ⟨.list (xs.map rowD), .list (xs.map rowD), .lst (.inl (.inl h1)) (rows_dp h2 h3), .lst (.inl (.inl k1)) (rows_dp k2 k3), rows_shaped xs, rows_shaped xs, ?_⟩
  rw [SeqAt.eqv_refl _ (Bool.and_eq_true_iff.mp (rows_shaped xs)).1]
  exact k
/-- a comprehension that makes new lists of whole numbers -/
theorem lc_rowsL {K : PySem.W.Frag} {a : Addr} {xs : List V} {j : Nat} {tt : TT} {te : TE} {vs : List Nat} {σ : L2.St} {H1 : Hp} {D : Addr} {Qd : Hp → Prop} (sel : List (Option (List Int))) (nD : H1 D = none) (hS : SqL K H1 a xs) (hlen : sel.length = xs.length) (hz : xs.length < sizeLine)
    (hw : ∀ x, wipe ((wipe σ vs).set j (some x)) vs = wipe σ vs)
    (hs : ∀ (i : Nat) (x : V) (o : Option (List Int)) (H' : Hp), xs[i]? = some x → sel[i]? = some o → Same H1 H' → ∀ Qt : Option V → Hp → Prop, (o = none → ∀ H'', Same H' H'' → Qt none H'') → (∀ r, o = some r → ∀ p H'', Same H' H'' → H' p = none → H'' p = some (.lst (r.map V.int)) → Qt (some (.ref p)) H'') →
      tt ((wipe σ vs).set j (some x)) H' fun b H3 => if b = true then te ((wipe σ vs).set j (some x)) H3 fun y H4 => Qt (some y) H4 else Qt none H3)
    (hd : ∀ H' as, Same H1 H' → H' D = some (.lst (as.map V.ref)) → NewRows H1 D H' as (sel.filterMap id) → Qd H') :
    ∃ W : Nat → Nat → Hp → Prop, (∃ m, W 0 m (upd H1 D (.lst []))) ∧ ∀ i m H, W i m H →
      ((Itl K a).stop i H ∧ Qd H) ∨ ((Itl K a).go i H ∧ ∃ Nx : Hp → Prop, (∀ H', Nx H' → ∃ m', m' < m ∧ W (i + 1) m' H') ∧ ∀ x H', (Itl K a).yld i H x H' → gName j x (wipe σ vs) H' fun σ2 H2 => wipe σ2 vs = wipe σ vs ∧ tt σ2 H2 fun b H3 =>
        if b = true then te σ2 H3 fun y H4 => ∃ acc, H4 D = some (.lst acc) ∧ acc.length < sizeLine ∧ Nx (upd H4 D (.lst (acc ++ [y]))) else Nx H3) := by
  refine lc_list (K := K) (a := a) (xs := xs) (fun i H => Same H1 H ∧ ∃ as, H D = some (.lst (as.map V.ref)) ∧ NewRows H1 D H as ((sel.take i).filterMap id)) ⟨same_upd nD, [], upd_same, .nil⟩ (fun i H _ p => p.1.seq hS) ?_ ?_
  · rintro i x H hx ⟨s, as, hD, hN⟩
    refine ⟨hw x, ?_⟩
    have hi : i < sel.length := by rw [hlen]; exact (List.getElem?_eq_some_iff.mp hx).1
    have ho : sel[i]? = some sel[i] := List.getElem?_eq_getElem hi
    have hl : (as.map V.ref).length < sizeLine := by
      rw [List.length_map, hN.1]
      exact Nat.lt_of_le_of_lt (fm_len sel i) (by omega)
    have h := hs i x sel[i] H hx ho s
    generalize sel[i] = o at ho h
    cases o with
    | none =>
      refine h (fun y H4 => match y with | some y => ∃ acc, H4 D = some (.lst acc) ∧ acc.length < sizeLine ∧ (Same H1 (upd H4 D (.lst (acc ++ [y]))) ∧ ∃ as, (upd H4 D (.lst (acc ++ [y]))) D = some (.lst (as.map V.ref)) ∧ NewRows H1 D (upd H4 D (.lst (acc ++ [y]))) as ((sel.take (i + 1)).filterMap id)) | none => Same H1 H4 ∧ ∃ as, H4 D = some (.lst (as.map V.ref)) ∧ NewRows H1 D H4 as ((sel.take (i + 1)).filterMap id)) (fun _ H4 s4 => ?_) (fun r z => by cases z)
      refine ⟨s.trans s4, as, s4 _ _ hD, ?_⟩
      rw [take_fm ho]
      simp only [Option.toList, List.append_nil]
      exact hN.but fun b o _ hb => s4 _ _ hb
    | some r =>
      refine h (fun y H4 => match y with | some y => ∃ acc, H4 D = some (.lst acc) ∧ acc.length < sizeLine ∧ (Same H1 (upd H4 D (.lst (acc ++ [y]))) ∧ ∃ as, (upd H4 D (.lst (acc ++ [y]))) D = some (.lst (as.map V.ref)) ∧ NewRows H1 D (upd H4 D (.lst (acc ++ [y]))) as ((sel.take (i + 1)).filterMap id)) | none => Same H1 H4 ∧ ∃ as, H4 D = some (.lst (as.map V.ref)) ∧ NewRows H1 D H4 as ((sel.take (i + 1)).filterMap id)) (fun z => by cases z) (fun r' z p H4 s4 np hp => ?_)
      cases z
      refine ⟨_, s4 _ _ hD, hl, same_over nD (s.trans s4), as ++ [p], by rw [upd_same, List.map_append]; rfl, ?_⟩
      rw [take_fm ho]
      have npD : p ≠ D := (ne_of_none hD np).symm
      refine (NewRows.app (hN.but fun b o _ hb => s4 _ _ hb) (NewRows.one (s.free np) npD hp)).but fun b o nb hb => by rw [upd_ne nb]; exact hb
  · rintro H ⟨s, as, hD, hN⟩
    rw [← hlen, List.take_length] at hN
    exact hd H as s hD hN
end My

namespace My
/-! ### two mixers alike on all rests are alike on all rows -/
def linesF (m : Nat) (M : List (List Int)) : List (List Int) := M.map fun l => l.map fun x => x * 2 ^ m
/-- all rows of n of the values -/
def listsF (vals : List Int) : Nat → List (List Int)
  | 0 => [[]]
  | k + 1 => (listsF vals k).flatMap fun row => vals.map fun v => row ++ [v]
def rngI (lo : Int) (n : Nat) : List Int := (List.range n).map fun (i : Nat) => lo + (i : Int)
theorem mem_rngI {lo : Int} {n : Nat} {x : Int} : x ∈ rngI lo n ↔ lo ≤ x ∧ x < lo + n := by
  unfold rngI
  rw [List.mem_map]
  constructor
  · rintro ⟨i, hi, rfl⟩
    have := List.mem_range.mp hi
    omega
  · rintro ⟨h1, h2⟩
    exact ⟨(x - lo).toNat, List.mem_range.mpr (by omega), by omega⟩
theorem mem_listsF {vals : List Int} : ∀ {n : Nat} {x : List Int}, x ∈ listsF vals n ↔ x.length = n ∧ ∀ v ∈ x, v ∈ vals
  | 0, x => by
    show x ∈ [[]] ↔ _
    rw [List.mem_singleton]
    constructor
    · rintro rfl
      exact ⟨rfl, fun v h => nomatch h⟩
    · intro h
      exact List.length_eq_zero_iff.mp h.1
  | n + 1, x => by
    show x ∈ (listsF vals n).flatMap _ ↔ _
    rw [List.mem_flatMap]
    constructor
    · rintro ⟨row, hr, hx⟩
      obtain ⟨v, hv, rfl⟩ := List.mem_map.mp hx
      obtain ⟨h1, h2⟩ := mem_listsF.mp hr
      refine ⟨by rw [List.length_append, h1]; rfl, fun w hw => ?_⟩
      rcases List.mem_append.mp hw with h | h
      · exact h2 w h
      · rw [List.mem_singleton.mp h]
        exact hv
    · rintro ⟨h1, h2⟩
      have hne : x ≠ [] := fun z => by rw [z] at h1; simp at h1
      refine ⟨x.dropLast, mem_listsF.mpr ⟨by rw [List.length_dropLast, h1]; rfl, fun v hv => h2 v (List.dropLast_subset _ hv)⟩, List.mem_map.mpr ⟨x.getLast hne, h2 _ (List.getLast_mem hne), List.dropLast_concat_getLast hne⟩⟩
theorem len_listsF (vals : List Int) : ∀ n : Nat, (listsF vals n).length = vals.length ^ n
  | 0 => rfl
  | n + 1 => by
    show ((listsF vals n).flatMap fun row => vals.map fun v => row ++ [v]).length = _
    rw [List.length_flatMap]
    have e : (listsF vals n).map (fun row => (vals.map fun v => row ++ [v]).length) = List.replicate (listsF vals n).length vals.length := by
      apply List.ext_getElem
      · simp
      · intro i h1 h2
        simp
    rw [e, List.sum_replicate_nat, len_listsF vals n, Nat.pow_succ]
/-! #### the two directions -/
def sameOn (A B : List Step) (rows : List (List Int)) : Bool := rows.all fun r => decide (playF A r = playF B r)
def alikeF (n : Nat) (A B : List Step) : Bool := decide (linesF (bitsS B) (numF n A) = linesF (bitsS A) (numF n B)) && sameOn A B (listsF (rngI 0 (2 ^ max (bitsS A) (bitsS B))) n)
theorem sameOn_iff {A B : List Step} {rows : List (List Int)} : sameOn A B rows = true ↔ ∀ r ∈ rows, playF A r = playF B r := by
  unfold sameOn
  rw [List.all_eq_true]
  exact ⟨fun h r hr => of_decide_eq_true (h r hr), fun h r hr => decide_eq_true (h r hr)⟩
theorem dot_pow {m k : Nat} {a b y : List Int} (h : (a.map fun x => x * 2 ^ m) = b.map fun x => x * 2 ^ k) : dotP a y * 2 ^ m = dotP b y * 2 ^ k := by
  rw [← dot_mulr, ← dot_mulr, h]
theorem lines_getD {m : Nat} {M : List (List Int)} {i : Nat} : (linesF m M).getD i [] = (M.getD i []).map fun x => x * 2 ^ m := by
  unfold linesF
  rw [List.getD_eq_getElem?_getD, List.getElem?_map, List.getD_eq_getElem?_getD]
  cases M[i]? with
  | none => rfl
  | some l => rfl
theorem pow_parts {a b : Nat} (h : a ≤ b) : (2 : Int) ^ b = 2 ^ a * 2 ^ (b - a) := by
  rw [← Int.pow_add]
  congr 1
  omega
theorem pow_ne (a : Nat) : (2 : Int) ^ a ≠ 0 := Int.ne_of_gt (Int.pow_pos (by decide))
/-- the parts behind 2 ^ m of both -/
theorem parts_eq {a b : Nat} {u v : Int} : u * 2 ^ b = v * 2 ^ a ↔ 2 ^ (max a b - a) * u = 2 ^ (max a b - b) * v := by
  rcases Nat.le_total a b with h | h
  · rw [Nat.max_eq_right h, Nat.sub_self, Int.pow_zero, Int.one_mul, pow_parts h]
    constructor
    · intro e
      have e2 : (2 : Int) ^ a * (2 ^ (b - a) * u) = 2 ^ a * v := by
        rw [← Int.mul_assoc, Int.mul_comm _ u, e, Int.mul_comm]
      exact Int.eq_of_mul_eq_mul_left (pow_ne a) e2
    · intro e
      rw [← e, Int.mul_comm u, Int.mul_assoc, Int.mul_comm]
  · rw [Nat.max_eq_left h, Nat.sub_self, Int.pow_zero, Int.one_mul, pow_parts h]
    constructor
    · intro e
      have e2 : (2 : Int) ^ b * u = 2 ^ b * (2 ^ (a - b) * v) := by
        rw [Int.mul_comm, e, ← Int.mul_assoc, Int.mul_comm v, Int.mul_assoc, Int.mul_comm v]
      exact Int.eq_of_mul_eq_mul_left (pow_ne b) e2
    · intro e
      rw [e, Int.mul_comm (2 ^ (a - b)) v, Int.mul_assoc, Int.mul_comm (2 ^ (a - b)) (2 ^ b)]
theorem num_len {n : Nat} {A : List Step} (hA : ∀ s ∈ A, s.ok n) : Sq n (numF n A) := num_sq hA (unit_sq n)
theorem play_far {n : Nat} {A : List Step} {m : Nat} {x y : List Int} (hA : ∀ s ∈ A, s.ok n) (hm : bitsS A ≤ m) (hx : x.length = n) (hy : y.length = n) : playF A (addM x (2 ^ m) y) = addM (playF A x) (2 ^ (m - bitsS A)) (mulV (numF n A) y) := by
  rw [pow_parts hm]
  exact play_add _ hA hx hy
theorem alike_all {n : Nat} {A B : List Step} (hA : ∀ s ∈ A, s.ok n) (hB : ∀ s ∈ B, s.ok n) (h : alikeF n A B = true) {x : List Int} (hx : x.length = n) : playF A x = playF B x := by
  unfold alikeF at h
  rw [Bool.and_eq_true] at h
  obtain ⟨h1, h2⟩ := h
  have h1 := of_decide_eq_true h1
  have h2 := sameOn_iff.mp h2
  generalize hm : max (bitsS A) (bitsS B) = m at h2
  have p0 : (0 : Int) < 2 ^ m := Int.pow_pos (by decide)
  have er : (x.map fun v => v % 2 ^ m).length = n := by rw [List.length_map, hx]
  have eq : (x.map fun v => v / 2 ^ m).length = n := by rw [List.length_map, hx]
  have ex : x = addM (x.map fun v => v % 2 ^ m) (2 ^ m) (x.map fun v => v / 2 ^ m) := by
    refine ext_getD (by rw [addM_len (by rw [er, eq]), List.length_map]) fun i hi => ?_
    rw [addM_getD (by rw [er, eq])]
    have e1 : ∀ f : Int → Int, (x.map f).getD i 0 = f (x.getD i 0) := fun f => by
      rw [List.getD_eq_getElem?_getD, List.getElem?_map, List.getD_eq_getElem?_getD, List.getElem?_eq_getElem hi]
      rfl
    rw [e1 (fun v => v % 2 ^ m), e1 (fun v => v / 2 ^ m)]
    exact (Int.emod_add_mul_ediv _ _).symm
  have hr := h2 (x.map fun v => v % 2 ^ m) (mem_listsF.mpr ⟨er, fun v hv => by
    obtain ⟨w, _, rfl⟩ := List.mem_map.mp hv
    refine mem_rngI.mpr ⟨Int.emod_nonneg _ (Int.ne_of_gt p0), ?_⟩
    have := Int.emod_lt_of_pos w p0
    rw [Int.natCast_pow]
    show w % 2 ^ m < 0 + (2 : Int) ^ m
    omega⟩)
  rw [ex, play_far hA (by omega) er eq, play_far hB (by omega) er eq, hr]
  have lA := num_len hA
  have lB := num_len hB
  refine ext_getD (by rw [addM_len (by rw [play_len, mulV_len, lA.1, er]), addM_len (by rw [play_len, mulV_len, lB.1, er])]) fun i hi => ?_
  rw [addM_getD (by rw [play_len, mulV_len, lA.1, er]), addM_getD (by rw [play_len, mulV_len, lB.1, er]), mul_getD, mul_getD]
  have el : (linesF (bitsS B) (numF n A)).getD i [] = (linesF (bitsS A) (numF n B)).getD i [] := by rw [h1]
  rw [lines_getD, lines_getD] at el
  have := parts_eq.mp (dot_pow (y := x.map fun v => v / 2 ^ m) el)
  rw [hm] at this
  rw [this]
theorem dot_one {n : Nat} {l : List Int} (hl : l.length = n) (j : Nat) (hj : j < n) : dotP l ((List.range' 0 n).map fun k => if j = k then (1 : Int) else 0) = l.getD j 0 := by
  have comm : ∀ a b : List Int, dotP a b = dotP b a := by
    intro a
    induction a with
    | nil => intro b; cases b <;> rfl
    | cons x a ih =>
      intro b
      cases b with
      | nil => rfl
      | cons z b =>
        show x * z + dotP a b = z * x + dotP b a
        rw [ih, Int.mul_comm]
  rw [comm, dot_unit n 0 l hl, if_pos (Nat.zero_le _), Nat.sub_zero]
theorem alike_of_box {n : Nat} {A B : List Step} (hA : ∀ s ∈ A, s.ok n) (hB : ∀ s ∈ B, s.ok n) (h : sameOn A B (listsF (rngI 0 (2 ^ max (bitsS A) (bitsS B) + 1)) n) = true) : alikeF n A B = true := by
  have h2 := sameOn_iff.mp h
  unfold alikeF
  generalize hm : max (bitsS A) (bitsS B) = m at h2
  have p0 : (0 : Int) < 2 ^ m := Int.pow_pos (by decide)
  have pc : ((2 ^ m : Nat) : Int) = 2 ^ m := by rw [Int.natCast_pow]; rfl
  have lA := num_len hA
  have lB := num_len hB
  rw [Bool.and_eq_true]
  refine ⟨decide_eq_true ?_, sameOn_iff.mpr fun r hr => h2 r ?_⟩
  · have entry : ∀ i j, i < n → j < n → ((numF n A).getD i []).getD j 0 * 2 ^ bitsS B = ((numF n B).getD i []).getD j 0 * 2 ^ bitsS A := fun i j hi hj => by
      have hz : (List.replicate n (0 : Int)).length = n := List.length_replicate
      have hu : ((List.range' 0 n).map fun k => if j = k then (1 : Int) else 0).length = n := by rw [List.length_map, List.length_range']
      have z0 := h2 (List.replicate n 0) (mem_listsF.mpr ⟨hz, fun v hv => by
        rw [List.eq_of_mem_replicate hv]
        exact mem_rngI.mpr ⟨by omega, by omega⟩⟩)
      have z1 := h2 (addM (List.replicate n 0) (2 ^ m) ((List.range' 0 n).map fun k => if j = k then (1 : Int) else 0)) (mem_listsF.mpr ⟨by rw [addM_len (by rw [hz, hu]), hz], fun v hv => by
        obtain ⟨k, hk, rfl⟩ := List.mem_iff_getElem.mp hv
        have hk' : k < n := by
          rw [addM_len (by rw [hz, hu]), hz] at hk
          exact hk
        have e : (addM (List.replicate n 0) (2 ^ m) ((List.range' 0 n).map fun k => if j = k then (1 : Int) else 0))[k] = (List.replicate n (0 : Int)).getD k 0 + 2 ^ m * ((List.range' 0 n).map fun k => if j = k then (1 : Int) else 0).getD k 0 := by
          rw [← addM_getD (by rw [hz, hu]) k, List.getD_eq_getElem?_getD, List.getElem?_eq_getElem hk]
          rfl
        rw [e]
        have e0 : (List.replicate n (0 : Int)).getD k 0 = 0 := by
          rw [List.getD_eq_getElem?_getD, List.getElem?_replicate, if_pos hk']
          rfl
        have e1 : ((List.range' 0 n).map fun k => if j = k then (1 : Int) else 0).getD k 0 = if j = k then 1 else 0 := by
          rw [List.getD_eq_getElem?_getD, List.getElem?_map, List.getElem?_range' (by omega)]
          simp
        rw [e0, e1]
        by_cases c : j = k
        · rw [if_pos c]
          exact mem_rngI.mpr ⟨by omega, by omega⟩
        · rw [if_neg c]
          exact mem_rngI.mpr ⟨by omega, by omega⟩⟩)
      rw [play_far hA (by omega) hz hu, play_far hB (by omega) hz hu, z0] at z1
      have z2 : ∀ u v : List Int, u = v → u.getD i 0 = v.getD i 0 := fun u v e => by rw [e]
      have z3 := z2 _ _ z1
      rw [addM_getD (by rw [play_len, mulV_len, lA.1, hz]), addM_getD (by rw [play_len, mulV_len, lB.1, hz]), mul_getD, mul_getD, dot_one (lA.2 _ (getD_mem (by rw [lA.1]; exact hi))) j hj, dot_one (lB.2 _ (getD_mem (by rw [lB.1]; exact hi))) j hj] at z3
      refine parts_eq.mpr ?_
      rw [hm]
      omega
    unfold linesF
    apply List.ext_getElem
    · rw [List.length_map, List.length_map, lA.1, lB.1]
    · intro i h1 h3
      have hi : i < n := by
        have := h1
        rw [List.length_map, lA.1] at this
        exact this
      have iA : i < (numF n A).length := by rw [lA.1]; exact hi
      have iB : i < (numF n B).length := by rw [lB.1]; exact hi
      have la : (numF n A)[i].length = n := lA.2 _ (List.getElem_mem iA)
      have lb : (numF n B)[i].length = n := lB.2 _ (List.getElem_mem iB)
      rw [List.getElem_map, List.getElem_map]
      apply List.ext_getElem
      · exact (List.length_map _).trans (la.trans (lb.symm.trans (List.length_map _).symm))
      · intro j h4 h5
        have hj : j < n := Nat.lt_of_lt_of_eq h4 ((List.length_map _).trans la)
        rw [List.getElem_map, List.getElem_map]
        have := entry i j hi hj
        rw [List.getD_eq_getElem?_getD, List.getD_eq_getElem?_getD, List.getElem?_eq_getElem iA] at this
        rw [List.getD_eq_getElem?_getD, List.getD_eq_getElem?_getD, List.getElem?_eq_getElem iB] at this
        simp only [Option.getD_some] at this
        rw [List.getElem?_eq_getElem (show j < (numF n A)[i].length by rw [la]; exact hj), List.getElem?_eq_getElem (show j < (numF n B)[i].length by rw [lb]; exact hj)] at this
        exact this
  · obtain ⟨h3, h4⟩ := mem_listsF.mp hr
    exact mem_listsF.mpr ⟨h3, fun v hv => by
      obtain ⟨h5, h6⟩ := mem_rngI.mp (h4 v hv)
      exact mem_rngI.mpr ⟨h5, by omega⟩⟩
/-- alike on the box, with its ends, or alike by the lines and all rests: the same -/
theorem alike_box {n : Nat} {A B : List Step} (hA : ∀ s ∈ A, s.ok n) (hB : ∀ s ∈ B, s.ok n) : sameOn A B (listsF (rngI 0 (2 ^ max (bitsS A) (bitsS B) + 1)) n) = alikeF n A B := by
  cases e : alikeF n A B with
  | true => exact sameOn_iff.mpr fun r hr => alike_all hA hB e (mem_listsF.mp hr).1
  | false =>
    cases e2 : sameOn A B (listsF (rngI 0 (2 ^ max (bitsS A) (bitsS B) + 1)) n) with
    | false => rfl
    | true =>
      rw [alike_of_box hA hB e2] at e
      cases e
theorem alike_comm {n : Nat} {A B : List Step} (hA : ∀ s ∈ A, s.ok n) (hB : ∀ s ∈ B, s.ok n) : alikeF n A B = alikeF n B A := by
  rw [← alike_box hA hB, ← alike_box hB hA, Nat.max_comm]
  unfold sameOn
  congr 1
  funext r
  exact decide_eq_decide.mpr eq_comm
/-! #### the first row that parts them -/
def maxAbs (r : List Int) : Nat := r.foldl (fun m v => max m v.natAbs) 0
def sizeRows (n size : Nat) : List (List Int) := (listsF (rngI (-(size : Int)) (2 * size + 1)) n).filter fun r => decide (maxAbs r = size)
def firstF (n : Nat) (A B : List Step) (top : Nat) : Option (List Int) := ((List.range (top + 1)).flatMap (sizeRows n)).find? fun r => decide (playF A r ≠ playF B r)
theorem foldl_max : ∀ (r : List Int) (m : Nat), r.foldl (fun m v => max m v.natAbs) m = max m (maxAbs r)
  | [], m => by simp [maxAbs]
  | v :: r, m => by
    have e : maxAbs (v :: r) = max v.natAbs (maxAbs r) := by
      show r.foldl (fun m v => max m v.natAbs) (max 0 v.natAbs) = _
      rw [foldl_max r, Nat.zero_max]
    rw [List.foldl_cons, foldl_max r, e]
    omega
theorem maxAbs_le {r : List Int} {v : Int} : v ∈ r → v.natAbs ≤ maxAbs r := by
  induction r with
  | nil => intro h; cases h
  | cons w r ih =>
    intro h
    have e : maxAbs (w :: r) = max w.natAbs (maxAbs r) := by
      show r.foldl (fun m v => max m v.natAbs) (max 0 w.natAbs) = _
      rw [foldl_max r, Nat.zero_max]
    rcases List.mem_cons.mp h with rfl | h
    · omega
    · have := ih h
      omega
theorem maxAbs_bound {r : List Int} {m : Nat} (h : ∀ v ∈ r, v.natAbs ≤ m) : maxAbs r ≤ m := by
  induction r with
  | nil => exact Nat.zero_le _
  | cons w r ih =>
    have e : maxAbs (w :: r) = max w.natAbs (maxAbs r) := by
      show r.foldl (fun m v => max m v.natAbs) (max 0 w.natAbs) = _
      rw [foldl_max r, Nat.zero_max]
    have h1 := h w List.mem_cons_self
    have h2 := ih fun v hv => h v (List.mem_cons_of_mem _ hv)
    omega
theorem first_some {n : Nat} {A B : List Step} (hA : ∀ s ∈ A, s.ok n) (hB : ∀ s ∈ B, s.ok n) (h : alikeF n A B = false) : ∃ r, firstF n A B (2 ^ max (bitsS A) (bitsS B)) = some r ∧ r.length = n := by
  cases e : firstF n A B (2 ^ max (bitsS A) (bitsS B)) with
  | some r =>
    refine ⟨r, rfl, ?_⟩
    obtain ⟨k, _, hr⟩ := List.mem_flatMap.mp (List.mem_of_find?_eq_some e)
    exact (mem_listsF.mp (List.mem_filter.mp hr).1).1
  | none =>
    exfalso
    rw [← alike_box hA hB] at h
    have : sameOn A B (listsF (rngI 0 (2 ^ max (bitsS A) (bitsS B) + 1)) n) = true := sameOn_iff.mpr fun r hr => by
      obtain ⟨h1, h2⟩ := mem_listsF.mp hr
      have hb : ∀ v ∈ r, v.natAbs ≤ 2 ^ max (bitsS A) (bitsS B) := fun v hv => by
        have := mem_rngI.mp (h2 v hv)
        omega
      have hle := maxAbs_bound hb
      have hmem : r ∈ (List.range (2 ^ max (bitsS A) (bitsS B) + 1)).flatMap (sizeRows n) := List.mem_flatMap.mpr ⟨maxAbs r, List.mem_range.mpr (by omega), List.mem_filter.mpr ⟨mem_listsF.mpr ⟨h1, fun v hv => mem_rngI.mpr (by have := maxAbs_le hv; omega)⟩, decide_eq_true rfl⟩⟩
      have := List.find?_eq_none.mp e r hmem
      rw [decide_eq_true_eq] at this
      exact Decidable.not_not.mp this
    rw [this] at h
    cases h
theorem first_comm {n : Nat} {A B : List Step} (top : Nat) : firstF n A B top = firstF n B A top := by
  unfold firstF
  congr 1
  funext r
  exact decide_eq_decide.mpr ⟨fun h e => h e.symm, fun h e => h e.symm⟩
end My

namespace My
open PySem PySem.Spec PyProof.Rows L2 Pre
/-! ### more on new lists of rows -/
theorem NewRows.get {H0 H : Hp} {f : Addr} {as : List Addr} {rows : List (List Int)} (h : NewRows H0 f H as rows) {i : Nat} (hi : i < rows.length) : ∃ a r, as[i]? = some a ∧ rows[i]? = some r ∧ H0 a = none ∧ a ≠ f ∧ H a = some (.lst (r.map V.int)) := by
  have h1 : as[i]? = some (as[i]'(by rw [h.1]; exact hi)) := List.getElem?_eq_getElem _
  have h2 : rows[i]? = some rows[i] := List.getElem?_eq_getElem hi
  exact ⟨_, _, h1, h2, h.2 i _ _ h1 h2⟩
theorem NewRows.older {H0 H1 H : Hp} {f : Addr} {as : List Addr} {rows : List (List Int)} (h : NewRows H1 f H as rows) (s : Same H0 H1) : NewRows H0 f H as rows :=
  ⟨h.1, fun i a r ha hr => by
    obtain ⟨a1, a2, a3⟩ := h.2 i a r ha hr
    exact ⟨s.free a1, a2, a3⟩⟩
theorem NewRows.set {H0 H : Hp} {f b : Addr} {as : List Addr} {rows : List (List Int)} {r : List Int} (h : NewRows H0 f H as rows) (i : Nat) (h1 : H0 b = none) (h2 : b ≠ f) (h3 : H b = some (.lst (r.map V.int))) : NewRows H0 f H (as.set i b) (rows.set i r) := by
  refine ⟨by rw [List.length_set, List.length_set, h.1], fun k a q ha hq => ?_⟩
  rw [List.getElem?_set] at ha hq
  by_cases e : i = k
  · subst e
    rw [if_pos rfl] at ha hq
    by_cases c : i < as.length
    · rw [if_pos c] at ha
      rw [if_pos (by rw [← h.1]; exact c)] at hq
      cases ha
      cases hq
      exact ⟨h1, h2, h3⟩
    · rw [if_neg c] at ha
      cases ha
  · rw [if_neg e] at ha hq
    exact h.2 k a q ha hq
/-- the list of them is changed by other rows -/
theorem NewRows.upd {H0 H : Hp} {f : Addr} {as : List Addr} {rows : List (List Int)} {o : HO} (h : NewRows H0 f H as rows) : NewRows H0 f (upd H f o) as rows := h.but fun b o nb e => by rw [upd_ne nb]; exact e
/-- a comprehension over a range that makes new lists of whole numbers -/
theorem lc_rowsR {lo : Int} {n : Nat} {j : Nat} {te : TE} {vs : List Nat} {σ : L2.St} {H1 : Hp} {D : Addr} {Qd : Hp → Prop} (rows : List (List Int)) (nD : H1 D = none) (hlen : rows.length = n) (hz : n < sizeLine)
    (hw : ∀ x, wipe ((wipe σ vs).set j (some x)) vs = wipe σ vs)
    (hs : ∀ (i : Nat) (r : List Int) (H' : Hp), i < n → rows[i]? = some r → Same H1 H' → ∀ Qt : V → Hp → Prop, (∀ p H'', Same H' H'' → H' p = none → H'' p = some (.lst (r.map V.int)) → Qt (.ref p) H'') → te ((wipe σ vs).set j (some (.int (lo + (i : Int))))) H' Qt)
    (hd : ∀ H' as, Same H1 H' → H' D = some (.lst (as.map V.ref)) → NewRows H1 D H' as rows → Qd H') :
    ∃ W : Nat → Nat → Hp → Prop, (∃ m, W 0 m (upd H1 D (.lst []))) ∧ ∀ i m H, W i m H →
      ((Itr lo n).stop i H ∧ Qd H) ∨ ((Itr lo n).go i H ∧ ∃ Nx : Hp → Prop, (∀ H', Nx H' → ∃ m', m' < m ∧ W (i + 1) m' H') ∧ ∀ x H', (Itr lo n).yld i H x H' → gName j x (wipe σ vs) H' fun σ2 H2 => wipe σ2 vs = wipe σ vs ∧ tYes σ2 H2 fun b H3 =>
        if b = true then te σ2 H3 fun y H4 => ∃ acc, H4 D = some (.lst acc) ∧ acc.length < sizeLine ∧ Nx (upd H4 D (.lst (acc ++ [y]))) else Nx H3) := by
  refine lc_range (lo := lo) (n := n) (fun i H => Same H1 H ∧ ∃ as, H D = some (.lst (as.map V.ref)) ∧ NewRows H1 D H as (rows.take i)) ⟨same_upd nD, [], upd_same, .nil⟩ ?_ ?_
  · rintro i H hi ⟨s, as, hD, hN⟩
    refine ⟨hw _, ?_⟩
    unfold tYes
    dsimp only
    rw [if_pos (show true = true from rfl)]
    have hr : rows[i]? = some (rows[i]'(by omega)) := List.getElem?_eq_getElem (by omega)
    refine hs i _ H hi hr s _ fun p H4 s4 np hp => ?_
    have hl := hN.1
    rw [List.length_take] at hl
    have npD : p ≠ D := (ne_of_none hD np).symm
    refine ⟨_, s4 _ _ hD, by rw [List.length_map]; omega, same_over nD (s.trans s4), as ++ [p], by rw [upd_same, List.map_append]; rfl, ?_⟩
    rw [List.take_add_one, hr]
    exact (hN.but fun b o nb e => by rw [upd_ne nb]; exact s4 _ _ e).app (.one (s.free np) npD (by rw [upd_ne npD]; exact hp))
  · rintro H ⟨s, as, hD, hN⟩
    rw [← hlen, List.take_length] at hN
    exact hd H as s hD hN
/-- rows gone on by each number of a range: two clauses -/
theorem lc2_rows {K : PySem.W.Frag} {a : Addr} {rows : List (List Int)} {n : Nat} {lo : Int} {j j1 : Nat} {wi1 : TI} {te : TE} {vs vs1 : List Nat} {σ : L2.St} {H1 : Hp} {D : Addr} {Qd : Hp → Prop} (as : List Addr) (nD : H1 D = none) (hA : SqL K H1 a (as.map V.ref)) (hl : as.length = rows.length)
    (hr : ∀ (i : Nat) (b : Addr) (r : List Int), as[i]? = some b → rows[i]? = some r → H1 b = some (.lst (r.map V.int))) (hz : rows.length * n < sizeLine)
    (hw : ∀ x, wipe ((wipe σ vs).set j (some x)) vs = wipe σ vs) (hw1 : ∀ x y, wipe ((wipe ((wipe σ vs).set j (some x)) vs1).set j1 (some y)) vs1 = wipe ((wipe σ vs).set j (some x)) vs1)
    (hi : ∀ (x : V) (H' : Hp) (R : It → Hp → Prop), R (Itr lo n) H' → wi1 ((wipe σ vs).set j (some x)) H' R)
    (hs : ∀ (k : Nat) (b : Addr) (r : List Int) (H' : Hp), k < n → H' b = some (.lst (r.map V.int)) → r ∈ rows → ∀ Qt : V → Hp → Prop, (∀ p H'', Same H' H'' → H' p = none → H'' p = some (.lst ((r ++ [lo + (k : Int)]).map V.int)) → Qt (.ref p) H'') →
      te ((wipe ((wipe σ vs).set j (some (.ref b))) vs1).set j1 (some (.int (lo + (k : Int))))) H' Qt)
    (hd : ∀ H' bs, Same H1 H' → H' D = some (.lst (bs.map V.ref)) → NewRows H1 D H' bs (rows.flatMap fun r => (rngI lo n).map fun v => r ++ [v]) → Qd H') :
    ∃ W : Nat → Nat → Hp → Prop, (∃ m, W 0 m (upd H1 D (.lst []))) ∧ ∀ i m H, W i m H →
      ((Itl K a).stop i H ∧ Qd H) ∨ ((Itl K a).go i H ∧ ∃ Nx : Hp → Prop, (∀ H', Nx H' → ∃ m', m' < m ∧ W (i + 1) m' H') ∧ ∀ x H', (Itl K a).yld i H x H' → gName j x (wipe σ vs) H' fun σ2 H2 => wipe σ2 vs = wipe σ vs ∧ tYes σ2 H2 fun b H3 =>
        if b = true then wi1 σ2 H3 fun J1 H4 => ∃ W1 : Nat → Nat → Hp → Prop, (∃ m, W1 0 m H4) ∧ ∀ j k H, W1 j k H →
          (J1.stop j H ∧ Nx H) ∨ (J1.go j H ∧ ∃ Nx1 : Hp → Prop, (∀ H', Nx1 H' → ∃ k', k' < k ∧ W1 (j + 1) k' H') ∧ ∀ x H', J1.yld j H x H' → gName j1 x (wipe σ2 vs1) H' fun σ3 H5 => wipe σ3 vs1 = wipe σ2 vs1 ∧ tYes σ3 H5 fun b H6 =>
            if b = true then te σ3 H6 fun y H7 => ∃ acc, H7 D = some (.lst acc) ∧ acc.length < sizeLine ∧ Nx1 (upd H7 D (.lst (acc ++ [y]))) else Nx1 H6)
        else Nx H3) := by
  have flen : ∀ xs : List (List Int), (xs.flatMap fun r => (rngI lo n).map fun v => r ++ [v]).length = xs.length * n := fun xs => by
    rw [List.length_flatMap]
    have e : xs.map (fun r => ((rngI lo n).map fun v => r ++ [v]).length) = List.replicate xs.length n := by
      apply List.ext_getElem
      · simp
      · intro i h1 h2
        simp [rngI]
    rw [e, List.sum_replicate_nat]
  let S : Nat → Nat → Hp → Prop := fun i k H => Same H1 H ∧ ∃ bs, H D = some (.lst (bs.map V.ref)) ∧ NewRows H1 D H bs ((rows.take i).flatMap (fun r => (rngI lo n).map fun v => r ++ [v]) ++ ((rows[i]?.toList.flatMap fun r => (rngI lo k).map fun v => r ++ [v])))
  refine ⟨fun i m H => m = rows.length - i ∧ i ≤ rows.length ∧ S i 0 H, ⟨rows.length, by simp, Nat.zero_le _, same_upd nD, [], upd_same, ?_⟩, ?_⟩
  · have e : ((rows.take 0).flatMap (fun r => (rngI lo n).map fun v => r ++ [v]) ++ ((rows[0]?.toList.flatMap fun r => (rngI lo 0).map fun v => r ++ [v]))) = [] := by
      cases rows[0]? <;> rfl
    rw [e]
    exact .nil
  rintro i m H ⟨rfl, hi', s, bs, hD, hN⟩
  have hS := s.seq hA
  by_cases lt : i < rows.length
  · have hai : as[i]? = some (as[i]'(by omega)) := List.getElem?_eq_getElem (by omega)
    have hri : rows[i]? = some rows[i] := List.getElem?_eq_getElem lt
    refine .inr ⟨⟨_, .ref (as[i]'(by omega)), hS, by rw [List.getElem?_map, hai]; rfl⟩, S (i + 1) 0, fun H' p => ⟨rows.length - (i + 1), by omega, rfl, lt, p⟩, fun x H' y => ?_⟩
    obtain ⟨e, y⟩ := y
    subst e
    have hx := y _ hS
    rw [List.getElem?_map, hai] at hx
    cases hx
    refine ⟨hw _, ?_⟩
    unfold tYes
    dsimp only
    rw [if_pos (show true = true from rfl)]
    refine hi _ H' _ ⟨fun k m H => m = n - k ∧ k ≤ n ∧ S i k H, ⟨n, by simp, Nat.zero_le _, s, bs, hD, hN⟩, ?_⟩
    rintro k m H2 ⟨rfl, hk, s2, cs, hD2, hN2⟩
    by_cases kl : k < n
    · refine .inr ⟨kl, S i (k + 1), fun H' p => ⟨n - (k + 1), by omega, rfl, kl, p⟩, fun x H' y => ?_⟩
      obtain ⟨e, y⟩ := y
      subst e
      subst y
      refine ⟨hw1 _ _, ?_⟩
      rw [if_pos (show true = true from rfl)]
      refine hs k _ rows[i] _ kl (s2 _ _ (hr i _ _ hai hri)) (List.getElem_mem lt) _ fun p H7 s7 np hp => ?_
      have hcl := hN2.1
      have npD : p ≠ D := (ne_of_none hD2 np).symm
      have hlen : cs.length < rows.length * n := by
        rw [hcl, List.length_append, flen, List.length_take, Nat.min_eq_left (by omega), hri]
        show i * n + ((rngI lo k).map _ ++ []).length < _
        rw [List.append_nil, List.length_map]
        have : (rngI lo k).length = k := by simp [rngI]
        rw [this]
        have : (i + 1) * n ≤ rows.length * n := Nat.mul_le_mul_right _ lt
        rw [Nat.add_mul] at this
        omega
      refine ⟨_, s7 _ _ hD2, by rw [List.length_map]; omega, same_over nD (s2.trans s7), cs ++ [p], by rw [upd_same, List.map_append]; rfl, ?_⟩
      have e : ((rows.take i).flatMap (fun r => (rngI lo n).map fun v => r ++ [v]) ++ ((rows[i]?.toList.flatMap fun r => (rngI lo (k + 1)).map fun v => r ++ [v]))) = ((rows.take i).flatMap (fun r => (rngI lo n).map fun v => r ++ [v]) ++ ((rows[i]?.toList.flatMap fun r => (rngI lo k).map fun v => r ++ [v]))) ++ [rows[i] ++ [lo + (k : Int)]] := by
        rw [List.append_assoc, hri]
        congr 1
        show (rngI lo (k + 1)).map _ ++ [] = ((rngI lo k).map _ ++ []) ++ _
        rw [List.append_nil, List.append_nil]
        unfold rngI
        rw [List.range_succ, List.map_append, List.map_append]
        rfl
      rw [e]
      exact (hN2.but fun b o nb e => by rw [upd_ne nb]; exact s7 _ _ e).app (.one (s2.free np) npD (by rw [upd_ne npD]; exact hp))
    · have ek : k = n := by omega
      subst ek
      refine .inl ⟨Nat.le_refl _, s2, cs, hD2, ?_⟩
      have e : ((rows.take (i + 1)).flatMap (fun r => (rngI lo k).map fun v => r ++ [v]) ++ ((rows[i + 1]?.toList.flatMap fun r => (rngI lo 0).map fun v => r ++ [v]))) = ((rows.take i).flatMap (fun r => (rngI lo k).map fun v => r ++ [v]) ++ ((rows[i]?.toList.flatMap fun r => (rngI lo k).map fun v => r ++ [v]))) := by
        have e0 : (rows[i + 1]?.toList.flatMap fun r => (rngI lo 0).map fun v => r ++ [v]) = [] := by cases rows[i + 1]? <;> rfl
        rw [e0, List.append_nil, List.take_add_one, List.flatMap_append]
      rw [e]
      exact hN2
  · have ei : i = rows.length := by omega
    subst ei
    refine .inl ⟨⟨_, hS, by rw [List.length_map, hl]; exact Nat.le_refl _⟩, hd H bs s hD ?_⟩
    have e : ((rows.take rows.length).flatMap (fun r => (rngI lo n).map fun v => r ++ [v]) ++ ((rows[rows.length]?.toList.flatMap fun r => (rngI lo 0).map fun v => r ++ [v]))) = rows.flatMap fun r => (rngI lo n).map fun v => r ++ [v] := by
      rw [List.take_length, List.getElem?_eq_none (Nat.le_refl _)]
      show _ ++ [] = _
      rw [List.append_nil]
    rw [e] at hN
    exact hN
end My

namespace My
open PySem PySem.Spec PyProof.Rows L2 Pre
def liftSh : Step → Option V
  | .lift _ _ sh => some (.int (sh : Int))
  | _ => none
theorem sum_sh : ∀ ss : List Step, ∃ ns : List Int, (ss.map liftSh).filterMap id = ns.map V.int ∧ ns.sum = (bitsS ss : Int)
  | [] => ⟨[], rfl, rfl⟩
  | s :: ss => by
    obtain ⟨ns, h1, h2⟩ := sum_sh ss
    have e : bitsS (s :: ss) = shS s + bitsS ss := rfl
    cases s with
    | turn i => exact ⟨ns, h1, by rw [e, h2]; show _ = ((0 + bitsS ss : Nat) : Int); omega⟩
    | swap i j => exact ⟨ns, h1, by rw [e, h2]; show _ = ((0 + bitsS ss : Nat) : Int); omega⟩
    | lift t ws sh => exact ⟨(sh : Int) :: ns, by rw [List.map_cons, List.map_cons, ← h1]; rfl, by rw [List.sum_cons, e, h2]; show _ = ((sh + bitsS ss : Nat) : Int); omega⟩
theorem unit_cell (i k : Nat) : V.int (if decide (V.int (0 + (i : Int)) = V.int (0 + (k : Int))) = true then 1 else 0) = V.int (if i = k then 1 else 0) := by
  by_cases h : i = k
  · rw [if_pos h, decide_eq_true (by rw [h])]
    rfl
  · rw [if_neg h, decide_eq_false (fun e => h (by have := V.int.inj e; omega))]
    rfl
theorem ref_at {bs : List Addr} {i : Nat} {a : Addr} (h : bs[i]? = some a) : atI (bs.map V.ref) (i : Int) = some (.ref a) := atI_nat (by rw [List.getElem?_map, h]; rfl)
theorem getD_of {M : List (List Int)} {i : Nat} {l : List Int} (h : M[i]? = some l) : M.getD i [] = l := by
  rw [List.getD_eq_getElem?_getD, h]
  rfl
local macro_rules | `(tactic| walk_at "go") => `(tactic| repeat (first | (with_reducible first | refine iteT ?_ | refine iteF ?_ | refine iteNtt ?_ | refine iteNff ?_ | refine iteET (by omega) ?_ | refine iteEF (by omega) ?_ | refine iteENT (by omega) ?_ | refine iteENF (by omega) ?_ | refine iteDT (by omega) ?_ | refine iteDF (by omega) ?_ | refine iteNT (by omega) ?_ | refine iteNF (by omega) ?_) | refine ⟨_, rfl, ?_⟩ | refine ⟨_, _, rfl, rfl, ?_⟩ | refine ⟨_, _, rfl, ?_⟩ | refine ⟨rfl, ?_⟩ | refine .inl ⟨_, rfl, ?_⟩ | refine .inr ⟨_, rfl, ?_⟩))
local macro_rules | `(tactic| walk_at "b") => `(tactic| try dsimp (config := { proj := false, iota := false, eta := false, zeta := false }) only)
section
variable {P : Program} {w : World} {K : PySem.W.Frag} {mg : Str → Option Value} {base : Heap}
def sp_shifts_of (K : PySem.W.Frag) : Sp := fun vs H Q _ => ∃ (r : Addr) (us : List V) (ss : List Step), vs = [.ref r] ∧ H r = some (.lst us) ∧ AllV (RowV H) us ss ∧ ss.length ≤ 100 ∧ ∀ H', Same H H' → Q (.int (bitsS ss : Nat)) H'
theorem G_shifts_of (T : Top K mg) : FnOk P w K mg base CX0 1 T.f_shifts_of T.fd_shifts_of ["rows"] (sp_shifts_of K) := by
  refine T.F_shifts_of.ok sc_shifts_of (fun vs H Q E h => by obtain ⟨r, us, ss, rfl, _⟩ := h; rfl) (fun cdv A outer s H vs Q E hr h => ?_)
  obtain ⟨r, us, ss, rfl, hr0, hv, hl, q⟩ := h
  refine ⟨_, PSs.nox (pss_one (ps_ret (pe_callB (k_sum K rfl rfl) (by rfl) T.n_sum (by decide +kernel) (pa_cons (pe_lc (own := [("row", 1)]) (g := gName 1) (by rfl) sc_shifts_of.nd (k_piL K rfl (pv 0)) (blkOk_by (own := [("row", 1)]) (N := N_shifts_of) (sc := defScope s_shifts_of) (by decide +kernel)) (fun _ _ _ _ _ => (pg_name (i := 1) sc_shifts_of.nd rfl (by first | exact Or.inl rfl | exact Or.inr rfl))) (fun _ _ _ _ _ => (pts_one (pt_cmpR op_eq (pe_ix (k_ixT K rfl) (pv 1) pe_int (fun _ _ => rfl)) pe_str (nomark _)))) (fun _ _ _ _ _ => (pe_ix (k_ixT K rfl) (pv 1) pe_int (fun _ _ => rfl)))) pa_nil)))), ?_⟩
  have hvl := hv.len
  walk_at "go"
  refine ⟨⟨_, .inl (.inl hr0)⟩, fun D nD => ?_⟩
  refine lc_selL (K := K) (xs := us) (ss.map liftSh) nD (.inl (.inl hr0)) (by rw [List.length_map, hvl]) (small1000 (by omega)) (fun x => rfl) ?_ ?_
  · intro i y o H' hy ho s' Qt qt
    obtain ⟨s, hs, hys⟩ := hv.get hy
    rw [List.getElem?_map, hs] at ho
    cases ho
    have hys := hys.same s'
    walk_at "go"
    cases s with
    | turn i =>
      obtain ⟨t, rfl, ht⟩ := hys
      refine ⟨t, _, _, _, rfl, rfl, .inl (.inl ht), rfl, rfl, _, rfl, iteDF (by decide) ?_⟩
      exact qt _ (Same.refl _)
    | swap i j =>
      obtain ⟨t, rfl, ht⟩ := hys
      refine ⟨t, _, _, _, rfl, rfl, .inl (.inl ht), rfl, rfl, _, rfl, iteDF (by decide) ?_⟩
      exact qt _ (Same.refl _)
    | lift b ws sh =>
      obtain ⟨t, l, rfl, ht, _⟩ := hys
      refine ⟨t, _, _, _, rfl, rfl, .inl (.inl ht), rfl, rfl, _, rfl, iteDT rfl ?_⟩
      refine ⟨_, rfl, t, _, _, _, rfl, rfl, .inl (.inl ht), rfl, ?_⟩
      exact qt _ (Same.refl _)
  intro H1 s1 hD
  obtain ⟨ns, en, es⟩ := sum_sh ss
  rw [en] at hD
  refine ⟨D, ns, rfl, .inl (.inl hD), ?_⟩
  rw [es]
  exact q _ s1
def sp_law_bits (K : PySem.W.Frag) : Sp := fun vs H Q _ => ∃ (N : Addr → Prop) (p : Addr) (ss : List Step), vs = [.ref p] ∧ StepsAt N H p ss ∧ ss.length ≤ 100 ∧ ∀ H', Same H H' → Q (.int (bitsS ss : Nat)) H'
theorem G_law_bits (T : Top K mg) : FnOk P w K mg base CX0 1 T.f_law_bits T.fd_law_bits ["_law_steps_here"] (sp_law_bits K) := by
  refine T.F_law_bits.ok sc_law_bits (fun vs H Q E h => by obtain ⟨N, p, ss, rfl, _⟩ := h; rfl) (fun cdv A outer s H vs Q E hr h => ?_)
  obtain ⟨N, p, ss, rfl, hS, hl, q⟩ := h
  refine ⟨_, PSs.nox (pss_one (ps_ret (pe_callB (k_sum K rfl rfl) (by rfl) T.n_sum (by decide +kernel) (pa_cons (pe_lc (own := [("_law_step", 1)]) (g := gName 1) (by rfl) sc_law_bits.nd (k_piL K rfl (pv 0)) (blkOk_by (own := [("_law_step", 1)]) (N := N_law_bits) (sc := defScope s_law_bits) (by decide +kernel)) (fun _ _ _ _ _ => (pg_name (i := 1) sc_law_bits.nd rfl (by first | exact Or.inl rfl | exact Or.inr rfl))) (fun _ _ _ _ _ => (pts_one (pt_cmpR op_eq (pe_ix (k_ixT K rfl) (pv 1) pe_int (fun _ _ => rfl)) pe_str (nomark _)))) (fun _ _ _ _ _ => (pe_ix (k_ixT K rfl) (pv 1) pe_int (fun _ _ => rfl)))) pa_nil)))), ?_⟩
  obtain ⟨us, hp, hv⟩ := hS
  have hvl := hv.len
  walk_at "go"
  refine ⟨⟨_, .inl (.inl hp)⟩, fun D nD => ?_⟩
  refine lc_selL (K := K) (xs := us) (ss.map liftSh) nD (.inl (.inl hp)) (by rw [List.length_map, hvl]) (small1000 (by omega)) (fun x => rfl) ?_ ?_
  · intro i y o H' hy ho s' Qt qt
    obtain ⟨s, hs, hys⟩ := hv.get hy
    rw [List.getElem?_map, hs] at ho
    cases ho
    have hys := hys.same s'
    walk_at "go"
    cases s with
    | turn i =>
      obtain ⟨t, rfl, ht⟩ := hys
      refine ⟨t, _, _, _, rfl, rfl, .inl (.inl ht), rfl, rfl, _, rfl, iteDF (by decide) ?_⟩
      exact qt _ (Same.refl _)
    | swap i j =>
      obtain ⟨t, rfl, ht⟩ := hys
      refine ⟨t, _, _, _, rfl, rfl, .inl (.inl ht), rfl, rfl, _, rfl, iteDF (by decide) ?_⟩
      exact qt _ (Same.refl _)
    | lift b ws sh =>
      obtain ⟨t, l, rfl, ht, _⟩ := hys
      refine ⟨t, _, _, _, rfl, rfl, .inl (.inl ht), rfl, rfl, _, rfl, iteDT rfl ?_⟩
      refine ⟨_, rfl, t, _, _, _, rfl, rfl, .inl (.inl ht), rfl, ?_⟩
      exact qt _ (Same.refl _)
  intro H1 s1 hD
  obtain ⟨ns, en, es⟩ := sum_sh ss
  rw [en] at hD
  refine ⟨D, ns, rfl, .inl (.inl hD), ?_⟩
  rw [es]
  exact q _ s1
def sp_check_both (C : Addr) : Sp := fun vs H Q _ => ∃ (a r b r2 : Addr) (n : Nat) (ss ts : List Step), vs = [.ref a, .ref b] ∧ MixAt C H a r n ss ∧ MixAt C H b r2 n ts ∧ Q .non H
def sp_numbers_of (K : PySem.W.Frag) : Sp := fun vs H Q _ => ∃ (r : Addr) (us : List V) (n : Nat) (ss : List Step), vs = [.ref r, .int n] ∧ H r = some (.lst us) ∧ AllV (RowV H) us ss ∧ (∀ s ∈ ss, s.ok n) ∧ 1 ≤ n ∧ n ≤ 4 ∧ ss.length ≤ 100 ∧ ∀ H' D, Same H H' → RowsIn H' D (numF n ss) → Q (.ref D) H'
theorem G_numbers_of (T : Top K mg) : FnOk P w K mg base CX0 2 T.f_numbers_of T.fd_numbers_of ["rows", "wide"] (sp_numbers_of K) := by
  refine T.F_numbers_of.ok sc_numbers_of (fun vs H Q E h => by obtain ⟨r, us, n, ss, rfl, _⟩ := h; rfl) (fun cdv A outer s H vs Q E hr h => ?_)
  obtain ⟨r, us, n, ss, rfl, hr0, hv, hO, hn1, hn4, hl, q⟩ := h
  refine ⟨_, PSs.nox (pss_cons (ps_set (i := 2) sc_numbers_of.nd rfl (Or.inr rfl) (pe_lc (own := [("one", 4)]) (g := gName 4) (tt := tYes) (by rfl) sc_numbers_of.nd (pi_range1 (by rfl) T.n_range (pa_cons (pv 1) pa_nil)) (blkOk_by (own := [("one", 4)]) (N := N_numbers_of) (sc := defScope s_numbers_of) (by decide +kernel)) (fun _ _ _ _ _ => (pg_name (i := 4) sc_numbers_of.nd rfl (by first | exact Or.inl rfl | exact Or.inr rfl))) (fun _ _ _ _ _ => pts_nil) (fun _ _ _ _ _ => (pe_lc (own := [("other", 6)]) (g := gName 6) (tt := tYes) (by rfl) sc_numbers_of.nd (pi_range1 (by rfl) T.n_range (pa_cons (pv 1) pa_nil)) (blkOk_by (own := [("other", 6)]) (N := N_numbers_of) (by kernel_rfl)) (fun _ _ _ _ _ => (pg_name (i := 6) sc_numbers_of.nd rfl (by first | exact Or.inl rfl | exact Or.inr rfl))) (fun _ _ _ _ _ => pts_nil) (fun _ _ _ _ _ => (pe_callTy call_int1 (by rfl) T.n_int (by decide +kernel) (pa_cons (pe_cmpR op_eq (pv 4) (pv 6) (nomark _)) pa_nil)))))))
  (pss_cons (ps_for PassesOwn.never rfl (k_piL K rfl (pv 0)) (pg_name (i := 3) sc_numbers_of.nd rfl (by first | exact Or.inl rfl | exact Or.inr rfl))
    (pss_one (ps_if (pt_cmpR op_eq (pe_ix (k_ixT K rfl) (pv 3) pe_int (fun _ _ => rfl)) pe_str (nomark _))
    (pss_cons (ps_setLc (i := 5) (own := [("at", 7)]) (g := gName 7) (tt := tYes) (by rfl) sc_numbers_of.nd rfl rfl (sw_true rfl rfl rfl (by decide +kernel)) (pi_range1 (by rfl) T.n_range (pa_cons (pv 1) pa_nil)) (blkOk_by (own := [("at", 7)]) (N := N_numbers_of) (sc := defScope s_numbers_of) (by decide +kernel)) (fun _ _ _ _ _ => (pg_name (i := 7) sc_numbers_of.nd rfl (by first | exact Or.inl rfl | exact Or.inr rfl))) (fun _ _ _ _ _ => pts_nil) (fun _ _ _ _ _ => (pe_call (G_summed T) (hr.mono (by decide)) (by rfl) T.g_summed T.F_summed.kp T.b_summed .nil pass0 (pa_cons (pe_ix (k_ixT K rfl) (pv 3) pe_int (fun _ _ => rfl)) (pa_cons (pe_lc (own := [("line", 8)]) (g := gName 8) (tt := tYes) (by rfl) sc_numbers_of.nd (k_piL K rfl (pv 2)) (blkOk_by (own := [("line", 8)]) (N := N_numbers_of) (by kernel_rfl)) (fun _ _ _ _ _ => (pg_name (i := 8) sc_numbers_of.nd rfl (by first | exact Or.inl rfl | exact Or.inr rfl))) (fun _ _ _ _ _ => pts_nil) (fun _ _ _ _ _ => (pe_ix (k_ixL K rfl) (pv 8) (pv 7) (fun _ _ => rfl)))) pa_nil)))))
  (pss_cons (ps_set (i := 2) sc_numbers_of.nd rfl (Or.inr rfl) (pe_lc (own := [("line", 8)]) (g := gName 8) (tt := tYes) (by rfl) sc_numbers_of.nd (k_piL K rfl (pv 2)) (blkOk_by (own := [("line", 8)]) (N := N_numbers_of) (sc := defScope s_numbers_of) (by decide +kernel)) (fun _ _ _ _ _ => (pg_name (i := 8) sc_numbers_of.nd rfl (by first | exact Or.inl rfl | exact Or.inr rfl))) (fun _ _ _ _ _ => pts_nil) (fun _ _ _ _ _ => (pe_lc (own := [("number", 9)]) (g := gName 9) (tt := tYes) (by rfl) sc_numbers_of.nd (k_piL K rfl (pv 8)) (blkOk_by (own := [("number", 9)]) (N := N_numbers_of) (by kernel_rfl)) (fun _ _ _ _ _ => (pg_name (i := 9) sc_numbers_of.nd rfl (by first | exact Or.inl rfl | exact Or.inr rfl))) (fun _ _ _ _ _ => pts_nil) (fun _ _ _ _ _ => (pe_op op_shlW (pv 9) (pe_ix (k_ixT K rfl) (pv 3) pe_int (fun _ _ => rfl))))))))
  (pss_one (ps_asg (pe_lc (own := [("number", 9), ("other", 6)]) (g := gTup K 2 (gCons (gName 9) (gCons (gName 6) (gNil)))) (tt := tYes) (by rfl) sc_numbers_of.nd (k_piZL K rfl (by rfl) T.n_zip (pa_cons (pe_ix (k_ixL K rfl) (pv 2) (pe_ix (k_ixT K rfl) (pv 3) pe_int (fun _ _ => rfl)) (fun _ _ => rfl)) (pa_cons (pv 5) pa_nil)) (pk_cons pe_bl pk_nil)) (blkOk_by (own := [("number", 9), ("other", 6)]) (N := N_numbers_of) (sc := defScope s_numbers_of) (by decide +kernel)) (fun _ _ _ _ _ => (k_pgT K rfl (by rfl) (pgs_cons (pg_name (i := 9) sc_numbers_of.nd rfl (by first | exact Or.inl rfl | exact Or.inr rfl)) (pgs_cons (pg_name (i := 6) sc_numbers_of.nd rfl (by first | exact Or.inl rfl | exact Or.inr rfl)) pgs_nil)))) (fun _ _ _ _ _ => pts_nil) (fun _ _ _ _ _ => (pe_op op_add (pv 9) (pv 6)))) (pg_sub (pv 2) (pe_ix (k_ixT K rfl) (pv 3) pe_int (fun _ _ => rfl)) set_list)))))
    (pss_one (ps_if (pt_cmpR op_eq (pe_ix (k_ixT K rfl) (pv 3) pe_int (fun _ _ => rfl)) pe_str (nomark _))
    (pss_one (ps_asg (pe_lc (own := [("number", 9)]) (g := gName 9) (tt := tYes) (by rfl) sc_numbers_of.nd (k_piL K rfl (pe_ix (k_ixL K rfl) (pv 2) (pe_ix (k_ixT K rfl) (pv 3) pe_int (fun _ _ => rfl)) (fun _ _ => rfl))) (blkOk_by (own := [("number", 9)]) (N := N_numbers_of) (sc := defScope s_numbers_of) (by decide +kernel)) (fun _ _ _ _ _ => (pg_name (i := 9) sc_numbers_of.nd rfl (by first | exact Or.inl rfl | exact Or.inr rfl))) (fun _ _ _ _ _ => pts_nil) (fun _ _ _ _ _ => (pe_op op_sub pe_int (pv 9)))) (pg_sub (pv 2) (pe_ix (k_ixT K rfl) (pv 3) pe_int (fun _ _ => rfl)) set_list)))
    (pss_one (ps_asg (pe_tup (pa_cons (pe_ix (k_ixL K rfl) (pv 2) (pe_ix (k_ixT K rfl) (pv 3) pe_int (fun _ _ => rfl)) (fun _ _ => rfl)) (pa_cons (pe_ix (k_ixL K rfl) (pv 2) (pe_ix (k_ixT K rfl) (pv 3) pe_int (fun _ _ => rfl)) (fun _ _ => rfl)) pa_nil))) (k_pgT K rfl (by rfl) (pgs_cons (pg_sub (pv 2) (pe_ix (k_ixT K rfl) (pv 3) pe_int (fun _ _ => rfl)) set_list) (pgs_cons (pg_sub (pv 2) (pe_ix (k_ixT K rfl) (pv 3) pe_int (fun _ _ => rfl)) set_list) pgs_nil))))))))))
  (pss_one (ps_ret (pv 2))))), ?_⟩
  have hvl := hv.len
  walk_at "go"
  refine ⟨by omega, by omega, fun D nD => ?_⟩
  rw [Int.toNat_natCast]
  refine lc_rowsR (lo := 0) (n := n) (unitM n) nD (unit_sq n).1 (small1000 (by omega)) (fun x => rfl) ?_ ?_
  · intro i l H' hi hl' s Qt qt
    unfold unitM at hl'
    rw [List.getElem?_map, List.getElem?_range hi] at hl'
    cases hl'
    walk_at "go"
    refine ⟨by omega, by omega, fun D2 nD2 => ?_⟩
    rw [Int.toNat_natCast]
    refine lc_mapR (lo := 0) (n := n) (((List.range n).map fun j => if i = j then (1 : Int) else 0).map V.int) nD2 (by rw [List.length_map, List.length_map, List.length_range]) (small1000 (by omega)) (fun x => rfl) ?_ ?_
    · intro k y H2 hk hy s2 Qt2 qt2
      rw [List.getElem?_map, List.getElem?_map, List.getElem?_range hk] at hy
      cases hy
      walk_at "go"
      rw [unit_cell]
      exact qt2 _ (Same.refl _)
    · intro H2 s2 hD2
      exact qt D2 H2 s2 nD2 hD2
  · intro H1 as s1 hD hN
    walk_at "go"
    have hr1 := s1 _ _ hr0
    have lenM : ∀ k, Sq n ((ss.take k).foldl (fun M s => numS n s M) (unitM n)) := fun k => num_sq (fun s hs => hO s (List.take_subset _ _ hs)) (unit_sq n)
    refine ⟨⟨_, .inl (.inl hr1)⟩, for_list (K := K) (a := r) (xs := us) (fun k σ H2 => ∃ (v3 v5 : Option V) (D' : Addr) (as : List Addr), σ = [some (.ref r), some (.int n), some (.ref D'), v3, none, v5, none, none, none, none] ∧ Same H H2 ∧ H D' = none ∧ H2 D' = some (.lst (as.map V.ref)) ∧ NewRows H D' H2 as ((ss.take k).foldl (fun M s => numS n s M) (unitM n))) ⟨none, none, D, as, rfl, s1, nD, hD, hN⟩ (fun i σ H1 _ ⟨_, _, _, _, _, s, _⟩ => .inl (.inl (s _ _ hr0))) ?_ ?_⟩
    · rintro k v σ H2 hk ⟨v3, v5, D', bs, rfl, s2, nD', hD', hB⟩
      obtain ⟨s, hs, hvs⟩ := hv.get hk
      have hvs := hvs.same s2
      have ho := hO s (List.mem_of_getElem? hs)
      obtain ⟨hM1, hM2⟩ := lenM k
      have hbd := num_bd hn4 (ss := ss.take k) (fun s hs => hO s (List.take_subset _ _ hs)) (unit_sq n) (unit_bd n)
      have hkl : (ss.take k).length ≤ 100 := by rw [List.length_take]; omega
      generalize (ss.take k).length = kl at hbd hkl
      have ek : (ss.take (k + 1)).foldl (fun M s => numS n s M) (unitM n) = numS n s ((ss.take k).foldl (fun M s => numS n s M) (unitM n)) := by
        rw [take_snoc hs, List.foldl_append]
        rfl
      rw [ek]
      generalize (ss.take k).foldl (fun M s => numS n s M) (unitM n) = M at hB hM1 hM2 hbd
      clear ek
      walk_at "go"
      cases s with
      | turn b =>
        obtain ⟨t, rfl, ht⟩ := hvs
        have hT : SqT K H2 t [sT, .int b] := .inl (.inl ht)
        refine ⟨t, _, _, _, rfl, rfl, hT, rfl, rfl, _, rfl, iteDF (by decide) ?_⟩
        walk_at "go"
        refine ⟨t, _, _, _, rfl, rfl, hT, rfl, rfl, _, rfl, iteDT rfl ?_⟩
        walk_at "go"
        have hb : b < n := ho
        obtain ⟨a, l, ea, el, na, naD, ha⟩ := hB.get (i := b) (by omega)
        have eM : numS n (.turn b) M = M.set b (l.map fun x => 0 - x) := by
          show M.set b ((M.getD b []).map fun x => 0 - x) = _
          rw [getD_of el]
        rw [eM]
        refine ⟨t, _, _, _, rfl, rfl, hT, rfl, ?_⟩
        refine ⟨D', _, _, _, rfl, rfl, .inl (.inl hD'), ref_at ea, a, rfl, ⟨_, .inl (.inl ha)⟩, fun D3 nD3 => ?_⟩
        have ll : l.length = n := hM2 _ (List.mem_of_getElem? el)
        refine lc_mapL (K := K) (xs := l.map V.int) ((l.map fun x => 0 - x).map V.int) nD3 (.inl (.inl ha)) (by rw [List.length_map, List.length_map, List.length_map]) (by rw [List.length_map]; exact small1000 (by omega)) (fun x => rfl) ?_ ?_
        · intro i x y H' hx hy s Qt qt
          obtain ⟨m, hm, rfl⟩ := int_at hx
          rw [List.getElem?_map, List.getElem?_map, hm] at hy
          cases hy
          walk_at "go"
          exact qt _ (Same.refl _)
        · intro H3 s3 hD3
          walk_at "go"
          refine ⟨t, _, _, _, rfl, rfl, Same.tup s3 hT, rfl, ?_⟩
          have s03 := s2.trans s3
          refine ⟨D', _, _, b, rfl, rfl, s3 _ _ hD', ix_ok (by rw [List.length_map, hB.1]; omega), ?_⟩
          have D3D : D3 ≠ D' := (ne_of_none hD' nD3).symm
          refine ⟨_, _, D', bs.set b D3, rfl, same_over nD' s03, nD', by rw [upd_same, List.map_set], ?_⟩
          exact (((hB.but fun c o _ e => s3 _ _ e).set b (s2.free nD3) D3D hD3)).upd
      | swap b c =>
        obtain ⟨t, rfl, ht⟩ := hvs
        have hT : SqT K H2 t [sS, .int b, .int c] := .inl (.inl ht)
        refine ⟨t, _, _, _, rfl, rfl, hT, rfl, rfl, _, rfl, iteDF (by decide) ?_⟩
        walk_at "go"
        refine ⟨t, _, _, _, rfl, rfl, hT, rfl, rfl, _, rfl, iteDF (by decide) ?_⟩
        walk_at "go"
        obtain ⟨hb, hc, hbc⟩ := ho
        obtain ⟨a, l, ea, el, na, naD, ha⟩ := hB.get (i := b) (by omega)
        obtain ⟨a2, l2, ea2, el2, na2, naD2, ha2⟩ := hB.get (i := c) (by omega)
        have eM : numS n (.swap b c) M = (M.set b l2).set c l := by
          show (M.set b (M.getD c [])).set c (M.getD b []) = _
          rw [getD_of el, getD_of el2]
        rw [eM]
        refine ⟨t, _, _, _, rfl, rfl, hT, rfl, ?_⟩
        refine ⟨D', _, _, _, rfl, rfl, .inl (.inl hD'), ref_at ea2, ?_⟩
        walk_at "go"
        refine ⟨t, _, _, _, rfl, rfl, hT, rfl, ?_⟩
        refine ⟨D', _, _, _, rfl, rfl, .inl (.inl hD'), ref_at ea, ?_⟩
        refine ⟨(show 2 ≤ sizeLine by decide), fun tp ntp => ?_⟩
        obtain ⟨H3, e3, s3, h3⟩ := fresh (.tup [V.ref a2, V.ref a]) ntp
        rw [e3]
        refine ⟨tp, _, rfl, .inl (.inl h3), rfl, ?_⟩
        walk_at "go"
        have ht3 := s3 _ _ ht
        have hD3 := s3 _ _ hD'
        have tD : t ≠ D' := fun z => by rw [z, hD'] at ht; cases ht
        refine ⟨t, _, _, _, rfl, rfl, Same.tup s3 hT, rfl, ?_⟩
        refine ⟨D', _, _, b, rfl, rfl, hD3, ix_ok (by rw [List.length_map, hB.1]; omega), ?_⟩
        walk_at "go"
        refine ⟨t, _, _, _, rfl, rfl, .inl (.inl (by rw [upd_ne tD]; exact ht3)), rfl, ?_⟩
        refine ⟨D', _, _, c, rfl, rfl, upd_same, ix_ok (by rw [List.length_set, List.length_map, hB.1]; omega), rfl, ?_⟩
        have hB3 : NewRows H D' H3 bs M := hB.but fun c o _ e => s3 _ _ e
        refine ⟨_, _, D', (bs.set b a2).set c a, rfl, same_over nD' (same_over nD' (s2.trans s3)), nD', by rw [upd_same, List.map_set, List.map_set], ?_⟩
        exact ((hB3.set b na2 naD2 (s3 _ _ ha2)).upd.set c na naD (by rw [upd_ne naD]; exact s3 _ _ ha)).upd
      | lift b ws sh =>
        obtain ⟨t, lw, rfl, ht, hlw⟩ := hvs
        have hT : SqT K H2 t [sL, .int b, .ref lw, .int sh] := .inl (.inl ht)
        refine ⟨t, _, _, _, rfl, rfl, hT, rfl, rfl, _, rfl, iteDT rfl ?_⟩
        walk_at "go"
        obtain ⟨hb, hwl, hw0, hs15, hws⟩ := ho
        refine ⟨by omega, by omega, fun D3 nD3 => ?_⟩
        rw [Int.toNat_natCast]
        refine lc_mapR (lo := 0) (n := n) (((List.range n).map fun k => dotP ws (colM M k)).map V.int) nD3 (by rw [List.length_map, List.length_map, List.length_range]) (small1000 (by omega)) (fun x => rfl) ?_ ?_
        · intro i y H' hi hy s Qt qt
          rw [List.getElem?_map, List.getElem?_map, List.getElem?_range hi] at hy
          cases hy
          walk_at "go"
          refine ⟨t, _, _, _, rfl, rfl, Same.tup s hT, rfl, ?_⟩
          have hD3 := s _ _ hD'
          walk_at "go"
          refine ⟨⟨_, .inl (.inl hD3)⟩, fun D4 nD4 => ?_⟩
          refine lc_mapL (K := K) (xs := bs.map V.ref) ((colM M i).map V.int) nD4 (.inl (.inl hD3)) (by unfold colM; rw [List.length_map, List.length_map, List.length_map, hB.1]) (by rw [List.length_map, hB.1]; exact small1000 (by omega)) (fun x => rfl) ?_ ?_
          · intro q x y H4 hx hy s4 Qt4 qt4
            rw [List.getElem?_map] at hx
            obtain ⟨a, ea, rfl⟩ := Option.map_eq_some_iff.mp hx
            have hq : q < M.length := by rw [← hB.1]; exact (List.getElem?_eq_some_iff.mp ea).1
            obtain ⟨a', l, ea', el, na, naD, ha⟩ := hB.get hq
            rw [ea] at ea'
            cases ea'
            unfold colM at hy
            rw [List.getElem?_map, List.getElem?_map, el] at hy
            cases hy
            walk_at "go"
            refine ⟨a, _, _, _, rfl, rfl, .inl (.inl ((s.trans s4) _ _ ha)), by rw [Int.zero_add]; exact at_getD (by rw [hM2 l (List.mem_of_getElem? el)]; exact hi), ?_⟩
            exact qt4 _ (Same.refl _)
          · intro H4 s4 hD4
            walk_at "go"
            refine ⟨lw, D4, ws, colM M i, rfl, .inl (.inl (.inl ((s.trans s4) _ _ hlw))), .inl (.inl hD4), by unfold colM; rw [List.length_map, hM1, hwl], by omega, .inl hws, fun H5 s5 => ?_⟩
            exact qt _ (s4.trans s5)
        · intro H3 s3 hD3
          walk_at "go"
          have hD3' := s3 _ _ hD'
          refine ⟨⟨_, .inl (.inl hD3')⟩, fun D4 nD4 => ?_⟩
          refine lc_rowsL (K := K) (xs := bs.map V.ref) ((M.map fun l => l.map fun x => x * 2 ^ sh).map some) nD4 (.inl (.inl hD3')) (by rw [List.length_map, List.length_map, List.length_map, hB.1]) (by rw [List.length_map, hB.1]; exact small1000 (by omega)) ?_ ?_ ?_
          · exact fun x => rfl
          · intro q x o H4 hx ho s4 Qt qtn qt
            rw [List.getElem?_map] at hx
            obtain ⟨a, ea, rfl⟩ := Option.map_eq_some_iff.mp hx
            have hq : q < M.length := by rw [← hB.1]; exact (List.getElem?_eq_some_iff.mp ea).1
            obtain ⟨a', l, ea', el, na, naD, ha⟩ := hB.get hq
            rw [ea] at ea'
            cases ea'
            rw [List.getElem?_map, List.getElem?_map, el] at ho
            cases ho
            have ha4 := (s3.trans s4) _ _ ha
            refine iteT (B := True) ?_
            walk_at "go"
            refine ⟨⟨_, .inl (.inl ha4)⟩, fun D5 nD5 => ?_⟩
            have ll : l.length = n := hM2 _ (List.mem_of_getElem? el)
            walk_at "b"
            refine lc_mapL (K := K) (xs := l.map V.int) ((l.map fun x => x * 2 ^ sh).map V.int) nD5 (.inl (.inl ha4)) (by rw [List.length_map, List.length_map, List.length_map]) (by rw [List.length_map]; exact small1000 (by omega)) ?_ ?_ ?_
            · exact fun x => rfl
            · intro i x y H' hx hy s Qt2 qt2
              obtain ⟨m, hm, rfl⟩ := int_at hx
              rw [List.getElem?_map, List.getElem?_map, hm] at hy
              cases hy
              walk_at "go"
              refine ⟨t, _, _, _, rfl, rfl, Same.tup ((s3.trans s4).trans s) hT, rfl, ?_⟩
              refine ⟨_, _, rfl, rfl, shl_ok (hbd l (List.mem_of_getElem? el) m (List.mem_of_getElem? hm)) (by omega), ?_⟩
              walk_at "b"
              rw [Int.toNat_natCast]
              exact qt2 _ (Same.refl _)
            · intro H5 s5 hD5
              exact qt _ rfl D5 H5 s5 nD5 hD5
          · intro H4 cs s4 hD4 hN4
            rw [fm_some] at hN4
            have s34 := s3.trans s4
            have s04 := s2.trans s34
            have hN := hN4.older (s2.trans s3)
            have lM : (M.map fun l => l.map fun x => x * 2 ^ sh).length = n := by rw [List.length_map, hM1]
            obtain ⟨a, l, ea, el, na, naD, ha⟩ := hN.get (i := b) (by rw [lM]; exact hb)
            rw [List.getElem?_map] at el
            obtain ⟨l0, el0, rfl⟩ := Option.map_eq_some_iff.mp el
            have ll : l0.length = n := hM2 _ (List.mem_of_getElem? el0)
            have eM : numS n (.lift b ws sh) M = (M.map fun l => l.map fun x => x * 2 ^ sh).set b (List.zipWith (fun a b => a + b) (l0.map fun x => x * 2 ^ sh) ((List.range n).map fun k => dotP ws (colM M k))) := by
              show (M.map fun l => l.map fun x => x * 2 ^ sh).set b (List.zipWith (fun a b => a + b) ((M.getD b []).map fun x => x * 2 ^ sh) _) = _
              rw [getD_of el0]
            rw [eM]
            have hD34 := s4 _ _ hD3
            walk_at "go"
            refine ⟨t, _, _, _, rfl, rfl, Same.tup s34 hT, rfl, ?_⟩
            refine ⟨D4, _, _, _, rfl, rfl, .inl (.inl hD4), ref_at ea, ?_⟩
            walk_at "go"
            refine ⟨a, D3, _, _, rfl, .inl (.inl ha), .inl (.inl hD34), fun D5 nD5 => ?_⟩
            generalize eu : (l0.map fun x => x * 2 ^ sh) = u
            generalize ew : ((List.range n).map fun k => dotP ws (colM M k)) = v at hD3 hD34
            have lu : u.length = n := by rw [← eu, List.length_map, ll]
            have lv : v.length = n := by rw [← ew, List.length_map, List.length_range]
            have hzl : (List.zipWith (fun a b => a + b) u v).length = n := by rw [List.length_zipWith, lu, lv, Nat.min_self]
            rw [eu] at ha
            refine lc_dW (walk_zl (K := K) (a := a) (b := D3) (xs := u.map V.int) (ys := v.map V.int) (by rw [List.length_map, List.length_map, lu, lv])) (S := []) Has.nil ((List.zipWith (fun a b => a + b) u v).map fun x => some (PyData.int x)) nD5 (by rw [List.length_map, hzl, List.length_map, lu]) (by rw [List.length_map, lu]; exact small1000 (by omega)) (fun H' s => ⟨s.seq (.inl (.inl ha)), s.seq (.inl (.inl hD34))⟩) ?_ ?_
            · rintro j o H0 x H'' hj ho s0 hH ⟨T1, x1, y1, rfl, nT, rfl, e1, e2⟩ Qt qt
              have st := same_upd (o := .tup [x1, y1]) nT
              obtain ⟨n1, en1, rfl⟩ := int_at e1
              obtain ⟨n2, en2, rfl⟩ := int_at e2
              have eo : o = some (PyData.int (n1 + n2)) := by
                rw [List.getElem?_map, List.getElem?_zipWith, en1, en2] at ho
                exact (Option.some.inj ho).symm
              subst eo
              refine ⟨T1, _, rfl, .inl (.inl upd_same), rfl, ?_⟩
              generalize upd H0 T1 (.tup [V.int n1, V.int n2]) = H8 at st
              refine ⟨_, _, rfl, _, _, rfl, rfl, ⟨rfl, ?_⟩⟩
              walk_at "go"
              exact qt _ _ st (.int _)
            · intro H7 s7 _ dD
              have el : ((List.zipWith (fun a b => a + b) u v).map fun x => some (PyData.int x)).filterMap id = (List.zipWith (fun a b => a + b) u v).map PyData.int := sel_map _ _
              rw [el, rs_nil] at dD
              obtain ⟨_, e, hD5⟩ := Dt.intsE (ns := List.zipWith (fun a b => a + b) u v) dD
              cases e
              have ht7 := s7 _ _ (s34 _ _ ht)
              walk_at "go"
              refine ⟨t, _, _, _, rfl, rfl, .inl (.inl ht7), rfl, ?_⟩
              refine ⟨D4, _, _, b, rfl, rfl, s7 _ _ hD4, ix_ok (by rw [List.length_map, hN.1, lM]; exact hb), ?_⟩
              have D5D : D5 ≠ D4 := (ne_of_none hD4 nD5).symm
              have nD4H : H D4 = none := (s2.trans s3).free nD4
              refine ⟨_, _, D4, cs.set b D5, rfl, same_over nD4H (s04.trans s7), nD4H, by rw [upd_same, List.map_set], ?_⟩
              exact (((hN.but fun c o _ e => s7 _ _ e).set b (s04.free nD5) D5D hD5)).upd
    · rintro σ H2 ⟨v3, v5, D', bs, rfl, s2, nD', hD', hB⟩
      rw [hvl, List.take_length] at hB
      exact ⟨_, rfl, q _ D' s2 (hB.rows hD')⟩
end
end My

namespace My
open PySem PySem.Spec PyProof.Rows L2 Pre
theorem k_all {X : Cx} (K : PySem.W.Frag) (h : X.K = K) (hc : X.calm = true) : CallR X (.builtin "all") (rAll K) := by subst h; exact cr_all hc
/-- rows and the lists that hold them -/
def PrsL (H : Hp) (ps : List (Addr × List Int)) : Prop := ∀ q ∈ ps, H q.1 = some (.lst (q.2.map V.int))
theorem PrsL.same {H H' : Hp} {ps : List (Addr × List Int)} (h : PrsL H ps) (s : Same H H') : PrsL H' ps := fun q hq => s _ _ (h q hq)
def refsL (ps : List (Addr × List Int)) : List V := ps.map fun q => V.ref q.1
theorem refsL_at {ps : List (Addr × List Int)} {i : Nat} {x : V} (h : (refsL ps)[i]? = some x) : ∃ q, ps[i]? = some q ∧ q ∈ ps ∧ x = .ref q.1 := by
  unfold refsL at h
  rw [List.getElem?_map] at h
  obtain ⟨q, hq, rfl⟩ := Option.map_eq_some_iff.mp h
  exact ⟨q, hq, List.mem_of_getElem? hq, rfl⟩
theorem PrsL.rows {H : Hp} {p : Addr} {ps : List (Addr × List Int)} (h : PrsL H ps) (hp : H p = some (.lst (refsL ps))) : RowsIn H p (ps.map Prod.snd) := by
  refine ⟨ps.map Prod.fst, by rw [hp, List.map_map]; rfl, by rw [List.length_map, List.length_map], fun i a r ha hr => ?_⟩
  rw [List.getElem?_map] at ha hr
  obtain ⟨q, hq, rfl⟩ := Option.map_eq_some_iff.mp ha
  rw [hq] at hr
  cases hr
  exact h q (List.mem_of_getElem? hq)
theorem RowsIn.prs {H : Hp} {p : Addr} {rows : List (List Int)} (h : RowsIn H p rows) : ∃ ps, H p = some (.lst (refsL ps)) ∧ PrsL H ps ∧ ps.map Prod.snd = rows := by
  obtain ⟨as, h1, h2, h3⟩ := h
  refine ⟨as.zip rows, ?_, fun q hq => ?_, by rw [List.map_snd_zip (by omega)]⟩
  · rw [h1]
    unfold refsL
    rw [show (fun q : Addr × List Int => V.ref q.1) = V.ref ∘ Prod.fst from rfl, ← List.map_map, List.map_fst_zip (by omega)]
  · obtain ⟨i, hi, rfl⟩ := List.mem_iff_getElem.mp hq
    rw [List.length_zip] at hi
    rw [List.getElem_zip]
    exact h3 i _ _ (List.getElem?_eq_getElem (by omega)) (List.getElem?_eq_getElem (by omega))
theorem eq_emptyL {K : PySem.W.Frag} {H : Hp} {p q : Addr} {xs : List (List Int)} {Q : V → Hp → Prop} (hp : RowsIn H p xs) (hq : H q = some (.lst [])) (k : Q (.bl (decide (xs = []))) H) : rEqD K (.ref p) (.ref q) H Q := by
  obtain ⟨as, h1, h2, h3⟩ := hp
  refine ⟨.list (xs.map rowD), .list [], .lst (.inl (.inl h1)) (rows_dp h2 h3), .lst (.inl (.inl hq)) .nil, rows_shaped xs, rfl, ?_⟩
  have e : PyData.eqv (.list (xs.map rowD)) (.list []) = decide (xs = []) := by
    cases xs with
    | nil => rfl
    | cons x xs => rw [decide_eq_false (by simp)]; rfl
  rw [e]
  exact k
theorem eqv_rows : ∀ xs ys : List (List Int), PyData.eqvAll (xs.map rowD) (ys.map rowD) = decide (xs = ys)
  | [], [] => rfl
  | [], _ :: _ => by rw [decide_eq_false (by simp)]; rfl
  | _ :: _, [] => by rw [decide_eq_false (by simp)]; rfl
  | x :: xs, y :: ys => by
    show PyData.eqvAll (rowD x :: xs.map rowD) (rowD y :: ys.map rowD) = _
    rw [PyData.eqvAll, eqv_rows xs ys]
    unfold rowD
    rw [PyData.eqv, eqv_ints]
    by_cases h1 : x = y
    · by_cases h2 : xs = ys
      · rw [decide_eq_true h1, decide_eq_true h2, decide_eq_true (by rw [h1, h2])]
        rfl
      · rw [decide_eq_false h2, decide_eq_false (fun e => h2 (List.cons.inj e).2), Bool.and_false]
    · rw [decide_eq_false h1, decide_eq_false (fun e => h1 (List.cons.inj e).1), Bool.false_and]
theorem ne_rowsL {K : PySem.W.Frag} {H : Hp} {p q : Addr} {xs ys : List (List Int)} {Q : V → Hp → Prop} (hp : RowsIn H p xs) (hq : RowsIn H q ys) (k : Q (.bl (!decide (xs = ys))) H) : rNeD K (.ref p) (.ref q) H Q := by
  obtain ⟨as, h1, h2, h3⟩ := hp
  obtain ⟨bs, k1, k2, k3⟩ := hq
  refine ⟨.list (xs.map rowD), .list (ys.map rowD), .lst (.inl (.inl h1)) (rows_dp h2 h3), .lst (.inl (.inl k1)) (rows_dp k2 k3), rows_shaped xs, rows_shaped ys, ?_⟩
  rw [PyData.eqv, eqv_rows]
  exact k
theorem sel_refsL (Pd : List Int → Bool) : ∀ ps : List (Addr × List Int), (ps.map fun q => if Pd q.2 = true then some (V.ref q.1) else none).filterMap id = refsL (ps.filter fun q => Pd q.2)
  | [] => rfl
  | q :: ps => by
    have ih := sel_refsL Pd ps
    unfold refsL at ih ⊢
    by_cases c : Pd q.2 = true
    · rw [List.map_cons, if_pos c, List.filter_cons_of_pos (by exact c), List.map_cons, ← ih]
      rfl
    · rw [List.map_cons, if_neg c, List.filter_cons_of_neg (by exact c), ← ih]
      rfl
/-- a comprehension that takes some of the rows over -/
theorem lc_refsL {K : PySem.W.Frag} {a : Addr} {j : Nat} {tt : TT} {te : TE} {vs : List Nat} {σ : L2.St} {H1 : Hp} {D : Addr} {Qd : Hp → Prop} (ps : List (Addr × List Int)) (Pd : List Int → Bool) (nD : H1 D = none) (hS : SqL K H1 a (refsL ps)) (hz : ps.length < sizeLine)
    (hw : ∀ x, wipe ((wipe σ vs).set j (some x)) vs = wipe σ vs)
    (ht : ∀ q ∈ ps, ∀ H', Same H1 H' → ∀ Qb : Bool → Hp → Prop, (∀ H'', Same H' H'' → Qb (Pd q.2) H'') → tt ((wipe σ vs).set j (some (.ref q.1))) H' Qb)
    (he : ∀ q ∈ ps, ∀ H' (Qv : VK), Qv (.ref q.1) H' → te ((wipe σ vs).set j (some (.ref q.1))) H' Qv)
    (hd : ∀ H', Same H1 H' → H' D = some (.lst (refsL (ps.filter fun q => Pd q.2))) → Qd H') :
    ∃ W : Nat → Nat → Hp → Prop, (∃ m, W 0 m (upd H1 D (.lst []))) ∧ ∀ i m H, W i m H →
      ((Itl K a).stop i H ∧ Qd H) ∨ ((Itl K a).go i H ∧ ∃ Nx : Hp → Prop, (∀ H', Nx H' → ∃ m', m' < m ∧ W (i + 1) m' H') ∧ ∀ x H', (Itl K a).yld i H x H' → gName j x (wipe σ vs) H' fun σ2 H2 => wipe σ2 vs = wipe σ vs ∧ tt σ2 H2 fun b H3 =>
        if b = true then te σ2 H3 fun y H4 => ∃ acc, H4 D = some (.lst acc) ∧ acc.length < sizeLine ∧ Nx (upd H4 D (.lst (acc ++ [y]))) else Nx H3) := by
  refine lc_selL (K := K) (a := a) (xs := refsL ps) (tt := tt) (te := te) (ps.map fun q => if Pd q.2 = true then some (V.ref q.1) else none) nD hS (by simp [refsL]) (by simpa [refsL] using hz) hw ?_ (fun H' s hD => hd H' s (by rw [hD, sel_refsL]))
  intro i x o H' hx ho s Qt qt
  obtain ⟨q, hq, hm, rfl⟩ := refsL_at hx
  rw [List.getElem?_map, hq] at ho
  cases ho
  dsimp only [Option.map_some] at qt
  refine ht q hm H' s _ fun H2 s2 => ?_
  by_cases c : Pd q.2 = true
  · rw [if_pos c] at qt
    rw [if_pos c]
    exact he q hm H2 _ (qt H2 s2)
  · rw [if_neg c] at qt
    rw [if_neg c]
    exact qt H2 s2
theorem max_int {r : List Int} {m : Int} (h1 : m ∈ r.map fun v => ((v.natAbs : Nat) : Int)) (h2 : ∀ y ∈ r.map fun v => ((v.natAbs : Nat) : Int), y ≤ m) : m = (maxAbs r : Int) := by
  obtain ⟨v, hv, rfl⟩ := List.mem_map.mp h1
  have a := maxAbs_le hv
  have b : maxAbs r ≤ v.natAbs := maxAbs_bound fun w hw => by
    have := h2 _ (List.mem_map_of_mem hw)
    omega
  omega
theorem max_int2 {a b : Nat} : (if (b : Int) > (a : Int) then (b : Int) else (a : Int)) = ((max a b : Nat) : Int) := by
  split <;> omega
theorem pow_le_of {a b n k : Nat} (h : a ^ n ≤ b) (h1 : 1 ≤ a) (hk : k ≤ n) : a ^ k ≤ b := Nat.le_trans (Nat.pow_le_pow_right h1 hk) h
theorem rng_len (lo : Int) (n : Nat) : (rngI lo n).length = n := by simp [rngI]
local macro_rules | `(tactic| walk_at "go") => `(tactic| repeat (first | (with_reducible first | refine iteT ?_ | refine iteF ?_ | refine iteNtt ?_ | refine iteNff ?_ | refine iteET (by omega) ?_ | refine iteEF (by omega) ?_ | refine iteENT (by omega) ?_ | refine iteENF (by omega) ?_ | refine iteDT (by omega) ?_ | refine iteDF (by omega) ?_ | refine iteNT (by omega) ?_ | refine iteNF (by omega) ?_) | refine ⟨_, rfl, ?_⟩ | refine ⟨_, _, rfl, rfl, ?_⟩ | refine ⟨_, _, rfl, ?_⟩ | refine ⟨rfl, ?_⟩ | refine .inl ⟨_, rfl, ?_⟩ | refine .inr ⟨_, rfl, ?_⟩))
local macro_rules | `(tactic| walk_at "b") => `(tactic| try dsimp (config := { proj := false, iota := false, eta := false, zeta := false }) only)
section
variable {P : Program} {w : World} {K : PySem.W.Frag} {mg : Str → Option Value} {base : Heap}
def sp_every_rest (K : PySem.W.Frag) : Sp := fun vs H Q _ => ∃ (n b : Nat), vs = [.int n, .int b] ∧ n ≤ 4 ∧ b ≤ 15 ∧ (2 ^ b) ^ n ≤ 1000 ∧ ∀ H' D, Same H H' → RowsIn H' D (listsF (rngI 0 (2 ^ b)) n) → Q (.ref D) H'
theorem G_every_rest (T : Top K mg) : FnOk P w K mg base CX0 1 T.f_every_rest T.fd_every_rest ["wide", "bits"] (sp_every_rest K) := by
  refine T.F_every_rest.ok sc_every_rest (fun vs H Q E h => by obtain ⟨n, b, rfl, _⟩ := h; rfl) (fun cdv A outer s H vs Q E hr h => ?_)
  obtain ⟨n, b, rfl, hn4, hb, hpow, q⟩ := h
  refine ⟨_, PSs.nox (pss_cons (ps_set (i := 2) sc_every_rest.nd rfl (by first | exact Or.inl rfl | exact Or.inr rfl) (pe_lst (pa_cons (pe_lst pa_nil) pa_nil)))
  (pss_cons (ps_for PassesOwn.never rfl (pi_range1 (by rfl) T.n_range (pa_cons (pv 0) pa_nil)) (pg_name (i := 3) sc_every_rest.nd rfl (by first | exact Or.inl rfl | exact Or.inr rfl))
    (pss_one (ps_setLc2 (i := 2) (own := [("row", 4), ("number", 5)]) (vs1 := [5]) (g := gName 4) (g1 := gName 5) (tt := tYes) (tt1 := tYes) (by rfl) sc_every_rest.nd rfl rfl (sw_true rfl rfl rfl (by decide +kernel)) (k_piL K rfl (pv 2)) (blkOk_by (own := [("row", 4), ("number", 5)]) (N := N_every_rest) (sc := defScope s_every_rest) (by decide +kernel)) (by decide) (fun _ _ _ _ _ => (pg_name (i := 4) sc_every_rest.nd rfl (by first | exact Or.inl rfl | exact Or.inr rfl))) (fun _ _ _ _ _ => pts_nil) (fun _ _ _ _ _ => (pi_range1 (by rfl) T.n_range (pa_cons (pe_op op_shl pe_int (pv 1)) pa_nil))) (fun _ _ _ _ _ => (pg_name (i := 5) sc_every_rest.nd rfl (by first | exact Or.inl rfl | exact Or.inr rfl))) (fun _ _ _ _ _ => pts_nil) (fun _ _ _ _ _ => (pe_op op_cat (pv 4) (pe_lst (pa_cons (pv 5) pa_nil)))))))
  (pss_one (ps_ret (pv 2))))), ?_⟩
  have p1 : 1 ≤ 2 ^ b := Nat.two_pow_pos b
  walk_at "go"
  refine ⟨Nat.zero_le _, fun p0 np0 => ?_⟩
  obtain ⟨H1, e1, s1, h1⟩ := fresh (.lst []) np0
  rw [e1]
  walk_at "go"
  refine ⟨(show 1 ≤ sizeLine by decide), fun D nD => ?_⟩
  obtain ⟨H2, e2, s2, h2⟩ := fresh (.lst [V.ref p0]) nD
  rw [e2]
  walk_at "go"
  refine ⟨by omega, by omega, ?_⟩
  walk_at "b"
  refine for_range (lo := 0) (n := ((n : Int)).toNat) (fun i σ H3 => ∃ (v3 : Option V) (D : Addr), σ = [some (.int n), some (.int b), some (.ref D), v3, none, none] ∧ Same H H3 ∧ RowsIn H3 D (listsF (rngI 0 (2 ^ b)) i)) ⟨none, D, rfl, s1.trans s2, [p0], h2, rfl, fun i a r ha hr => ?_⟩ ?_ ?_
  · cases i with
    | zero =>
      cases ha
      cases hr
      exact s2 _ _ h1
    | succ i => cases ha
  · rintro i σ H3 hi ⟨v3, D', rfl, s3, hR⟩
    rw [Int.toNat_natCast] at hi
    obtain ⟨as, hD', hl, hr⟩ := hR
    have hlen : (listsF (rngI 0 (2 ^ b)) i).length * 2 ^ b ≤ 1000 := by
      rw [len_listsF, rng_len, ← Nat.pow_succ]
      exact pow_le_of hpow p1 hi
    walk_at "go"
    refine ⟨⟨_, .inl (.inl hD')⟩, fun D2 nD2 => ?_⟩
    refine lc2_rows (K := K) (a := D') (rows := listsF (rngI 0 (2 ^ b)) i) (n := 2 ^ b) (lo := 0) as nD2 (.inl (.inl hD')) hl hr (small1000 hlen) (fun x => rfl) (fun x y => rfl) ?_ ?_ ?_
    · intro x H' R hR
      walk_at "go"
      refine ⟨⟨by omega, by omega, by decide⟩, ?_⟩
      walk_at "b"
      have e2 : (1 : Int) * 2 ^ ((b : Int)).toNat = ((2 ^ b : Nat) : Int) := by rw [Int.one_mul, Int.toNat_natCast, Int.natCast_pow]; rfl
      have h15 : 2 ^ b ≤ 2 ^ 15 := Nat.pow_le_pow_right (by decide) hb
      rw [e2]
      walk_at "go"
      refine ⟨by omega, by omega, ?_⟩
      rw [Int.toNat_natCast]
      exact hR
    · intro k c r H' hk hc hm Qt qt
      have lr := (mem_listsF.mp hm).1
      walk_at "go"
      refine ⟨(show 1 ≤ sizeLine by decide), fun L nL => ?_⟩
      obtain ⟨H4, e4, s4, h4⟩ := fresh (.lst [V.int (0 + (k : Int))]) nL
      rw [e4]
      refine ⟨c, L, _, _, rfl, rfl, s4 _ _ hc, h4, Nat.le_of_lt (small1000 (by rw [List.length_map]; show r.length + 1 ≤ 1000; omega)), fun Z nZ => ?_⟩
      refine qt Z _ (s4.trans (same_upd nZ)) (s4.free nZ) ?_
      rw [upd_same, List.map_append]
      rfl
    · intro H4 bs s4 hD2 hN
      exact ⟨_, D2, rfl, s3.trans s4, hN.rows hD2⟩
  · rintro σ H3 ⟨v3, D', rfl, s3, hR⟩
    rw [Int.toNat_natCast] at hR
    exact ⟨_, rfl, q _ _ s3 hR⟩
def sp_are_alike (C : Addr) (K : PySem.W.Frag) : Sp := fun vs H Q _ => ∃ (a r b r2 : Addr) (n : Nat) (ss ts : List Step), vs = [.ref a, .ref b] ∧ MixAt C H a r n ss ∧ MixAt C H b r2 n ts ∧ (∀ s ∈ ss, s.ok n) ∧ (∀ s ∈ ts, s.ok n) ∧ 1 ≤ n ∧ n ≤ 4 ∧ ss.length ≤ 100 ∧ ts.length ≤ 100 ∧ max (bitsS ss) (bitsS ts) ≤ 15 ∧ (2 ^ max (bitsS ss) (bitsS ts)) ^ n ≤ 1000 ∧
  ∀ H', Same H H' → Q (.bl (alikeF n ss ts)) H'
def sp_same_mix (C : Addr) (K : PySem.W.Frag) : Sp := fun vs H Q _ => ∃ (a r b r2 : Addr) (n : Nat) (ss ts : List Step), vs = [.ref a, .ref b] ∧ MixAt C H a r n ss ∧ MixAt C H b r2 n ts ∧ (∀ s ∈ ss, s.ok n) ∧ (∀ s ∈ ts, s.ok n) ∧ 1 ≤ n ∧ n ≤ 4 ∧ ss.length ≤ 100 ∧ ts.length ≤ 100 ∧ max (bitsS ss) (bitsS ts) ≤ 15 ∧ (2 ^ max (bitsS ss) (bitsS ts)) ^ n ≤ 1000 ∧
  ∀ H', Same H H' → Q (.bl (alikeF n ss ts)) H'
end
end My

namespace My
open PySem PySem.Spec PyProof.Rows L2 Pre
/-- lists of whole numbers, new since H0 -/
def NewL (H0 H : Hp) (as : List Addr) (rows : List (List Int)) : Prop := as.length = rows.length ∧ ∀ (i : Nat) (a : Addr) (r : List Int), as[i]? = some a → rows[i]? = some r → H0 a = none ∧ H a = some (.lst (r.map V.int))
theorem NewL.same {H0 H H' : Hp} {as : List Addr} {rows : List (List Int)} (h : NewL H0 H as rows) (s : Same H H') : NewL H0 H' as rows := ⟨h.1, fun i a r ha hr => ⟨(h.2 i a r ha hr).1, s _ _ (h.2 i a r ha hr).2⟩⟩
theorem NewL.app {H0 H : Hp} {as bs : List Addr} {xs ys : List (List Int)} (h : NewL H0 H as xs) (k : NewL H0 H bs ys) : NewL H0 H (as ++ bs) (xs ++ ys) := by
  refine ⟨by rw [List.length_append, List.length_append, h.1, k.1], fun i a r ha hr => ?_⟩
  by_cases c : i < as.length
  · rw [List.getElem?_append_left c] at ha
    rw [List.getElem?_append_left (by rw [← h.1]; exact c)] at hr
    exact h.2 i a r ha hr
  · rw [List.getElem?_append_right (by omega)] at ha
    rw [List.getElem?_append_right (by rw [← h.1]; omega), ← h.1] at hr
    exact k.2 _ a r ha hr
def RowsNew (H0 H : Hp) (p : Addr) (rows : List (List Int)) : Prop := H0 p = none ∧ ∃ as : List Addr, H p = some (.lst (as.map V.ref)) ∧ NewL H0 H as rows
theorem RowsNew.rows {H0 H : Hp} {p : Addr} {rows : List (List Int)} (h : RowsNew H0 H p rows) : RowsIn H p rows := by
  obtain ⟨_, as, h1, h2⟩ := h
  exact ⟨as, h1, h2.1, fun i a r ha hr => (h2.2 i a r ha hr).2⟩
theorem find_first {α : Type} {l1 l2 : List α} {x : α} {p : α → Bool} (h1 : ∀ y ∈ l1, p y = false) (h2 : p x = true) : (l1 ++ x :: l2).find? p = some x := by
  rw [List.find?_append, List.find?_eq_none.mpr (fun y hy => by rw [h1 y hy]; decide), List.find?_cons, h2]
  rfl
theorem take_more {α : Type} {l : List α} {i : Nat} {x : α} (h : l[i]? = some x) : l = l.take i ++ x :: l.drop (i + 1) := by
  have hi := (List.getElem?_eq_some_iff.mp h)
  obtain ⟨hi, e⟩ := hi
  rw [← e, ← List.drop_eq_getElem_cons hi, List.take_append_drop]
theorem shl_one (b : Nat) : (1 : Int) * 2 ^ ((b : Int)).toNat = ((2 ^ b : Nat) : Int) := by rw [Int.one_mul, Int.toNat_natCast, Int.natCast_pow]; rfl
theorem abs_nat (v : Int) : (if v < 0 then -v else v) = ((v.natAbs : Nat) : Int) := by split <;> omega
theorem dec_nat (a b : Nat) : decide (V.int (a : Int) = V.int (b : Int)) = decide (a = b) := decide_eq_decide.mpr ⟨fun e => by have := V.int.inj e; omega, fun e => by rw [e]⟩
/-- rows one behind another -/
theorem RowsIn.cat {H : Hp} {xs ys : List (List Int)} {as bs : List Addr} (hp : as.length = xs.length ∧ ∀ (i : Nat) (a : Addr) (r : List Int), as[i]? = some a → xs[i]? = some r → H a = some (.lst (r.map V.int))) (hq : bs.length = ys.length ∧ ∀ (i : Nat) (a : Addr) (r : List Int), bs[i]? = some a → ys[i]? = some r → H a = some (.lst (r.map V.int))) :
    (as ++ bs).length = (xs ++ ys).length ∧ ∀ (i : Nat) (a : Addr) (r : List Int), (as ++ bs)[i]? = some a → (xs ++ ys)[i]? = some r → H a = some (.lst (r.map V.int)) := by
  refine ⟨by rw [List.length_append, List.length_append, hp.1, hq.1], fun i a r ha hr => ?_⟩
  by_cases c : i < as.length
  · rw [List.getElem?_append_left c] at ha
    rw [List.getElem?_append_left (by rw [← hp.1]; exact c)] at hr
    exact hp.2 i a r ha hr
  · rw [List.getElem?_append_right (by omega)] at ha
    rw [List.getElem?_append_right (by rw [← hp.1]; omega), ← hp.1] at hr
    exact hq.2 _ a r ha hr
theorem flat_len (xs : List (List Int)) (lo : Int) (n : Nat) : (xs.flatMap fun r => (rngI lo n).map fun v => r ++ [v]).length = xs.length * n := by
  rw [List.length_flatMap]
  have e : xs.map (fun r => ((rngI lo n).map fun v => r ++ [v]).length) = List.replicate xs.length n := by
    apply List.ext_getElem
    · simp
    · intro i h1 h2
      simp [rngI]
  rw [e, List.sum_replicate_nat]
theorem first_at {n top k : Nat} {A B : List Step} {xs ys : List (List Int)} {x : List Int} (hk : k ≤ top) (hA : ∀ y ∈ (List.range k).flatMap (sizeRows n), playF A y = playF B y) (e : sizeRows n k = xs ++ x :: ys) (hB : ∀ y ∈ xs, playF A y = playF B y) (hx : playF A x ≠ playF B x) : firstF n A B top = some x := by
  unfold firstF
  have er : List.range (top + 1) = List.range k ++ k :: (List.range' (k + 1) (top - k)) := by
    rw [List.range_eq_range', List.range_eq_range', show top + 1 = k + (top - k + 1) by omega, ← List.range'_append_1, Nat.zero_add, List.range'_succ]
  rw [er, List.flatMap_append, List.flatMap_cons, e, List.append_assoc, ← List.append_assoc, List.cons_append]
  refine find_first (fun y hy => decide_eq_false fun z => z ?_) (decide_eq_true hx)
  rcases List.mem_append.mp hy with h | h
  · exact hA y h
  · exact hB y h
local macro_rules | `(tactic| walk_at "go") => `(tactic| repeat (first | (with_reducible first | refine iteT ?_ | refine iteF ?_ | refine iteNtt ?_ | refine iteNff ?_ | refine iteET (by omega) ?_ | refine iteEF (by omega) ?_ | refine iteENT (by omega) ?_ | refine iteENF (by omega) ?_ | refine iteDT (by omega) ?_ | refine iteDF (by omega) ?_ | refine iteNT (by omega) ?_ | refine iteNF (by omega) ?_) | refine ⟨_, rfl, ?_⟩ | refine ⟨_, _, rfl, rfl, ?_⟩ | refine ⟨_, _, rfl, ?_⟩ | refine ⟨rfl, ?_⟩ | refine .inl ⟨_, rfl, ?_⟩ | refine .inr ⟨_, rfl, ?_⟩))
local macro_rules | `(tactic| walk_at "b") => `(tactic| try dsimp (config := { proj := false, iota := false, eta := false, zeta := false }) only)
section
variable {P : Program} {w : World} {K : PySem.W.Frag} {mg : Str → Option Value} {base : Heap}
def sp_rows_of_size (K : PySem.W.Frag) : Sp := fun vs H Q _ => ∃ (n z : Nat), vs = [.int n, .int z] ∧ 1 ≤ n ∧ n ≤ 4 ∧ z ≤ 1000 ∧ (2 * z + 1) ^ n ≤ 1000 ∧ ∀ H' D, Same H H' → RowsIn H' D (sizeRows n z) → Q (.ref D) H'
def sp_law_lists : Sp := fun vs H Q _ => ∃ (n m : Nat) (lo hi : Int), vs = [.int n, .int lo, .int hi] ∧ n ≤ 4 ∧ hi + 1 - lo = m ∧ 1 ≤ m ∧ -(2 ^ 40) ≤ lo ∧ hi ≤ 2 ^ 40 ∧ m ^ n ≤ 1000 ∧ ∀ H' D, Same H H' → RowsNew H H' D (listsF (rngI lo m) n) → Q (.ref D) H'
theorem G_law_lists (T : Top K mg) : FnOk P w K mg base CX0 1 T.f_law_lists T.fd_law_lists ["_law_broad", "_law_low", "_law_high"] sp_law_lists := by
  refine T.F_law_lists.ok sc_law_lists (fun vs H Q E h => by obtain ⟨n, m, lo, hi, rfl, _⟩ := h; rfl) (fun cdv A outer s H vs Q E hr h => ?_)
  obtain ⟨n, m, lo, hi, rfl, hn4, hm, hm1, hlo, hhi, hpow, q⟩ := h
  refine ⟨_, PSs.nox (pss_cons (ps_set (i := 3) sc_law_lists.nd rfl (by first | exact Or.inl rfl | exact Or.inr rfl) (pe_lst (pa_cons (pe_lst pa_nil) pa_nil)))
  (pss_cons (ps_for PassesOwn.never rfl (pi_range1 (by rfl) T.n_range (pa_cons (pv 0) pa_nil)) (pg_name (i := 4) sc_law_lists.nd rfl (by first | exact Or.inl rfl | exact Or.inr rfl))
    (pss_cons (ps_set (i := 5) sc_law_lists.nd rfl (by first | exact Or.inl rfl | exact Or.inr rfl) (pe_lst pa_nil))
  (pss_cons (ps_for PassesOwn.never rfl (k_piL K rfl (pv 3)) (pg_name (i := 6) sc_law_lists.nd rfl (by first | exact Or.inl rfl | exact Or.inr rfl))
    (pss_one (ps_set (i := 5) sc_law_lists.nd rfl (by first | exact Or.inl rfl | exact Or.inr rfl) (pe_op op_cat (pv 5) (pe_lc (own := [("_law_number", 7)]) (g := gName 7) (tt := tYes) (by rfl) sc_law_lists.nd (pi_range2 (by rfl) T.n_range (pa_cons (pv 1) (pa_cons (pe_op op_add (pv 2) pe_int) pa_nil))) (blkOk_by (own := [("_law_number", 7)]) (N := N_law_lists) (sc := defScope s_law_lists) (by decide +kernel)) (fun _ _ _ _ _ => (pg_name (i := 7) sc_law_lists.nd rfl (by first | exact Or.inl rfl | exact Or.inr rfl))) (fun _ _ _ _ _ => pts_nil) (fun _ _ _ _ _ => (pe_op op_cat (pv 6) (pe_lst (pa_cons (pv 7) pa_nil)))))))))
  (pss_one (ps_set (i := 3) sc_law_lists.nd rfl (by first | exact Or.inl rfl | exact Or.inr rfl) (pv 5))))))
  (pss_one (ps_ret (pv 3))))), ?_⟩
  walk_at "go"
  refine ⟨Nat.zero_le _, fun p0 np0 => ?_⟩
  obtain ⟨H1, e1, s1, h1⟩ := fresh (.lst []) np0
  rw [e1]
  walk_at "go"
  refine ⟨(show 1 ≤ sizeLine by decide), fun D nD => ?_⟩
  obtain ⟨H2, e2, s2, h2⟩ := fresh (.lst [V.ref p0]) nD
  rw [e2]
  walk_at "go"
  refine ⟨by omega, by omega, ?_⟩
  walk_at "b"
  refine for_range (lo := 0) (n := ((n : Int)).toNat) (fun i σ H3 => ∃ (v4 v5 v6 : Option V) (D : Addr), σ = [some (.int n), some (.int lo), some (.int hi), some (.ref D), v4, v5, v6, none] ∧ Same H H3 ∧ RowsNew H H3 D (listsF (rngI lo m) i)) ⟨none, none, none, D, rfl, s1.trans s2, s1.free nD, [p0], h2, rfl, fun i a r ha hr => ?_⟩ ?_ ?_
  · cases i with
    | zero =>
      cases ha
      cases hr
      exact ⟨np0, s2 _ _ h1⟩
    | succ i => cases ha
  · rintro i σ H3 hi' ⟨v4, v5, v6, D', rfl, s3, hR⟩
    rw [Int.toNat_natCast] at hi'
    obtain ⟨ps, hD', hps, eps⟩ := hR.rows.prs
    refine ⟨Nat.zero_le _, fun L nL => ?_⟩
    obtain ⟨H4, e4, s4, h4⟩ := fresh (.lst []) nL
    rw [e4]
    walk_at "go"
    have hlen : (listsF (rngI lo m) i).length * m ≤ 1000 := by
      rw [len_listsF, rng_len, ← Nat.pow_succ]
      exact pow_le_of hpow hm1 hi'
    have m1000 : m ≤ 1000 := by
      have := pow_le_of (k := 1) hpow hm1 (by omega)
      rw [Nat.pow_one] at this
      exact this
    have s04 := s3.trans s4
    refine ⟨⟨_, .inl (.inl (s4 _ _ hD'))⟩, for_list (K := K) (a := D') (xs := refsL ps) (fun k σ H5 => ∃ (v6 : Option V) (L : Addr) (as : List Addr), σ = [some (.int n), some (.int lo), some (.int hi), some (.ref D'), some (.int (0 + (i : Int))), some (.ref L), v6, none] ∧ Same H4 H5 ∧ H5 L = some (.lst (as.map V.ref)) ∧ H L = none ∧ NewL H H5 as (((listsF (rngI lo m) i).take k).flatMap fun r => (rngI lo m).map fun v => r ++ [v])) ⟨v6, L, [], rfl, Same.refl _, h4, s3.free nL, rfl, fun i' a r ha hr => by simp at ha⟩ (fun k σ H1 _ ⟨_, _, _, _, s, _⟩ => .inl (.inl (s _ _ (s4 _ _ hD')))) ?_ ?_⟩
    · rintro k v σ H5 hk ⟨v6, L, as, rfl, s5, hL, nLH, hN⟩
      obtain ⟨c, hc, hcm, rfl⟩ := refsL_at hk
      have hcc := (s4.trans s5) _ _ (hps c hcm)
      have er : (listsF (rngI lo m) i)[k]? = some c.2 := by rw [← eps, List.getElem?_map, hc]; rfl
      have lr := (mem_listsF.mp (List.mem_of_getElem? er)).1
      have kl : k < (listsF (rngI lo m) i).length := (List.getElem?_eq_some_iff.mp er).1
      walk_at "go"
      refine ⟨⟨by omega, by omega, by omega, by omega⟩, fun D5 nD5 => ?_⟩
      rw [hm, Int.toNat_natCast]
      refine lc_rowsR (lo := lo) (n := m) ((rngI lo m).map fun v => c.2 ++ [v]) nD5 (by rw [List.length_map, rng_len]) (small1000 m1000) (fun x => rfl) ?_ ?_
      · intro q l H' hq hl' s' Qt qt
        rw [List.getElem?_map] at hl'
        obtain ⟨v, hv, rfl⟩ := Option.map_eq_some_iff.mp hl'
        unfold rngI at hv
        rw [List.getElem?_map, List.getElem?_range hq] at hv
        cases hv
        walk_at "go"
        refine ⟨(show 1 ≤ sizeLine by decide), fun L2 nL2 => ?_⟩
        obtain ⟨H6, e6, s6, h6⟩ := fresh (.lst [V.int (lo + (q : Int))]) nL2
        rw [e6]
        refine ⟨c.1, L2, _, _, rfl, rfl, (s'.trans s6) _ _ hcc, h6, Nat.le_of_lt (small1000 (by rw [List.length_map]; show c.2.length + 1 ≤ 1000; omega)), fun Z nZ => ?_⟩
        refine qt Z _ (s6.trans (same_upd nZ)) (s6.free nZ) ?_
        rw [upd_same, List.map_append]
        rfl
      · intro H6 bs s6 hD5 hB
        have hb2 : NewL H H6 bs ((rngI lo m).map fun v => c.2 ++ [v]) := ⟨hB.1, fun i' a r ha hr => ⟨(s04.trans s5).free (hB.2 i' a r ha hr).1, (hB.2 i' a r ha hr).2.2⟩⟩
        have hn2 := (hN.same s6).app hb2
        have et : (((listsF (rngI lo m) i).take (k + 1)).flatMap fun r => (rngI lo m).map fun v => r ++ [v]) = (((listsF (rngI lo m) i).take k).flatMap fun r => (rngI lo m).map fun v => r ++ [v]) ++ (rngI lo m).map fun v => c.2 ++ [v] := by
          rw [take_snoc er, List.flatMap_append]
          simp
        rw [← et] at hn2
        have ln := hn2.1
        rw [flat_len, List.length_take, Nat.min_eq_left (by omega)] at ln
        have ln2 : (k + 1) * m ≤ (listsF (rngI lo m) i).length * m := Nat.mul_le_mul_right _ kl
        walk_at "go"
        refine ⟨L, D5, _, _, rfl, rfl, s6 _ _ hL, hD5, Nat.le_of_lt (small1000 (by rw [← List.length_append, ← List.map_append, List.length_map, ln]; omega)), fun Z nZ => ?_⟩
        have s7 := same_upd (o := .lst (as.map V.ref ++ bs.map V.ref)) nZ
        refine ⟨_, Z, as ++ bs, rfl, (s5.trans s6).trans s7, by rw [upd_same, List.map_append], (s04.trans (s5.trans s6)).free nZ, hn2.same s7⟩
    · rintro σ H5 ⟨v6, L, as, rfl, s5, hL, nLH, hN⟩
      have el : (refsL ps).length = (listsF (rngI lo m) i).length := by
        unfold refsL
        rw [← eps, List.length_map, List.length_map]
      rw [el, List.take_length] at hN
      walk_at "go"
      exact ⟨_, _, _, L, rfl, s04.trans s5, nLH, as, hL, hN⟩
  · rintro σ H3 ⟨v4, v5, v6, D', rfl, s3, hR⟩
    rw [Int.toNat_natCast] at hR
    exact ⟨_, rfl, q _ _ s3 hR⟩
def sp_parted_samples (C : Addr) (K : PySem.W.Frag) : Sp := fun vs H Q _ => ∃ (a r b r2 : Addr) (n : Nat) (ss ts : List Step), vs = [.ref a, .ref b] ∧ MixAt C H a r n ss ∧ MixAt C H b r2 n ts ∧ (∀ s ∈ ss, s.ok n) ∧ (∀ s ∈ ts, s.ok n) ∧ 1 ≤ n ∧ n ≤ 4 ∧ ss.length ≤ 100 ∧ ts.length ≤ 100 ∧ max (bitsS ss) (bitsS ts) ≤ 15 ∧ (2 * 2 ^ max (bitsS ss) (bitsS ts) + 1) ^ n ≤ 1000 ∧
  (alikeF n ss ts = true → ∀ H', Same H H' → Q .non H') ∧ (alikeF n ss ts = false → ∀ H' p rw, Same H H' → firstF n ss ts (2 ^ max (bitsS ss) (bitsS ts)) = some rw → H' p = some (.lst (rw.map V.int)) → Q (.ref p) H')
end
end My

namespace My
open PySem PySem.Spec PyProof.Rows L2 Pre
theorem restate {R : L2.St → Hp → Prop} {σ : L2.St} {H : Hp} (σ' : L2.St) (e : σ = σ') (h : R σ' H) : R σ H := by rw [e]; exact h
theorem mk_same {H : Hp} {x dx C : Addr} (nx : H x = none) (ndx : H dx = none) : Same H (upd (upd H dx (.own x)) x (.ins C dx [])) := fun b o e => by
  rw [upd_ne (ne_of_none e nx), upd_ne (ne_of_none e ndx)]
  exact e
theorem mk_kept {H H' : Hp} {x dx C : Addr} (nx : H x = none) (ndx : H dx = none) (kp : ∀ b o, b ≠ x → (upd (upd H dx (.own x)) x (.ins C dx [])) b = some o → H' b = some o) : Same H H' := fun b o e => kp b o (ne_of_none e nx) (mk_same nx ndx b o e)
theorem GenAt.keep {H H' : Hp} {g : Addr} {n : Nat} (h : GenAt H g n) (k : ∀ o, H g = some o → H' g = some o) : GenAt H' g n := by
  obtain ⟨x, y, z, a, b⟩ := h
  exact ⟨x, y, z, k _ a, b⟩
theorem But.all {g : Addr} {H0 H H' : Hp} (b : But g H H') (s : Same H0 H) (n : H0 g = none) : Same H0 H' := fun c o e => b c o (ne_of_none e n) (s c o e)
instance (n : Nat) (s : Step) : Decidable (s.ok n) := by cases s <;> (unfold Step.ok; infer_instance)
/-- ways that meet again, whatever they stored -/
theorem joinS {b : Bool} {A : Prop} {R : L2.St → Hp → Prop} {σ : L2.St} {H : Hp} (Pv : L2.St → Hp → Prop) (cont : ∀ σ' H', Pv σ' H' → R σ' H') (h1 : b = true → (∀ σ' H', Pv σ' H' → R σ' H') → A) (h2 : b = false → Pv σ H) : if b = true then A else R σ H := by
  cases b with
  | true => rw [if_pos rfl]; exact h1 rfl cont
  | false => rw [if_neg (by decide)]; exact cont _ _ (h2 rfl)
theorem pow_cond {n m : Nat} (h1 : 1 ≤ n) (h4 : n ≤ 4) (h : m * n ≤ 6) : m ≤ 6 ∧ (2 * 2 ^ m + 1) ^ n ≤ 1000 := by
  have hm : m ≤ 6 := Nat.le_trans (Nat.le_mul_of_pos_right m h1) h
  have all : ∀ n < 5, ∀ m < 7, 1 ≤ n → m * n ≤ 6 → (2 * 2 ^ m + 1) ^ n ≤ 1000 := by decide +kernel
  exact ⟨hm, all n (by omega) m (by omega) h1 h⟩
end My

namespace My
/-! ### two mixers on all samples within a box -/
def InBox (n h : Nat) (x : List Int) : Prop := x.length = n ∧ ∀ v ∈ x, -(h : Int) ≤ v ∧ v < (h : Int)
def sameIn (n h : Nat) (A B : List Step) : Prop := ∀ x, InBox n h x → playF A x = playF B x
def firstN (h : Nat) (m r : Int) : Int := -(h : Int) + (r - -(h : Int)) % m
def lastN (h : Nat) (m r : Int) : Int := ((h : Int) - 1) - (((h : Int) - 1) - r) % m
theorem firstN_le {h : Nat} {m : Int} (m0 : 0 < m) (r : Int) : -(h : Int) ≤ firstN h m r := by
  have := Int.emod_nonneg (r - -(h : Int)) (Int.ne_of_gt m0)
  unfold firstN
  omega
theorem lastN_lt {h : Nat} {m : Int} (m0 : 0 < m) (r : Int) : lastN h m r < (h : Int) := by
  have := Int.emod_nonneg (((h : Int) - 1) - r) (Int.ne_of_gt m0)
  unfold lastN
  omega
/-- a number of the box, its rest, and how far it is from the first one -/
theorem first_of {h : Nat} {m x : Int} (m0 : 0 < m) (h1 : -(h : Int) ≤ x) : ∃ q : Int, 0 ≤ q ∧ x = firstN h m (x % m) + m * q := by
  refine ⟨(x - -(h : Int)) / m, Int.ediv_nonneg (by omega) (Int.le_of_lt m0), ?_⟩
  unfold firstN
  have e : (x % m - -(h : Int)) % m = (x - -(h : Int)) % m := by
    rw [Int.sub_emod, Int.emod_emod_of_dvd _ (Int.dvd_refl m), ← Int.sub_emod]
  rw [e]
  have := Int.emod_add_mul_ediv (x - -(h : Int)) m
  omega
theorem last_of {h : Nat} {m x : Int} (m0 : 0 < m) (h1 : x < (h : Int)) : x ≤ lastN h m (x % m) := by
  unfold lastN
  have e : (((h : Int) - 1) - x % m) % m = (((h : Int) - 1) - x) % m := by
    rw [Int.sub_emod, Int.emod_emod_of_dvd _ (Int.dvd_refl m), ← Int.sub_emod]
  rw [e]
  have h2 := Int.emod_add_mul_ediv (((h : Int) - 1) - x) m
  have h3 : 0 ≤ m * ((((h : Int) - 1) - x) / m) := Int.mul_nonneg (Int.le_of_lt m0) (Int.ediv_nonneg (by omega) (Int.le_of_lt m0))
  omega
theorem firstN_mod {h : Nat} {m r : Int} : (firstN h m r) % m = r % m := by
  unfold firstN
  rw [Int.add_emod, Int.emod_emod_of_dvd _ (Int.dvd_refl m), ← Int.add_emod]
  congr 1
  omega
theorem lastN_mod {h : Nat} {m r : Int} : (lastN h m r) % m = r % m := by
  unfold lastN
  rw [Int.sub_emod, Int.emod_emod_of_dvd _ (Int.dvd_refl m), ← Int.sub_emod]
  congr 1
  omega
/-- two numbers of one rest are equal or the rest's period apart -/
theorem first_last {h : Nat} {m r : Int} (m0 : 0 < m) (l : firstN h m r < lastN h m r) : firstN h m r + m ≤ lastN h m r := by
  have e : (lastN h m r - firstN h m r) % m = 0 := by
    rw [Int.sub_emod, lastN_mod, firstN_mod, Int.sub_self, Int.zero_emod]
  have d := Int.emod_add_mul_ediv (lastN h m r - firstN h m r) m
  rw [e] at d
  have p : 0 < (lastN h m r - firstN h m r) / m := by
    by_cases c : 0 < (lastN h m r - firstN h m r) / m
    · exact c
    · exfalso
      have : m * ((lastN h m r - firstN h m r) / m) ≤ 0 := Int.mul_nonpos_of_nonneg_of_nonpos (Int.le_of_lt m0) (by omega)
      omega
  have : m * 1 ≤ m * ((lastN h m r - firstN h m r) / m) := Int.mul_le_mul_of_nonneg_left (by omega) (Int.le_of_lt m0)
  omega
def spanF (h : Nat) (m : Int) (r : List Int) : List (Int × Int) := r.map fun v => (firstN h m v, lastN h m v)
def letB (s : List (Int × Int)) : Bool := s.all fun z => decide (z.1 ≤ z.2)
/-- the corners: the firsts, and those with one of them the next one -/
def cornF (m : Int) (s : List (Int × Int)) : List (List Int) :=
  s.map Prod.fst :: ((List.range s.length).filterMap fun i => match s[i]? with | some z => if z.1 < z.2 then some ((s.map Prod.fst).set i (z.1 + m)) else none | none => none)
theorem map_getD {f : Int → Int} {x : List Int} {i : Nat} (h : i < x.length) : (x.map f).getD i 0 = f (x.getD i 0) := by
  rw [List.getD_eq_getElem?_getD, List.getElem?_map, List.getD_eq_getElem?_getD, List.getElem?_eq_getElem h]
  rfl
theorem getD_in {x : List Int} {i : Nat} (h : i < x.length) : x.getD i 0 ∈ x := by
  rw [List.getD_eq_getElem?_getD, List.getElem?_eq_getElem h]
  exact List.getElem_mem h
theorem dot_agree (α β : Int) : ∀ (a b q : List Int), a.length = b.length → (∀ i, q.getD i 0 ≠ 0 → α * a.getD i 0 = β * b.getD i 0) → α * dotP a q = β * dotP b q
  | [], [], q, _, _ => by cases q <;> simp [dotP]
  | [], _ :: _, _, h, _ => by simp at h
  | _ :: _, [], _, h, _ => by simp at h
  | _ :: _, _ :: _, [], _, _ => by simp [dotP]
  | x :: a, y :: b, z :: q, h, k => by
    show α * (x * z + dotP a q) = β * (y * z + dotP b q)
    have ih := dot_agree α β a b q (by simpa using h) fun i hi => by simpa using k (i + 1) (by simpa using hi)
    have h0 : α * (x * z) = β * (y * z) := by
      by_cases c : z = 0
      · rw [c, Int.mul_zero, Int.mul_zero, Int.mul_zero, Int.mul_zero]
      · have := k 0 (by simpa using c)
        rw [← Int.mul_assoc, ← Int.mul_assoc]
        exact congrArg (fun t => t * z) this
    rw [Int.mul_add, Int.mul_add, ih, h0]
def unitC (c : Int) (n j : Nat) : List Int := (List.range' 0 n).map fun k => if j = k then c else 0
theorem unitC_len (c : Int) (n j : Nat) : (unitC c n j).length = n := by simp [unitC]
theorem unitC_getD {c : Int} {n j k : Nat} (hk : k < n) : (unitC c n j).getD k 0 = if j = k then c else 0 := by
  unfold unitC
  rw [List.getD_eq_getElem?_getD, List.getElem?_map, List.getElem?_range' hk]
  simp
theorem dot_unitC {n : Nat} {l : List Int} (c : Int) (hl : l.length = n) (j : Nat) (hj : j < n) : dotP l (unitC c n j) = c * l.getD j 0 := by
  have e : unitC c n j = ((List.range' 0 n).map fun k => if j = k then (1 : Int) else 0).map fun x => x * c := by
    unfold unitC
    rw [List.map_map]
    apply List.map_congr_left
    intro k _
    by_cases h : j = k <;> simp [h]
  have e2 : ∀ (a b : List Int), dotP a (b.map fun x => x * c) = c * dotP a b := by
    intro a
    induction a with
    | nil => intro b; cases b <;> simp [dotP]
    | cons x a ih =>
      intro b
      cases b with
      | nil => simp [dotP]
      | cons y b =>
        show x * (y * c) + dotP a (b.map fun x => x * c) = c * (x * y + dotP a b)
        rw [ih, Int.mul_add, Int.mul_comm c (x * y), Int.mul_assoc]
  rw [e, e2, dot_one hl j hj]
/-- rows that differ by the period at one place, both alike: the matrices agree there -/
theorem entry_of {n m : Nat} {A B : List Step} (hA : ∀ s ∈ A, s.ok n) (hB : ∀ s ∈ B, s.ok n) (mA : bitsS A ≤ m) (mB : bitsS B ≤ m) {u : List Int} {c : Int} {j : Nat} (c0 : c ≠ 0) (hu : u.length = n) (hj : j < n)
    (z0 : playF A u = playF B u) (z1 : playF A (addM u (2 ^ m) (unitC c n j)) = playF B (addM u (2 ^ m) (unitC c n j))) (i : Nat) (hi : i < n) :
    2 ^ (m - bitsS A) * ((numF n A).getD i []).getD j 0 = 2 ^ (m - bitsS B) * ((numF n B).getD i []).getD j 0 := by
  have lA := num_len hA
  have lB := num_len hB
  have hc := unitC_len c n j
  rw [play_far hA mA hu hc, play_far hB mB hu hc, z0] at z1
  have z2 : ∀ u v : List Int, u = v → u.getD i 0 = v.getD i 0 := fun u v e => by rw [e]
  have z3 := z2 _ _ z1
  rw [addM_getD (by rw [play_len, mulV_len, lA.1, hu]), addM_getD (by rw [play_len, mulV_len, lB.1, hu]), mul_getD, mul_getD, dot_unitC c (lA.2 _ (getD_mem (by rw [lA.1]; exact hi))) j hj, dot_unitC c (lB.2 _ (getD_mem (by rw [lB.1]; exact hi))) j hj] at z3
  have z4 : 2 ^ (m - bitsS A) * (c * ((numF n A).getD i []).getD j 0) = 2 ^ (m - bitsS B) * (c * ((numF n B).getD i []).getD j 0) := by omega
  have z5 : c * (2 ^ (m - bitsS A) * ((numF n A).getD i []).getD j 0) = c * (2 ^ (m - bitsS B) * ((numF n B).getD i []).getD j 0) := by
    rw [← Int.mul_assoc, Int.mul_comm c, Int.mul_assoc, z4, ← Int.mul_assoc, Int.mul_comm _ c, Int.mul_assoc]
  exact Int.eq_of_mul_eq_mul_left c0 z5
theorem play_of_entries {n m : Nat} {A B : List Step} (hA : ∀ s ∈ A, s.ok n) (hB : ∀ s ∈ B, s.ok n) (mA : bitsS A ≤ m) (mB : bitsS B ≤ m) {u q : List Int} (hu : u.length = n) (hq : q.length = n) (z0 : playF A u = playF B u)
    (k : ∀ j, j < n → q.getD j 0 ≠ 0 → ∀ i, i < n → 2 ^ (m - bitsS A) * ((numF n A).getD i []).getD j 0 = 2 ^ (m - bitsS B) * ((numF n B).getD i []).getD j 0) :
    playF A (addM u (2 ^ m) q) = playF B (addM u (2 ^ m) q) := by
  have lA := num_len hA
  have lB := num_len hB
  rw [play_far hA mA hu hq, play_far hB mB hu hq, z0]
  refine ext_getD (by rw [addM_len (by rw [play_len, mulV_len, lA.1, hu]), addM_len (by rw [play_len, mulV_len, lB.1, hu])]) fun i hi => ?_
  have hi' : i < n := by rw [addM_len (by rw [play_len, mulV_len, lA.1, hu]), play_len, hu] at hi; exact hi
  rw [addM_getD (by rw [play_len, mulV_len, lA.1, hu]), addM_getD (by rw [play_len, mulV_len, lB.1, hu]), mul_getD, mul_getD]
  have a1 := lA.2 _ (getD_mem (by rw [lA.1]; exact hi'))
  have b1 := lB.2 _ (getD_mem (by rw [lB.1]; exact hi'))
  have e := dot_agree (2 ^ (m - bitsS A)) (2 ^ (m - bitsS B)) ((numF n A).getD i []) ((numF n B).getD i []) q (by rw [a1, b1]) fun j hj => by
    by_cases c : j < n
    · exact k j c hj i hi'
    · exfalso
      apply hj
      rw [List.getD_eq_getElem?_getD, List.getElem?_eq_none (by omega)]
      rfl
  rw [e]
theorem span_len (h : Nat) (m : Int) (r : List Int) : (spanF h m r).length = r.length := by simp [spanF]
theorem span_fst (h : Nat) (m : Int) (r : List Int) : (spanF h m r).map Prod.fst = r.map (firstN h m) := by
  unfold spanF
  rw [List.map_map]
  rfl
theorem corn_mem {h : Nat} {m : Int} {r : List Int} {i : Nat} (hi : i < r.length) (l : firstN h m (r.getD i 0) < lastN h m (r.getD i 0)) : (r.map (firstN h m)).set i (firstN h m (r.getD i 0) + m) ∈ cornF m (spanF h m r) := by
  unfold cornF
  refine List.mem_cons_of_mem _ (List.mem_filterMap.mpr ⟨i, List.mem_range.mpr (by rw [span_len]; exact hi), ?_⟩)
  have e : (spanF h m r)[i]? = some (firstN h m (r.getD i 0), lastN h m (r.getD i 0)) := by
    unfold spanF
    rw [List.getElem?_map, List.getD_eq_getElem?_getD, List.getElem?_eq_getElem hi]
    rfl
  rw [e, span_fst]
  exact if_pos l
/-- alike at the corners, alike at each row of the box with these rests -/
theorem corn_same {n m h : Nat} {A B : List Step} (hA : ∀ s ∈ A, s.ok n) (hB : ∀ s ∈ B, s.ok n) (mA : bitsS A ≤ m) (mB : bitsS B ≤ m) {x : List Int} (hx : InBox n h x)
    (k : ∀ c ∈ cornF (2 ^ m) (spanF h (2 ^ m) (x.map fun v => v % 2 ^ m)), playF A c = playF B c) : playF A x = playF B x := by
  obtain ⟨hl, hb⟩ := hx
  have m0 : (0 : Int) < 2 ^ m := Int.pow_pos (by decide)
  have hr : (x.map fun v => v % 2 ^ m).length = n := by rw [List.length_map, hl]
  have hu : ((x.map fun v => v % 2 ^ m).map (firstN h (2 ^ m))).length = n := by rw [List.length_map, hr]
  obtain ⟨q, hq, hq2⟩ : ∃ q : List Int, q.length = n ∧ ∀ i, i < n → 0 ≤ q.getD i 0 ∧ x.getD i 0 = firstN h (2 ^ m) (x.getD i 0 % 2 ^ m) + 2 ^ m * q.getD i 0 := by
    refine ⟨x.map fun v => (v - -(h : Int)) / 2 ^ m, by rw [List.length_map, hl], fun i hi => ?_⟩
    rw [map_getD (f := fun v => (v - -(h : Int)) / 2 ^ m) (by omega)]
    have hb1 := (hb _ (getD_in (show i < x.length by omega))).1
    refine ⟨Int.ediv_nonneg (by omega) (Int.le_of_lt m0), ?_⟩
    generalize x.getD i 0 = v at hb1
    unfold firstN
    have e : (v % 2 ^ m - -(h : Int)) % 2 ^ m = (v - -(h : Int)) % 2 ^ m := by
      rw [Int.sub_emod, Int.emod_emod_of_dvd _ (Int.dvd_refl _), ← Int.sub_emod]
    rw [e]
    have := Int.emod_add_mul_ediv (v - -(h : Int)) (2 ^ m)
    omega
  have ur : ∀ i, i < n → ((x.map fun v => v % 2 ^ m).map (firstN h (2 ^ m))).getD i 0 = firstN h (2 ^ m) (x.getD i 0 % 2 ^ m) := fun i hi => by
    rw [map_getD (by omega), map_getD (by omega)]
  have ex : x = addM ((x.map fun v => v % 2 ^ m).map (firstN h (2 ^ m))) (2 ^ m) q := by
    refine ext_getD (by rw [addM_len (by rw [hu, hq]), hu, hl]) fun i hi => ?_
    rw [addM_getD (by rw [hu, hq]), ur i (by omega)]
    exact (hq2 i (by omega)).2
  have z0 : playF A ((x.map fun v => v % 2 ^ m).map (firstN h (2 ^ m))) = playF B ((x.map fun v => v % 2 ^ m).map (firstN h (2 ^ m))) := k _ (by
    rw [← span_fst]
    exact List.mem_cons_self)
  rw [ex]
  refine play_of_entries hA hB mA mB hu hq z0 fun j hj hqj => entry_of hA hB mA mB (c := 1) (by decide) hu hj z0 ?_
  have l : firstN h (2 ^ m) (x.getD j 0 % 2 ^ m) < lastN h (2 ^ m) (x.getD j 0 % 2 ^ m) := by
    have h1 := last_of (h := h) m0 (hb _ (getD_in (show j < x.length by omega))).2
    obtain ⟨q0, h2⟩ := hq2 j hj
    have : 2 ^ m * 1 ≤ 2 ^ m * q.getD j 0 := Int.mul_le_mul_of_nonneg_left (by omega) (Int.le_of_lt m0)
    omega
  have := k _ (corn_mem (i := j) (by omega) (by rw [map_getD (by omega)]; exact l))
  rw [map_getD (by omega)] at this
  have e : addM ((x.map fun v => v % 2 ^ m).map (firstN h (2 ^ m))) (2 ^ m) (unitC 1 n j) = ((x.map fun v => v % 2 ^ m).map (firstN h (2 ^ m))).set j (firstN h (2 ^ m) (x.getD j 0 % 2 ^ m) + 2 ^ m) := by
    have hc := unitC_len 1 n j
    refine ext_getD (by rw [addM_len (by rw [hu, hc]), List.length_set]) fun i hi => ?_
    have hi' : i < n := by rw [addM_len (by rw [hu, hc]), hu] at hi; exact hi
    rw [addM_getD (by rw [hu, hc]), getD_set (by omega), unitC_getD hi', ur i hi']
    by_cases c : j = i
    · rw [if_pos c, if_pos c, c, Int.mul_one]
    · rw [if_neg c, if_neg c, Int.mul_zero, Int.add_zero]
  rw [e]
  exact this
/-- the corners lie in the box -/
theorem corn_in {n h : Nat} {m : Int} (m0 : 0 < m) {r c : List Int} (hr : r.length = n) (l : letB (spanF h m r) = true) (hc : c ∈ cornF m (spanF h m r)) : InBox n h c := by
  have l1 : ∀ i, i < r.length → firstN h m (r.getD i 0) ≤ lastN h m (r.getD i 0) := fun i hi => by
    have := List.all_eq_true.mp l (firstN h m (r.getD i 0), lastN h m (r.getD i 0)) (by
      unfold spanF
      exact List.mem_map.mpr ⟨_, getD_in hi, rfl⟩)
    exact of_decide_eq_true this
  have f0 : InBox n h (r.map (firstN h m)) := ⟨by rw [List.length_map, hr], fun v hv => by
    obtain ⟨w, hw, rfl⟩ := List.mem_map.mp hv
    obtain ⟨i, hi, e⟩ := List.mem_iff_getElem.mp hw
    have l2 := l1 i hi
    rw [List.getD_eq_getElem?_getD, List.getElem?_eq_getElem hi, Option.getD_some, e] at l2
    exact ⟨firstN_le m0 w, by have := lastN_lt (h := h) m0 w; omega⟩⟩
  unfold cornF at hc
  rcases List.mem_cons.mp hc with rfl | hc
  · rw [span_fst]
    exact f0
  · obtain ⟨i, hi, e⟩ := List.mem_filterMap.mp hc
    rw [List.mem_range, span_len] at hi
    have e2 : (spanF h m r)[i]? = some (firstN h m (r.getD i 0), lastN h m (r.getD i 0)) := by
      unfold spanF
      rw [List.getElem?_map, List.getD_eq_getElem?_getD, List.getElem?_eq_getElem hi]
      rfl
    rw [e2, span_fst] at e
    dsimp only at e
    by_cases c2 : firstN h m (r.getD i 0) < lastN h m (r.getD i 0)
    · rw [if_pos c2] at e
      cases e
      refine ⟨by rw [List.length_set]; exact f0.1, fun v hv => ?_⟩
      rcases List.mem_or_eq_of_mem_set hv with hv | rfl
      · exact f0.2 v hv
      · have := first_last m0 c2
        have h1 := firstN_le (h := h) m0 (r.getD i 0)
        have h2 := lastN_lt (h := h) m0 (r.getD i 0)
        exact ⟨by omega, by omega⟩
    · rw [if_neg c2] at e
      cases e
theorem box_let {n h : Nat} {m : Int} (m0 : 0 < m) {x : List Int} (hx : InBox n h x) : letB (spanF h m (x.map fun v => v % m)) = true := by
  unfold letB spanF
  rw [List.all_eq_true]
  intro z hz
  obtain ⟨w, hw, rfl⟩ := List.mem_map.mp hz
  obtain ⟨v, hv, rfl⟩ := List.mem_map.mp hw
  obtain ⟨h1, h2⟩ := hx.2 v hv
  obtain ⟨q, q0, e⟩ := first_of (h := h) m0 h1
  have := last_of (h := h) m0 h2
  have p : 0 ≤ m * q := Int.mul_nonneg (Int.le_of_lt m0) q0
  exact decide_eq_true (by show firstN h m (v % m) ≤ lastN h m (v % m); omega)
/-- alike at all corners of all rests: alike within the box -/
theorem same_of_corners {n m h : Nat} {A B : List Step} (hA : ∀ s ∈ A, s.ok n) (hB : ∀ s ∈ B, s.ok n) (mA : bitsS A ≤ m) (mB : bitsS B ≤ m)
    (k : ∀ r ∈ listsF (rngI 0 (2 ^ m)) n, letB (spanF h (2 ^ m) r) = true → ∀ c ∈ cornF (2 ^ m) (spanF h (2 ^ m) r), playF A c = playF B c) : sameIn n h A B := fun x hx => by
  have m0 : (0 : Int) < 2 ^ m := Int.pow_pos (by decide)
  refine corn_same hA hB mA mB hx (k _ ?_ (box_let m0 hx))
  refine mem_listsF.mpr ⟨by rw [List.length_map, hx.1], fun v hv => ?_⟩
  obtain ⟨w, _, rfl⟩ := List.mem_map.mp hv
  refine mem_rngI.mpr ⟨Int.emod_nonneg _ (Int.ne_of_gt m0), ?_⟩
  have := Int.emod_lt_of_pos w m0
  rw [Int.natCast_pow]
  show w % 2 ^ m < 0 + (2 : Int) ^ m
  omega
/-- a box that holds a period on the side below: alike within is alike -/
theorem alike_of_in {n h : Nat} {A B : List Step} (hA : ∀ s ∈ A, s.ok n) (hB : ∀ s ∈ B, s.ok n) (hh : 2 ^ max (bitsS A) (bitsS B) ≤ h) (k : sameIn n h A B) : alikeF n A B = true := by
  unfold alikeF
  generalize hm : max (bitsS A) (bitsS B) = m at hh
  have p0 : (0 : Int) < 2 ^ m := Int.pow_pos (by decide)
  have pc : ((2 ^ m : Nat) : Int) = 2 ^ m := by rw [Int.natCast_pow]; rfl
  have hh' : (2 : Int) ^ m ≤ (h : Int) := by rw [← pc]; exact Int.ofNat_le.mpr hh
  have mA : bitsS A ≤ m := by omega
  have mB : bitsS B ≤ m := by omega
  have lA := num_len hA
  have lB := num_len hB
  have hz : (List.replicate n (0 : Int)).length = n := List.length_replicate
  have z0 := k (List.replicate n 0) ⟨hz, fun v hv => by rw [List.eq_of_mem_replicate hv]; exact ⟨by omega, by omega⟩⟩
  rw [Bool.and_eq_true]
  refine ⟨decide_eq_true ?_, sameOn_iff.mpr fun r hr => k r ?_⟩
  · have entry : ∀ i j, i < n → j < n → ((numF n A).getD i []).getD j 0 * 2 ^ bitsS B = ((numF n B).getD i []).getD j 0 * 2 ^ bitsS A := fun i j hi hj => by
      have hu := unitC_len (-1) n j
      have z1 := k (addM (List.replicate n 0) (2 ^ m) (unitC (-1) n j)) ⟨by rw [addM_len (by rw [hz, hu]), hz], fun v hv => by
        obtain ⟨i2, hi2, rfl⟩ := List.mem_iff_getElem.mp hv
        have hi3 : i2 < n := by
          rw [addM_len (by rw [hz, hu]), hz] at hi2
          exact hi2
        have e : (addM (List.replicate n 0) (2 ^ m) (unitC (-1) n j))[i2] = (List.replicate n (0 : Int)).getD i2 0 + 2 ^ m * (unitC (-1) n j).getD i2 0 := by
          rw [← addM_getD (by rw [hz, hu]) i2, List.getD_eq_getElem?_getD, List.getElem?_eq_getElem hi2]
          rfl
        rw [e, unitC_getD hi3]
        have e0 : (List.replicate n (0 : Int)).getD i2 0 = 0 := by
          rw [List.getD_eq_getElem?_getD, List.getElem?_replicate, if_pos hi3]
          rfl
        rw [e0]
        by_cases c : j = i2
        · rw [if_pos c]
          exact ⟨by omega, by omega⟩
        · rw [if_neg c]
          exact ⟨by omega, by omega⟩⟩
      refine parts_eq.mpr ?_
      rw [hm]
      exact entry_of hA hB mA mB (c := -1) (by decide) hz hj z0 z1 i hi
    unfold linesF
    apply List.ext_getElem
    · rw [List.length_map, List.length_map, lA.1, lB.1]
    · intro i h1 h3
      have hi : i < n := by
        have := h1
        rw [List.length_map, lA.1] at this
        exact this
      have iA : i < (numF n A).length := by rw [lA.1]; exact hi
      have iB : i < (numF n B).length := by rw [lB.1]; exact hi
      have la : (numF n A)[i].length = n := lA.2 _ (List.getElem_mem iA)
      have lb : (numF n B)[i].length = n := lB.2 _ (List.getElem_mem iB)
      rw [List.getElem_map, List.getElem_map]
      apply List.ext_getElem
      · exact (List.length_map _).trans (la.trans (lb.symm.trans (List.length_map _).symm))
      · intro j h4 h5
        have hj : j < n := Nat.lt_of_lt_of_eq h4 ((List.length_map _).trans la)
        rw [List.getElem_map, List.getElem_map]
        have := entry i j hi hj
        rw [List.getD_eq_getElem?_getD, List.getD_eq_getElem?_getD, List.getElem?_eq_getElem iA] at this
        rw [List.getD_eq_getElem?_getD, List.getD_eq_getElem?_getD, List.getElem?_eq_getElem iB] at this
        simp only [Option.getD_some] at this
        rw [List.getElem?_eq_getElem (show j < (numF n A)[i].length by rw [la]; exact hj), List.getElem?_eq_getElem (show j < (numF n B)[i].length by rw [lb]; exact hj)] at this
        exact this
  · obtain ⟨h3, h4⟩ := mem_listsF.mp hr
    exact ⟨h3, fun v hv => by
      obtain ⟨h5, h6⟩ := mem_rngI.mp (h4 v hv)
      exact ⟨by omega, by omega⟩⟩
theorem in_alike {n h : Nat} {A B : List Step} (hA : ∀ s ∈ A, s.ok n) (hB : ∀ s ∈ B, s.ok n) (hh : 2 ^ max (bitsS A) (bitsS B) ≤ h) : sameIn n h A B ↔ alikeF n A B = true :=
  ⟨alike_of_in hA hB hh, fun e x hx => alike_all hA hB e hx.1⟩
theorem sameIn_comm {n h : Nat} {A B : List Step} (k : sameIn n h A B) : sameIn n h B A := fun x hx => (k x hx).symm
theorem sameIn_on {n h : Nat} {A B : List Step} : sameIn n h A B ↔ sameOn A B (listsF (rngI (-(h : Int)) (2 * h)) n) = true := by
  rw [sameOn_iff]
  constructor
  · intro k r hr
    obtain ⟨h3, h4⟩ := mem_listsF.mp hr
    exact k r ⟨h3, fun v hv => by have := mem_rngI.mp (h4 v hv); omega⟩
  · intro k x hx
    exact k x (mem_listsF.mpr ⟨hx.1, fun v hv => mem_rngI.mpr (by have := hx.2 v hv; omega)⟩)
end My

namespace My
open PySem PySem.Spec PyProof.Rows L2 Pre
/-! ### spans: the least and the greatest number of a box with a rest -/
def fstG (m : Int) (b : Int × Int) (r : Int) : Int := b.1 + (r - b.1) % m
def lstG (m : Int) (b : Int × Int) (r : Int) : Int := b.2 - (b.2 - r) % m
def spanG (m : Int) (bs : List (Int × Int)) (rs : List Int) : List (Int × Int) := List.zipWith (fun b r => (fstG m b r, lstG m b r)) bs rs
def letG (s : List (Int × Int)) : Bool := s.all fun z => decide (z.1 ≤ z.2)
def spanD (z : Int × Int) : PyData := if z.1 ≤ z.2 then pairD z else .none
theorem spans_let {s : List (Int × Int)} (h : letG s = true) : s.map spanD = s.map pairD := by
  apply List.map_congr_left
  intro z hz
  exact if_pos (of_decide_eq_true (List.all_eq_true.mp h z hz))
theorem spans_none (s : List (Int × Int)) : ((s.map spanD).any fun z => PyData.eqv z .none) = !letG s := by
  induction s with
  | nil => rfl
  | cons z s ih =>
    rw [List.map_cons, List.any_cons, ih]
    show _ = !(decide (z.1 ≤ z.2) && letG s)
    unfold spanD
    by_cases c : z.1 ≤ z.2
    · rw [if_pos c, decide_eq_true c]
      rfl
    · rw [if_neg c, decide_eq_false c]
      rfl
theorem spans_shaped (s : List (Int × Int)) : SeqAt.shaped (.list (s.map spanD)) = true := by
  have h1 : ∀ l : List (Int × Int), PyData.canLayAll0 (l.map spanD) = true := fun l => by
    induction l with
    | nil => rfl
    | cons r l ih =>
      show (PyData.canLay0 (spanD r) && PyData.canLayAll0 (l.map spanD)) = true
      rw [ih]
      unfold spanD
      split <;> rfl
  have h2 : ∀ l : List (Int × Int), PyData.depthAll (l.map spanD) ≤ 1 := fun l => by
    induction l with
    | nil => simp [PyData.depthAll]
    | cons r l ih =>
      show PyData.depthAll (spanD r :: l.map spanD) ≤ 1
      rw [PyData.depthAll]
      have : PyData.depth (spanD r) ≤ 1 := by
        unfold spanD
        split
        · show PyData.depth (.tuple [.int r.1, .int r.2]) ≤ 1
          rw [PyData.depth, show ([PyData.int r.1, PyData.int r.2] : List PyData) = [r.1, r.2].map PyData.int from rfl, depth_ints]
          omega
        · simp [PyData.depth]
      omega
  show (PyData.canLay0 (.list (s.map spanD)) && decide (PyData.depth (.list (s.map spanD)) ≤ 64)) = true
  rw [Bool.and_eq_true]
  have := h2 s
  exact ⟨by rw [PyData.canLay0]; exact h1 s, decide_eq_true (by rw [PyData.depth]; omega)⟩
local macro_rules | `(tactic| walk_at "go") => `(tactic| repeat (first | (with_reducible first | refine iteT ?_ | refine iteF ?_ | refine iteNtt ?_ | refine iteNff ?_ | refine iteET (by omega) ?_ | refine iteEF (by omega) ?_ | refine iteENT (by omega) ?_ | refine iteENF (by omega) ?_ | refine iteDT (by omega) ?_ | refine iteDF (by omega) ?_ | refine iteNT (by omega) ?_ | refine iteNF (by omega) ?_) | refine ⟨_, rfl, ?_⟩ | refine ⟨_, _, rfl, rfl, ?_⟩ | refine ⟨_, _, rfl, ?_⟩ | refine ⟨rfl, ?_⟩ | refine .inl ⟨_, rfl, ?_⟩ | refine .inr ⟨_, rfl, ?_⟩))
local macro_rules | `(tactic| walk_at "b") => `(tactic| try dsimp (config := { proj := false, iota := false, eta := false, zeta := false }) only)
section
variable {P : Program} {w : World} {K : PySem.W.Frag} {mg : Str → Option Value} {base : Heap}
def sp_span_of (K : PySem.W.Frag) : Sp := fun vs H Q _ => ∃ (S : List Addr) (t : Addr) (z : Int × Int) (r : Int) (b : Nat), vs = [.ref t, .int r, .int b] ∧ Has S H ∧ SqT K H t [.int z.1, .int z.2] ∧ b ≤ 15 ∧ ∀ H' v, Same H H' → Dt (rs S H') v (spanD (fstG (2 ^ b) z r, lstG (2 ^ b) z r)) → Q v H'
theorem G_span_of (T : Top K mg) : FnOk P w K mg base CX0 1 T.f_span_of T.fd_span_of ["box", "rest", "bits"] (sp_span_of K) := by
  refine T.F_span_of.ok sc_span_of (fun vs H Q E h => by obtain ⟨S, t, z, r, b, rfl, _⟩ := h; rfl) (fun cdv A outer s H vs Q E hr h => ?_)
  obtain ⟨S, t, z, r, b, rfl, hS, hT, hb, q⟩ := h
  refine ⟨_, PSs.nox (pss_cons (ps_set (i := 3) sc_span_of.nd rfl (by first | exact Or.inl rfl | exact Or.inr rfl) (pe_op op_shl pe_int (pv 2)))
  (pss_cons (ps_par (by rfl) sc_span_of.nd (i := 4) (j := 5) rfl rfl (by decide) rfl rfl (pa_cons (pe_op op_add (pe_ix (k_ixT K rfl) (pv 0) pe_int (fun _ _ => rfl)) (pe_op op_mod (pe_op op_sub (pv 1) (pe_ix (k_ixT K rfl) (pv 0) pe_int (fun _ _ => rfl))) (pv 3))) (pa_cons (pe_op op_sub (pe_ix (k_ixT K rfl) (pv 0) pe_int (fun _ _ => rfl)) (pe_op op_mod (pe_op op_sub (pe_ix (k_ixT K rfl) (pv 0) pe_int (fun _ _ => rfl)) (pv 1)) (pv 3))) pa_nil)) (by rfl))
  (pss_one (ps_ret (pe_ifExp (pt_cmpR op_le (pv 4) (pv 5) (nomark _)) (pe_tup (pa_cons (pv 4) (pa_cons (pv 5) pa_nil))) pe_non))))), ?_⟩
  have hp : (0 : Int) < ((2 ^ b : Nat) : Int) := Int.natCast_pos.mpr (Nat.two_pow_pos b)
  have ep : ((2 ^ b : Nat) : Int) = 2 ^ b := by rw [Int.natCast_pow]; rfl
  walk_at "go"
  refine ⟨⟨by omega, by omega, by decide⟩, ?_⟩
  walk_at "b"
  rw [shl_one]
  walk_at "go"
  refine ⟨t, _, _, _, rfl, rfl, hT, rfl, ?_⟩
  walk_at "go"
  refine ⟨t, _, _, _, rfl, rfl, hT, rfl, ?_⟩
  walk_at "go"
  refine ⟨hp, ?_⟩
  walk_at "go"
  refine ⟨t, _, _, _, rfl, rfl, hT, rfl, ?_⟩
  walk_at "go"
  refine ⟨t, _, _, _, rfl, rfl, hT, rfl, ?_⟩
  walk_at "go"
  refine ⟨hp, ?_⟩
  walk_at "go"
  rw [ep]
  walk_at "b"
  by_cases c : fstG (2 ^ b) z r ≤ lstG (2 ^ b) z r
  · refine iteDT c ?_
    walk_at "go"
    refine ⟨(show 2 ≤ sizeLine by decide), fun p np => ?_⟩
    refine q _ (.ref p) (same_upd np) ?_
    unfold spanD
    rw [if_pos c]
    exact .tup (by rw [rs_out (hS.out np)]; exact upd_same) (.cons (.int _) (.cons (.int _) .nil))
  · refine iteDF c ?_
    refine q _ _ (Same.refl _) ?_
    unfold spanD
    rw [if_neg c]
    exact .non
def sp_spans_of (K : PySem.W.Frag) : Sp := fun vs H Q _ => ∃ (p l : Addr) (bs : List (Int × Int)) (rs : List Int) (b : Nat), vs = [.ref p, .ref l, .int b] ∧ Dt H (.ref p) (.list (bs.map pairD)) ∧ H l = some (.lst (rs.map V.int)) ∧ bs.length = rs.length ∧ rs.length ≤ 1000 ∧ b ≤ 15 ∧
  (letG (spanG (2 ^ b) bs rs) = false → ∀ H', Same H H' → Q .non H') ∧ (letG (spanG (2 ^ b) bs rs) = true → ∀ H' D, Same H H' → Dt H' (.ref D) (.list ((spanG (2 ^ b) bs rs).map pairD)) → Q (.ref D) H')
theorem G_spans_of (T : Top K mg) : FnOk P w K mg base CX0 2 T.f_spans_of T.fd_spans_of ["boxes", "rests", "bits"] (sp_spans_of K) := by
  refine T.F_spans_of.ok sc_spans_of (fun vs H Q E h => by obtain ⟨p, l, bs, rs, b, rfl, _⟩ := h; rfl) (fun cdv A outer s H vs Q E hr h => ?_)
  obtain ⟨p, l, bs, rs, b, rfl, dP, hL, hlen, hz, hb, q1, q2⟩ := h
  refine ⟨_, PSs.nox (pss_cons (ps_setLc (i := 3) (own := [("box", 4), ("rest", 5)]) (g := gTup K 2 (gCons (gName 4) (gCons (gName 5) (gNil)))) (tt := tYes) (by rfl) sc_spans_of.nd rfl rfl (sw_true rfl rfl rfl (by decide +kernel)) (k_piZL K rfl (by rfl) T.n_zip (pa_cons (pv 0) (pa_cons (pv 1) pa_nil)) (pk_cons pe_bl pk_nil)) (blkOk_by (own := [("box", 4), ("rest", 5)]) (N := N_spans_of) (sc := defScope s_spans_of) (by decide +kernel)) (fun _ _ _ _ _ => (k_pgT K rfl (by rfl) (pgs_cons (pg_name (i := 4) sc_spans_of.nd rfl (by first | exact Or.inl rfl | exact Or.inr rfl)) (pgs_cons (pg_name (i := 5) sc_spans_of.nd rfl (by first | exact Or.inl rfl | exact Or.inr rfl)) pgs_nil)))) (fun _ _ _ _ _ => pts_nil) (fun _ _ _ _ _ => (pe_call (G_span_of T) (hr.mono (by decide)) (by rfl) T.g_span_of T.F_span_of.kp T.b_span_of .nil pass0 (pa_cons (pv 4) (pa_cons (pv 5) (pa_cons (pv 2) pa_nil))))))
  (pss_one (ps_ret (pe_ifExp (pt_cmpR (k_inD K rfl (huD hr)) pe_non (pv 3) (by rfl)) pe_non (pv 3))))), ?_⟩
  obtain ⟨as, hA, hal, hat⟩ := dt_pairs (K := K) dP
  have lz : (spanG (2 ^ b) bs rs).length = rs.length := by
    unfold spanG
    rw [List.length_zipWith, hlen, Nat.min_self]
  walk_at "go"
  refine ⟨p, l, _, _, rfl, hA, .inl (.inl hL), fun D nD => ?_⟩
  refine lc_dW (walk_zl (K := K) (a := p) (b := l) (xs := as.map V.ref) (ys := rs.map V.int) (by rw [List.length_map, List.length_map, hal, hlen])) (S := []) Has.nil ((spanG (2 ^ b) bs rs).map fun z => some (spanD z)) nD (by rw [List.length_map, lz, List.length_map, hal, hlen]) (by rw [List.length_map, hal, hlen]; exact small1000 hz) (fun H' s => ⟨s.seq hA, s.seq (.inl (.inl hL))⟩) ?_ ?_
  · rintro j o H0 x H'' hj ho s0 hH ⟨T1, x1, y1, rfl, nT, rfl, e1, e2⟩ Qt qt
    have st := same_upd (o := .tup [x1, y1]) nT
    dsimp only at e1
    rw [List.getElem?_map] at e1
    obtain ⟨t1, et1, rfl⟩ := Option.map_eq_some_iff.mp e1
    obtain ⟨r1, er1, rfl⟩ := int_at e2
    have hjb : j < bs.length := by rw [← hal]; exact (List.getElem?_eq_some_iff.mp et1).1
    have eb : bs[j]? = some bs[j] := List.getElem?_eq_getElem hjb
    have ht := hat j t1 _ et1 eb
    generalize bs[j] = z at eb ht
    have eo : o = some (spanD (fstG (2 ^ b) z r1, lstG (2 ^ b) z r1)) := by
      unfold spanG at ho
      rw [List.getElem?_map, List.getElem?_zipWith, eb, er1] at ho
      exact (Option.some.inj ho).symm
    subst eo
    refine ⟨T1, _, rfl, .inl (.inl upd_same), rfl, ?_⟩
    have hT := Same.tup (s0.trans st) ht
    generalize upd H0 T1 (.tup [V.ref t1, V.int r1]) = H8 at st hT
    refine ⟨_, _, rfl, _, _, rfl, rfl, ⟨rfl, ?_⟩⟩
    walk_at "go"
    refine ⟨[D], t1, z, r1, b, rfl, (hH.same st), hT, hb, fun H9 v s9 d9 => ?_⟩
    exact qt _ _ (st.trans s9) d9
  · intro H7 s7 nD7 dD
    rw [sel_map, rs_nil] at dD
    walk_at "go"
    refine ⟨.none, (spanG (2 ^ b) bs rs).map spanD, .non, dD.dp, rfl, spans_shaped _, ?_⟩
    rw [spans_none]
    walk_at "go"
    cases e : letG (spanG (2 ^ b) bs rs) with
    | true =>
      rw [spans_let e] at dD
      walk_at "go"
      exact q2 e _ _ s7 dD
    | false =>
      walk_at "go"
      exact q1 e _ s7
def sp_box_of : Sp := fun vs H Q _ => ∃ (S : List Addr) (d : Nat), vs = [.int d] ∧ Has S H ∧ 1 ≤ d ∧ d ≤ 100 ∧ ∀ H' v, Same H H' → Dt (rs S H') v (pairD (-((2 ^ (d - 1) : Nat) : Int), ((2 ^ (d - 1) : Nat) : Int) - 1)) → Q v H'
theorem G_box_of (T : Top K mg) : FnOk P w K mg base CX0 1 T.f_box_of T.fd_box_of ["depth"] sp_box_of := by
  refine T.F_box_of.ok sc_box_of (fun vs H Q E h => by obtain ⟨S, d, rfl, _⟩ := h; rfl) (fun cdv A outer s H vs Q E hr h => ?_)
  obtain ⟨S, d, rfl, hS, hd1, hd, q⟩ := h
  refine ⟨_, PSs.nox (pss_one (ps_ret (pe_tup (pa_cons (pe_op op_sub pe_int (pe_op op_shl pe_int (pe_op op_sub (pv 0) pe_int))) (pa_cons (pe_op op_sub (pe_op op_shl pe_int (pe_op op_sub (pv 0) pe_int)) pe_int) pa_nil))))), ?_⟩
  walk_at "go"
  refine ⟨⟨by omega, by omega, by decide⟩, ?_⟩
  walk_at "go"
  refine ⟨⟨by omega, by omega, by decide⟩, ?_⟩
  walk_at "go"
  walk_at "b"
  have e : (1 : Int) * 2 ^ ((d : Int) - 1).toNat = ((2 ^ (d - 1) : Nat) : Int) := by
    rw [Int.one_mul, show ((d : Int) - 1).toNat = d - 1 by omega, Int.natCast_pow]
    rfl
  rw [e]
  refine ⟨(show 2 ≤ sizeLine by decide), fun p np => ?_⟩
  refine q _ (.ref p) (same_upd np) ?_
  rw [Int.zero_sub]
  exact .tup (by rw [rs_out (hS.out np)]; exact upd_same) (.cons (.int _) (.cons (.int _) .nil))
def corG (m : Int) (s : List (Int × Int)) (k : Nat) : List (List Int) :=
  s.map Prod.fst :: ((List.range k).filterMap fun i => match s[i]? with | some z => if z.1 < z.2 then some ((s.map Prod.fst).set i (z.1 + m)) else none | none => none)
def sp_corners (K : PySem.W.Frag) : Sp := fun vs H Q _ => ∃ (p : Addr) (s : List (Int × Int)) (m : Int), vs = [.ref p, .int m] ∧ Dt H (.ref p) (.list (s.map pairD)) ∧ s.length ≤ 100 ∧ ∀ H' D, Same H H' → RowsIn H' D (corG m s s.length) → Q (.ref D) H'
end
end My

namespace My
open PySem PySem.Spec PyProof.Rows L2 Pre
local macro_rules | `(tactic| walk_at "go") => `(tactic| repeat (first | (with_reducible first | refine iteT ?_ | refine iteF ?_ | refine iteNtt ?_ | refine iteNff ?_ | refine iteET (by omega) ?_ | refine iteEF (by omega) ?_ | refine iteENT (by omega) ?_ | refine iteENF (by omega) ?_ | refine iteDT (by omega) ?_ | refine iteDF (by omega) ?_ | refine iteNT (by omega) ?_ | refine iteNF (by omega) ?_) | refine ⟨_, rfl, ?_⟩ | refine ⟨_, _, rfl, rfl, ?_⟩ | refine ⟨_, _, rfl, ?_⟩ | refine ⟨rfl, ?_⟩ | refine .inl ⟨_, rfl, ?_⟩ | refine .inr ⟨_, rfl, ?_⟩))
local macro_rules | `(tactic| walk_at "b") => `(tactic| try dsimp (config := { proj := false, iota := false, eta := false, zeta := false }) only)
section
variable {P : Program} {w : World} {K : PySem.W.Frag} {mg : Str → Option Value} {base : Heap}
/-! ### common divisors and fractions, of whole numbers of either sign -/
def sp_common_divisor : Sp := fun vs H Q _ => ∃ a b : Int, vs = [.int a, .int b] ∧ Q (.int (Int.gcd a b : Nat)) H
theorem abs_int (a : Int) : (if a < 0 then -a else a) = (a.natAbs : Int) := by split <;> omega
/-- a fraction in lowest terms -/
def lowF (t u : Int) : Int × Int := (t / (Int.gcd t u : Nat), u / (Int.gcd t u : Nat))
def sp_fraction : Sp := fun vs H Q _ => ∃ t u : Int, vs = [.int t, .int u] ∧ 0 < u ∧ u < 2 ^ 1000 ∧ ∀ H' p, Same H H' → H p = none → H' p = some (.tup ([(lowF t u).1, (lowF t u).2].map V.int)) → Q (.ref p) H'
theorem lowF_ok {t u : Int} (hu : 0 < u) : ∃ g : Int, 0 < g ∧ t = g * (lowF t u).1 ∧ u = g * (lowF t u).2 ∧ 0 < (lowF t u).2 := by
  have h1 : 0 < Int.gcd t u := Int.gcd_pos_of_ne_zero_right _ (by omega)
  have e1 := Int.mul_ediv_cancel' (Int.gcd_dvd_left (a := t) (b := u))
  have e2 := Int.mul_ediv_cancel' (Int.gcd_dvd_right (a := t) (b := u))
  refine ⟨(Int.gcd t u : Nat), by omega, e1.symm, e2.symm, ?_⟩
  show 0 < u / (Int.gcd t u : Nat)
  by_cases h : 0 < u / (Int.gcd t u : Nat)
  · exact h
  · have h3 : ((Int.gcd t u : Nat) : Int) * (u / (Int.gcd t u : Nat)) ≤ 0 := Int.mul_nonpos_of_nonneg_of_nonpos (by omega) (by omega)
    omega
theorem lowF_scale (t u : Int) {s : Int} (hs : 0 < s) : lowF (t * s) (u * s) = lowF t u := by
  unfold lowF
  rw [Int.gcd_mul_right]
  have e : ((t.gcd u * s.natAbs : Nat) : Int) = (t.gcd u : Nat) * s := by rw [Int.natCast_mul]; congr 1; omega
  rw [e, Int.mul_ediv_mul_of_pos_left _ _ hs, Int.mul_ediv_mul_of_pos_left _ _ hs]
/-- alike just if the products are -/
theorem lowF_eq {t u t' u' : Int} (hu : 0 < u) (hu' : 0 < u') : lowF t u = lowF t' u' ↔ t * u' = t' * u := by
  constructor
  · intro h
    obtain ⟨g, _, e1, e2, _⟩ := lowF_ok (t := t) hu
    obtain ⟨g', _, e1', e2', _⟩ := lowF_ok (t := t') hu'
    rw [h] at e1 e2
    generalize (lowF t' u').1 = x at *
    generalize (lowF t' u').2 = y at *
    rw [e1, e2, e1', e2']
    rw [Int.mul_assoc, Int.mul_assoc, Int.mul_left_comm x g' y, Int.mul_left_comm g g' , Int.mul_left_comm x g y]
  · intro h
    rw [← lowF_scale t u hu', ← lowF_scale t' u' hu, h, Int.mul_comm u u']
end
end My

namespace My
/-! ### fractions in lowest terms: sums, products, signs, order -/
theorem lowF_add {t u t' u' : Int} (hu : 0 < u) (hu' : 0 < u') : lowF ((lowF t u).1 * (lowF t' u').2 + (lowF t' u').1 * (lowF t u).2) ((lowF t u).2 * (lowF t' u').2) = lowF (t * u' + t' * u) (u * u') := by
  obtain ⟨g, g0, e1, e2, e3⟩ := lowF_ok (t := t) hu
  obtain ⟨g', g0', e1', e2', e3'⟩ := lowF_ok (t := t') hu'
  generalize lowF t u = p at *
  generalize lowF t' u' = q at *
  have k : 0 < g * g' := Int.mul_pos g0 g0'
  rw [← lowF_scale _ _ k, e1, e2, e1', e2']
  congr 1
  · rw [Int.add_mul]
    congr 1
    · ac_rfl
    · ac_rfl
  · ac_rfl
theorem lowF_mul {t u t' u' : Int} (hu : 0 < u) (hu' : 0 < u') : lowF ((lowF t u).1 * (lowF t' u').1) ((lowF t u).2 * (lowF t' u').2) = lowF (t * t') (u * u') := by
  obtain ⟨g, g0, e1, e2, e3⟩ := lowF_ok (t := t) hu
  obtain ⟨g', g0', e1', e2', e3'⟩ := lowF_ok (t := t') hu'
  generalize lowF t u = p at *
  generalize lowF t' u' = q at *
  have k : 0 < g * g' := Int.mul_pos g0 g0'
  rw [← lowF_scale _ _ k, e1, e2, e1', e2']
  congr 1
  · ac_rfl
  · ac_rfl
theorem lowF_neg {t u : Int} (hu : 0 < u) : (0 - (lowF t u).1, (lowF t u).2) = lowF (0 - t) u := by
  have h1 : 0 < Int.gcd t u := Int.gcd_pos_of_ne_zero_right _ (by omega)
  unfold lowF
  rw [Int.zero_sub, Int.zero_sub, Int.neg_gcd, Int.neg_ediv_of_dvd (Int.gcd_dvd_left ..)]
theorem lowF_less {t u t' u' : Int} (hu : 0 < u) (hu' : 0 < u') : (lowF t u).1 * (lowF t' u').2 < (lowF t' u').1 * (lowF t u).2 ↔ t * u' < t' * u := by
  obtain ⟨g, g0, e1, e2, e3⟩ := lowF_ok (t := t) hu
  obtain ⟨g', g0', e1', e2', e3'⟩ := lowF_ok (t := t') hu'
  generalize lowF t u = p at *
  generalize lowF t' u' = q at *
  have k : 0 < g * g' := Int.mul_pos g0 g0'
  have a1 : t * u' = (g * g') * (p.1 * q.2) := by
    rw [e1, e2']
    ac_rfl
  have a2 : t' * u = (g * g') * (q.1 * p.2) := by
    rw [e1', e2]
    ac_rfl
  rw [a1, a2]
  exact (Int.mul_lt_mul_left k).symm
theorem lowF_pos {t u : Int} (hu : 0 < u) : 0 < (lowF t u).2 := (lowF_ok hu).choose_spec.2.2.2
theorem lowF_self {t u : Int} (hu : 0 < u) : lowF (lowF t u).1 (lowF t u).2 = lowF t u := by
  obtain ⟨g, g0, e1, e2, e3⟩ := lowF_ok (t := t) hu
  have := lowF_scale (lowF t u).1 (lowF t u).2 g0
  rw [Int.mul_comm _ g, Int.mul_comm _ g, ← e1, ← e2] at this
  exact this.symm
theorem lowF_one (t : Int) : lowF t 1 = (t, 1) := by
  unfold lowF
  rw [Int.gcd_one]
  simp
theorem lowF_bd {t u : Int} (hu : 0 < u) {a : Nat} (ht : t.natAbs < 2 ^ a) : (lowF t u).1.natAbs < 2 ^ a := by
  obtain ⟨g, g0, e1, e2, e3⟩ := lowF_ok (t := t) hu
  refine Nat.lt_of_le_of_lt ?_ ht
  conv => rhs; rw [e1]
  rw [Int.natAbs_mul]
  exact Nat.le_mul_of_pos_left _ (by omega)
theorem lowF_bd2 {t u : Int} (hu : 0 < u) {a : Nat} (h : u.natAbs < 2 ^ a) : (lowF t u).2.natAbs < 2 ^ a := by
  obtain ⟨g, g0, e1, e2, e3⟩ := lowF_ok (t := t) hu
  refine Nat.lt_of_le_of_lt ?_ h
  conv => rhs; rw [e2]
  rw [Int.natAbs_mul]
  exact Nat.le_mul_of_pos_left _ (by omega)
/-- sums with one denominator -/
theorem low_same {t t' u : Int} (hu : 0 < u) : lowF ((lowF t u).1 * (lowF t' u).2 + (lowF t' u).1 * (lowF t u).2) ((lowF t u).2 * (lowF t' u).2) = lowF (t + t') u := by
  rw [lowF_add hu hu, ← lowF_scale (t + t') u hu, Int.add_mul]
/-! ### matrices of fractions -/
def frL (b : Nat) (l : List Int) : List (Int × Int) := l.map fun x => lowF x (2 ^ b)
def frM (b : Nat) (M : List (List Int)) : List (List (Int × Int)) := M.map (frL b)
theorem frL_len (b : Nat) (l : List Int) : (frL b l).length = l.length := List.length_map ..
theorem frL_scale (b s : Nat) (l : List Int) : frL (b + s) (l.map fun x => x * 2 ^ s) = frL b l := by
  unfold frL
  rw [List.map_map]
  apply List.map_congr_left
  intro x _
  show lowF (x * 2 ^ s) (2 ^ (b + s)) = lowF x (2 ^ b)
  rw [Int.pow_add]
  exact lowF_scale x (2 ^ b) (Int.pow_pos (by decide))
theorem frM_scale (b s : Nat) (M : List (List Int)) : frM (b + s) (M.map fun l => l.map fun x => x * 2 ^ s) = frM b M := by
  unfold frM
  rw [List.map_map]
  apply List.map_congr_left
  intro l _
  exact frL_scale b s l
/-! #### how great what comes out is -/
theorem step_bd {c : Nat} {s : Step} {xs : List Int} (ok : s.ok xs.length) (hn : xs.length ≤ 4) (h : ∀ x ∈ xs, x.natAbs < 2 ^ c) : ∀ y ∈ stepF 1 s xs, y.natAbs < 2 ^ (c + 18) := fun y hy => by
  have p : 2 ^ (c + 18) = 2 ^ c * 262144 := by rw [Nat.pow_add]
  have p0 : 0 < 2 ^ c := Nat.two_pow_pos c
  have at_ : ∀ i, (xs.getD i 0).natAbs < 2 ^ c := fun i => by
    rw [List.getD_eq_getElem?_getD]
    cases e : xs[i]? with
    | none => exact p0
    | some v => exact h v (List.mem_of_getElem? e)
  cases s with
  | turn i =>
    rcases List.mem_or_eq_of_mem_set hy with hy | rfl
    · have := h y hy; omega
    · have := at_ i; omega
  | swap i j =>
    rcases List.mem_or_eq_of_mem_set hy with hy | rfl
    · rcases List.mem_or_eq_of_mem_set hy with hy | rfl
      · have := h y hy; omega
      · have := at_ j; omega
    · have := at_ i; omega
  | lift t ws sh =>
    obtain ⟨ht, hl, hz, hs, hw⟩ := ok
    rcases List.mem_or_eq_of_mem_set hy with hy | rfl
    · have := h y hy; omega
    · have d := dot_bd ws xs hw h
      have q : (dotP ws xs / 2 ^ sh).natAbs ≤ (dotP ws xs).natAbs := by
        have e : (2 : Int) ^ sh = ((2 ^ sh : Nat) : Int) := by rw [Int.natCast_pow]; rfl
        rw [e]
        exact Int.natAbs_ediv_le_natAbs _ _
      have m : ws.length * (2 ^ 15 * 2 ^ c) ≤ 4 * (2 ^ 15 * 2 ^ c) := Nat.mul_le_mul_right _ (by omega)
      have a := at_ t
      rw [Int.one_mul]
      omega
theorem play_bd {n : Nat} (hn : n ≤ 4) : ∀ {ss : List Step} {xs : List Int} {c : Nat}, (∀ s ∈ ss, s.ok n) → xs.length = n → (∀ x ∈ xs, x.natAbs < 2 ^ c) → ∀ y ∈ playF ss xs, y.natAbs < 2 ^ (c + 18 * ss.length)
  | [], _, c, _, _, h => by
    rw [List.length_nil, Nat.mul_zero, Nat.add_zero]
    exact h
  | s :: ss, xs, c, ok, hx, h => by
    have ih := play_bd (n := n) hn (ss := ss) (xs := stepF 1 s xs) (c := c + 18) (fun t ht => ok t (List.mem_cons_of_mem _ ht)) (by rw [stepF_len, hx]) (step_bd (by rw [hx]; exact ok s List.mem_cons_self) (by omega) h)
    rw [List.length_cons, show c + 18 * (ss.length + 1) = c + 18 + 18 * ss.length by omega]
    exact ih
end My

namespace My
open PySem PySem.Spec PyProof.Rows L2 Pre
theorem wide_ok {a b : Nat} {x y : Int} (h1 : x.natAbs < 2 ^ a) (h2 : y.natAbs < 2 ^ b) (h : a + b ≤ 134217728) : CMulX x y := by
  have e1 := PyProof.Rows.intBits_le h1
  have e2 := PyProof.Rows.intBits_le h2
  show ((Builtin.Int.intBits x : Nat) : Int) + ((Builtin.Int.intBits y : Nat) : Int) ≤ 134217728
  omega
/-- a fraction as it stands: bounded, its under above 0 -/
def FrOk (p : Int × Int) : Prop := 0 < p.2 ∧ p.1.natAbs < 2 ^ 400 ∧ p.2.natAbs < 2 ^ 400
theorem FrOk.mul {p q : Int × Int} (h : FrOk p) (k : FrOk q) : CMulX p.1 q.2 ∧ CMulX q.1 p.2 ∧ CMulX p.2 q.2 ∧ CMulX p.1 q.1 ∧ 0 < p.2 * q.2 ∧ p.2 * q.2 < 2 ^ 1000 := by
  refine ⟨wide_ok h.2.1 k.2.2 (by decide), wide_ok k.2.1 h.2.2 (by decide), wide_ok h.2.2 k.2.2 (by decide), wide_ok h.2.1 k.2.1 (by decide), Int.mul_pos h.1 k.1, ?_⟩
  have e : (p.2 * q.2).natAbs < 2 ^ 400 * 2 ^ 400 := by
    rw [Int.natAbs_mul]
    exact Nat.mul_lt_mul'' h.2.2 k.2.2
  have e2 : ((p.2 * q.2).natAbs : Int) < ((2 ^ 400 * 2 ^ 400 : Nat) : Int) := Int.ofNat_lt.mpr e
  have e3 : ((2 ^ 400 * 2 ^ 400 : Nat) : Int) ≤ 2 ^ 1000 := by decide +kernel
  have pos := Int.mul_pos h.1 k.1
  omega
theorem low_ok {t u : Int} {a : Nat} (hu : 0 < u) (ht : t.natAbs < 2 ^ a) (hub : u.natAbs < 2 ^ 400) (ha : a ≤ 400) : FrOk (lowF t u) :=
  ⟨lowF_pos hu, Nat.lt_of_lt_of_le (lowF_bd hu ht) (Nat.pow_le_pow_right (by decide) ha), lowF_bd2 hu hub⟩
local macro_rules | `(tactic| walk_at "go") => `(tactic| repeat (first | (with_reducible first | refine iteT ?_ | refine iteF ?_ | refine iteNtt ?_ | refine iteNff ?_ | refine iteET (by omega) ?_ | refine iteEF (by omega) ?_ | refine iteENT (by omega) ?_ | refine iteENF (by omega) ?_ | refine iteDT (by omega) ?_ | refine iteDF (by omega) ?_ | refine iteNT (by omega) ?_ | refine iteNF (by omega) ?_) | refine ⟨_, rfl, ?_⟩ | refine ⟨_, _, rfl, rfl, ?_⟩ | refine ⟨_, _, rfl, ?_⟩ | refine ⟨rfl, ?_⟩ | refine .inl ⟨_, rfl, ?_⟩ | refine .inr ⟨_, rfl, ?_⟩))
local macro_rules | `(tactic| walk_at "b") => `(tactic| try dsimp (config := { proj := false, iota := false, eta := false, zeta := false }) only)
section
variable {P : Program} {w : World} {K : PySem.W.Frag} {mg : Str → Option Value} {base : Heap}
def sp_law_part : Sp := fun vs H Q _ => ∃ t u : Int, vs = [.int t, .int u] ∧ 0 < u ∧ u < 2 ^ 1000 ∧ ∀ H' p, Same H H' → H p = none → H' p = some (.tup [.int (lowF t u).1, .int (lowF t u).2]) → Q (.ref p) H'
theorem G_law_part (T : Top K mg) : FnOk P w K mg base CX0 1 T.f_law_part T.fd_law_part ["_law_over", "_law_under"] sp_law_part := by
  refine T.F_law_part.ok sc_law_part (fun vs H Q E h => by obtain ⟨t, u, rfl, _⟩ := h; rfl) (fun cdv A outer s H vs Q E hr h => ?_)
  obtain ⟨t, u, rfl, hu, hz, q⟩ := h
  refine ⟨_, PSs.nox (pss_cons (ps_par (by rfl) sc_law_part.nd (i := 2) (j := 3) rfl rfl (by decide) rfl rfl (pa_cons (pe_callB call_abs (by rfl) T.n_abs (by decide +kernel) (pa_cons (pv 0) pa_nil)) (pa_cons (pv 1) pa_nil)) (by rfl))
  (pss_cons (ps_while PassesOwn.never (pt_cmpR op_ne (pv 3) pe_int (nomark _))
    (pss_one (ps_par (by rfl) sc_law_part.nd (i := 2) (j := 3) rfl rfl (by decide) rfl rfl (pa_cons (pv 3) (pa_cons (pe_op op_mod (pv 2) (pv 3)) pa_nil)) (by rfl))))
  (pss_one (ps_ret (pe_tup (pa_cons (pe_op op_fdivW (pv 0) (pv 2)) (pa_cons (pe_op op_fdivW (pv 1) (pv 2)) pa_nil))))))), ?_⟩
  have h1 : 0 < Int.gcd t u := Int.gcd_pos_of_ne_zero_right _ (by omega)
  have h2 : (Int.gcd t u : Int) ≤ u := Int.le_of_dvd hu (Int.gcd_dvd_right ..)
  have hw : ∀ x, CDivW x ((Int.gcd t u : Nat) : Int) := fun x => wide_div (b := 1000) (by omega) (by rw [Int.natAbs_natCast]; omega) (by decide) (by decide)
  obtain ⟨m0, em0⟩ : ∃ m0 : Nat, u = (m0 : Int) := ⟨u.toNat, by omega⟩
  walk_at "go"
  rw [abs_int]
  refine ⟨fun m σ H2 => ∃ x y : Nat, σ = [some (.int t), some (.int u), some (.int x), some (.int y)] ∧ y = m ∧ Nat.gcd x y = Int.gcd t u ∧ H2 = H, ⟨m0, t.natAbs, m0, by rw [em0]; rfl, rfl, by rw [em0]; rfl, rfl⟩, ?_⟩
  rintro m σ H2 ⟨x, y, rfl, rfl, hg, rfl⟩
  refine ⟨_, rfl, rfl, _, rfl, ?_⟩
  by_cases hy : y = 0
  · subst hy
    refine iteENF rfl ?_
    rw [Nat.gcd_zero_right] at hg
    walk_at "go"
    rw [hg]
    refine ⟨hw _, ?_⟩
    walk_at "go"
    refine ⟨hw _, (show 2 ≤ sizeLine by decide), fun p np => ?_⟩
    exact q _ p (same_upd np) np upd_same
  · refine iteENT (by omega) ?_
    refine ⟨fun σ' H' => ∃ x' y' : Nat, σ' = [some (.int t), some (.int u), some (.int x'), some (.int y')] ∧ y' < y ∧ Nat.gcd x' y' = Int.gcd t u ∧ H' = H2, fun σ' H' ⟨x', y', e1, e2, e3, e4⟩ => ⟨y', e2, x', y', e1, rfl, e3, e4⟩, ?_⟩
    refine ⟨_, rfl, _, rfl, _, rfl, _, _, rfl, rfl, (by show (0 : Int) < _; omega), _, _, rfl, y, x % y, ?_, Nat.mod_lt _ (by omega), ?_, rfl⟩
    · show [some (V.int t), some (.int u), some (V.int (y : Int)), some (.int ((x : Int) % (y : Int)))] = _
      rw [Int.natCast_emod]
    · rw [← hg, Nat.gcd_comm y, ← Nat.gcd_rec, Nat.gcd_comm]
def sp_law_plus (K : PySem.W.Frag) : Sp := fun vs H Q _ => ∃ (a b : Addr) (x y : Int × Int), vs = [.ref a, .ref b] ∧ SqT K H a [.int x.1, .int x.2] ∧ SqT K H b [.int y.1, .int y.2] ∧ FrOk x ∧ FrOk y ∧ ∀ H' p, Same H H' → H p = none → H' p = some (.tup [.int (lowF (x.1 * y.2 + y.1 * x.2) (x.2 * y.2)).1, .int (lowF (x.1 * y.2 + y.1 * x.2) (x.2 * y.2)).2]) → Q (.ref p) H'
theorem G_law_plus (T : Top K mg) : FnOk P w K mg base CX0 2 T.f_law_plus T.fd_law_plus ["_law_one", "_law_other"] (sp_law_plus K) := by
  refine T.F_law_plus.ok sc_law_plus (fun vs H Q E h => by obtain ⟨a, b, x, y, rfl, _⟩ := h; rfl) (fun cdv A outer s H vs Q E hr h => ?_)
  obtain ⟨a, b, x, y, rfl, hA, hB, hx, hy, q⟩ := h
  refine ⟨_, PSs.nox (pss_one (ps_ret (pe_call (G_law_part T) (hr.mono (by decide)) (by rfl) T.g_law_part T.F_law_part.kp T.b_law_part .nil pass0 (pa_cons (pe_op op_add (pe_op op_mulX (pe_ix (k_ixT K rfl) (pv 0) pe_int (fun _ _ => rfl)) (pe_ix (k_ixT K rfl) (pv 1) pe_int (fun _ _ => rfl))) (pe_op op_mulX (pe_ix (k_ixT K rfl) (pv 1) pe_int (fun _ _ => rfl)) (pe_ix (k_ixT K rfl) (pv 0) pe_int (fun _ _ => rfl)))) (pa_cons (pe_op op_mulX (pe_ix (k_ixT K rfl) (pv 0) pe_int (fun _ _ => rfl)) (pe_ix (k_ixT K rfl) (pv 1) pe_int (fun _ _ => rfl))) pa_nil))))), ?_⟩
  obtain ⟨c1, c2, c3, c4, c5, c6⟩ := hx.mul hy
  walk_at "go"
  refine ⟨a, _, _, _, rfl, rfl, hA, rfl, ?_⟩
  walk_at "go"
  refine ⟨b, _, _, _, rfl, rfl, hB, rfl, ?_⟩
  walk_at "go"
  refine ⟨c1, ?_⟩
  walk_at "go"
  refine ⟨b, _, _, _, rfl, rfl, hB, rfl, ?_⟩
  walk_at "go"
  refine ⟨a, _, _, _, rfl, rfl, hA, rfl, ?_⟩
  walk_at "go"
  refine ⟨c2, ?_⟩
  walk_at "go"
  refine ⟨a, _, _, _, rfl, rfl, hA, rfl, ?_⟩
  walk_at "go"
  refine ⟨b, _, _, _, rfl, rfl, hB, rfl, ?_⟩
  walk_at "go"
  refine ⟨c3, ?_⟩
  walk_at "go"
  exact ⟨c5, c6, fun H' p s np hp => q H' p s np hp⟩
def sp_law_times (K : PySem.W.Frag) : Sp := fun vs H Q _ => ∃ (a b : Addr) (x y : Int × Int), vs = [.ref a, .ref b] ∧ SqT K H a [.int x.1, .int x.2] ∧ SqT K H b [.int y.1, .int y.2] ∧ FrOk x ∧ FrOk y ∧ ∀ H' p, Same H H' → H p = none → H' p = some (.tup [.int (lowF (x.1 * y.1) (x.2 * y.2)).1, .int (lowF (x.1 * y.1) (x.2 * y.2)).2]) → Q (.ref p) H'
theorem G_law_times (T : Top K mg) : FnOk P w K mg base CX0 2 T.f_law_times T.fd_law_times ["_law_one", "_law_other"] (sp_law_times K) := by
  refine T.F_law_times.ok sc_law_times (fun vs H Q E h => by obtain ⟨a, b, x, y, rfl, _⟩ := h; rfl) (fun cdv A outer s H vs Q E hr h => ?_)
  obtain ⟨a, b, x, y, rfl, hA, hB, hx, hy, q⟩ := h
  refine ⟨_, PSs.nox (pss_one (ps_ret (pe_call (G_law_part T) (hr.mono (by decide)) (by rfl) T.g_law_part T.F_law_part.kp T.b_law_part .nil pass0 (pa_cons (pe_op op_mulX (pe_ix (k_ixT K rfl) (pv 0) pe_int (fun _ _ => rfl)) (pe_ix (k_ixT K rfl) (pv 1) pe_int (fun _ _ => rfl))) (pa_cons (pe_op op_mulX (pe_ix (k_ixT K rfl) (pv 0) pe_int (fun _ _ => rfl)) (pe_ix (k_ixT K rfl) (pv 1) pe_int (fun _ _ => rfl))) pa_nil))))), ?_⟩
  obtain ⟨c1, c2, c3, c4, c5, c6⟩ := hx.mul hy
  walk_at "go"
  refine ⟨a, _, _, _, rfl, rfl, hA, rfl, ?_⟩
  walk_at "go"
  refine ⟨b, _, _, _, rfl, rfl, hB, rfl, ?_⟩
  walk_at "go"
  refine ⟨c4, ?_⟩
  walk_at "go"
  refine ⟨a, _, _, _, rfl, rfl, hA, rfl, ?_⟩
  walk_at "go"
  refine ⟨b, _, _, _, rfl, rfl, hB, rfl, ?_⟩
  walk_at "go"
  refine ⟨c3, ?_⟩
  walk_at "go"
  exact ⟨c5, c6, fun H' p s np hp => q H' p s np hp⟩
def sp_law_less (K : PySem.W.Frag) : Sp := fun vs H Q _ => ∃ (a b : Addr) (x y : Int × Int), vs = [.ref a, .ref b] ∧ SqT K H a [.int x.1, .int x.2] ∧ SqT K H b [.int y.1, .int y.2] ∧ FrOk x ∧ FrOk y ∧ Q (.bl (decide (x.1 * y.2 < y.1 * x.2))) H
end
end My

namespace My
open PySem PySem.Spec PyProof.Rows L2 Pre
/-- a list of pairs, its list new since H0 -/
def FrRow (H0 H : Hp) (a : Addr) (ps : List (Int × Int)) : Prop := H0 a = none ∧ ∃ ts : List Addr, H a = some (.lst (ts.map V.ref)) ∧ ts.length = ps.length ∧ ∀ (i : Nat) (t : Addr) (p : Int × Int), ts[i]? = some t → ps[i]? = some p → H t = some (.tup [.int p.1, .int p.2])
theorem FrRow.same {H0 H H' : Hp} {a : Addr} {ps : List (Int × Int)} (h : FrRow H0 H a ps) (s : Same H H') : FrRow H0 H' a ps := by
  obtain ⟨n, ts, h1, h2, h3⟩ := h
  exact ⟨n, ts, s _ _ h1, h2, fun i t p ht hp => s _ _ (h3 i t p ht hp)⟩
theorem FrRow.older {H0 H1 H : Hp} {a : Addr} {ps : List (Int × Int)} (h : FrRow H1 H a ps) (s : Same H0 H1) : FrRow H0 H a ps := ⟨s.free h.1, h.2⟩
theorem FrRow.off {H0 H H' : Hp} {a D : Addr} {ps : List (Int × Int)} (h : FrRow H0 H a ps) (hD : ∃ xs, H D = some (.lst xs)) (na : a ≠ D) (k : ∀ b o, b ≠ D → H b = some o → H' b = some o) : FrRow H0 H' a ps := by
  obtain ⟨n, ts, h1, h2, h3⟩ := h
  refine ⟨n, ts, k _ _ na h1, h2, fun i t p ht hp => k _ _ (fun z => ?_) (h3 i t p ht hp)⟩
  obtain ⟨xs, e⟩ := hD
  have := h3 i t p ht hp
  rw [z, e] at this
  cases this
theorem FrRow.at {H0 H : Hp} {a : Addr} {ps : List (Int × Int)} (h : FrRow H0 H a ps) {i : Nat} (hi : i < ps.length) : ∃ t xs, H a = some (.lst xs) ∧ atI xs (i : Int) = some (.ref t) ∧ H t = some (.tup [.int (ps.getD i (0, 1)).1, .int (ps.getD i (0, 1)).2]) := by
  obtain ⟨n, ts, h1, h2, h3⟩ := h
  have e1 : ts[i]? = some (ts[i]'(by omega)) := List.getElem?_eq_getElem (by omega)
  have e2 : ps[i]? = some ps[i] := List.getElem?_eq_getElem hi
  refine ⟨ts[i]'(by omega), _, h1, atI_nat (by rw [List.getElem?_map, e1]; rfl), ?_⟩
  rw [List.getD_eq_getElem?_getD, e2]
  exact h3 i _ _ e1 e2
def FrMat (H0 H : Hp) (D : Addr) (M : List (List (Int × Int))) : Prop := H0 D = none ∧ ∃ as : List Addr, H D = some (.lst (as.map V.ref)) ∧ as.length = M.length ∧ ∀ (i : Nat) (a : Addr) (r : List (Int × Int)), as[i]? = some a → M[i]? = some r → FrRow H0 H a r ∧ a ≠ D
theorem FrMat.same {H0 H H' : Hp} {D : Addr} {M : List (List (Int × Int))} (h : FrMat H0 H D M) (s : Same H H') : FrMat H0 H' D M := by
  obtain ⟨n, as, h1, h2, h3⟩ := h
  exact ⟨n, as, s _ _ h1, h2, fun i a r ha hr => ⟨(h3 i a r ha hr).1.same s, (h3 i a r ha hr).2⟩⟩
theorem FrMat.older {H0 H1 H : Hp} {D : Addr} {M : List (List (Int × Int))} (h : FrMat H1 H D M) (s : Same H0 H1) : FrMat H0 H D M := by
  obtain ⟨n, as, h1, h2, h3⟩ := h
  exact ⟨s.free n, as, h1, h2, fun i a r ha hr => ⟨(h3 i a r ha hr).1.older s, (h3 i a r ha hr).2⟩⟩
theorem FrMat.at {H0 H : Hp} {D : Addr} {M : List (List (Int × Int))} (h : FrMat H0 H D M) {i : Nat} (hi : i < M.length) : ∃ a xs, H D = some (.lst xs) ∧ atI xs (i : Int) = some (.ref a) ∧ FrRow H0 H a (M.getD i []) ∧ a ≠ D := by
  obtain ⟨n, as, h1, h2, h3⟩ := h
  have e1 : as[i]? = some (as[i]'(by omega)) := List.getElem?_eq_getElem (by omega)
  have e2 : M[i]? = some M[i] := List.getElem?_eq_getElem hi
  refine ⟨as[i]'(by omega), _, h1, atI_nat (by rw [List.getElem?_map, e1]; rfl), ?_⟩
  rw [List.getD_eq_getElem?_getD, e2]
  exact h3 i _ _ e1 e2
/-- one row put in the place of another one -/
theorem FrMat.set {H0 H : Hp} {D a : Addr} {M : List (List (Int × Int))} {as : List Addr} {r : List (Int × Int)} (nD : H0 D = none) (h1 : H D = some (.lst (as.map V.ref))) (h2 : as.length = M.length) (h3 : ∀ (i : Nat) (a : Addr) (r : List (Int × Int)), as[i]? = some a → M[i]? = some r → FrRow H0 H a r ∧ a ≠ D) (i : Nat) (hr : FrRow H0 H a r) (na : a ≠ D) : FrMat H0 (upd H D (.lst ((as.set i a).map V.ref))) D (M.set i r) := by
  have k : ∀ b o, b ≠ D → H b = some o → upd H D (.lst ((as.set i a).map V.ref)) b = some o := fun b o nb h => by rw [upd_ne nb]; exact h
  refine ⟨nD, as.set i a, upd_same, by rw [List.length_set, List.length_set, h2], fun j c q hc hq => ?_⟩
  rw [List.getElem?_set] at hc hq
  by_cases e : i = j
  · subst e
    by_cases hi : i < as.length
    · rw [if_pos rfl, if_pos hi] at hc
      rw [if_pos rfl, if_pos (by omega)] at hq
      cases hc
      cases hq
      exact ⟨hr.off ⟨_, h1⟩ na k, na⟩
    · rw [if_pos rfl, if_neg hi] at hc
      cases hc
  · rw [if_neg e] at hc hq
    obtain ⟨a1, a2⟩ := h3 j c q hc hq
    exact ⟨a1.off ⟨_, h1⟩ a2 k, a2⟩
/-- as data -/
def matD (M : List (List (Int × Int))) : PyData := .list (M.map fun r => .list (r.map pairD))
theorem FrRow.dt {H0 H : Hp} {a : Addr} {ps : List (Int × Int)} (h : FrRow H0 H a ps) : Dt H (.ref a) (.list (ps.map pairD)) := by
  obtain ⟨n, ts, h1, h2, h3⟩ := h
  refine .lst h1 ?_
  clear h1
  induction ts generalizing ps with
  | nil =>
    cases ps with
    | nil => exact .nil
    | cons p ps => simp at h2
  | cons t ts ih =>
    cases ps with
    | nil => simp at h2
    | cons p ps =>
      refine .cons (.tup (h3 0 t p rfl rfl) (.cons (.int _) (.cons (.int _) .nil))) (ih (by simpa using h2) fun i u q hu hq => h3 (i + 1) u q (by simpa using hu) (by simpa using hq))
theorem FrMat.dt {H0 H : Hp} {D : Addr} {M : List (List (Int × Int))} (h : FrMat H0 H D M) : Dt H (.ref D) (matD M) := by
  obtain ⟨n, as, h1, h2, h3⟩ := h
  refine .lst h1 ?_
  clear h1
  induction as generalizing M with
  | nil =>
    cases M with
    | nil => exact .nil
    | cons r M => simp at h2
  | cons a as ih =>
    cases M with
    | nil => simp at h2
    | cons r M =>
      refine .cons (h3 0 a r rfl rfl).1.dt (ih (by simpa using h2) fun i u q hu hq => h3 (i + 1) u q (by simpa using hu) (by simpa using hq))
theorem pairs_shapedL (ps : List (Int × Int)) : PyData.canLayAll0 (ps.map pairD) = true ∧ PyData.depthAll (ps.map pairD) ≤ 1 := by
  induction ps with
  | nil => exact ⟨rfl, by simp [PyData.depthAll]⟩
  | cons p ps ih =>
    refine ⟨?_, ?_⟩
    · show (PyData.canLay0 (pairD p) && PyData.canLayAll0 (ps.map pairD)) = true
      rw [ih.1]
      rfl
    · show PyData.depthAll (pairD p :: ps.map pairD) ≤ 1
      rw [PyData.depthAll]
      have : PyData.depth (pairD p) ≤ 1 := by
        show PyData.depth (.tuple [.int p.1, .int p.2]) ≤ 1
        rw [PyData.depth, show ([PyData.int p.1, PyData.int p.2] : List PyData) = [p.1, p.2].map PyData.int from rfl, depth_ints]
        omega
      have := ih.2
      omega
theorem mat_shaped (M : List (List (Int × Int))) : SeqAt.shaped (matD M) = true := by
  have h : ∀ l : List (List (Int × Int)), PyData.canLayAll0 (l.map fun r => PyData.list (r.map pairD)) = true ∧ PyData.depthAll (l.map fun r => PyData.list (r.map pairD)) ≤ 2 := fun l => by
    induction l with
    | nil => exact ⟨rfl, by simp [PyData.depthAll]⟩
    | cons r l ih =>
      obtain ⟨a, b⟩ := pairs_shapedL r
      refine ⟨?_, ?_⟩
      · show (PyData.canLay0 (.list (r.map pairD)) && PyData.canLayAll0 (l.map fun r => PyData.list (r.map pairD))) = true
        rw [ih.1, PyData.canLay0, a]
        rfl
      · show PyData.depthAll (.list (r.map pairD) :: l.map fun r => PyData.list (r.map pairD)) ≤ 2
        rw [PyData.depthAll, PyData.depth]
        have := ih.2
        omega
  show (PyData.canLay0 (matD M) && decide (PyData.depth (matD M) ≤ 64)) = true
  obtain ⟨a, b⟩ := h M
  rw [Bool.and_eq_true]
  exact ⟨by unfold matD; rw [PyData.canLay0]; exact a, decide_eq_true (by unfold matD; rw [PyData.depth]; omega)⟩
/-- part of a scalar product -/
theorem dot_take : ∀ (ws xs : List Int) (i : Nat), i < ws.length → dotP (ws.take (i + 1)) xs = dotP (ws.take i) xs + ws.getD i 0 * xs.getD i 0
  | [], _, _, h => by simp at h
  | w :: ws, [], i, _ => by cases i <;> simp [dotP]
  | w :: ws, x :: xs, 0, _ => by
    show w * x + dotP [] xs = 0 + w * x
    rw [show dotP [] xs = 0 from by cases xs <;> rfl]
    omega
  | w :: ws, x :: xs, i + 1, h => by
    show w * x + dotP (ws.take (i + 1)) xs = w * x + dotP (ws.take i) xs + _
    rw [dot_take ws xs i (by simpa using h)]
    show _ = _ + ws.getD i 0 * xs.getD i 0
    omega
end My

namespace My
open PySem PySem.Spec PyProof.Rows L2 Pre
def PrAt (D : Addr) (ps : List (Int × Int)) (i : Nat) (y : V) (H : Hp) : Prop := ∃ t p, ps[i]? = some p ∧ y = .ref t ∧ t ≠ D ∧ H t = some (.tup [.int p.1, .int p.2])
theorem PrAt.mono {D : Addr} {ps : List (Int × Int)} (i : Nat) (y : V) (H H' : Hp) (o : Pre.Off D H H') (h : PrAt D ps i y H) : PrAt D ps i y H' := by
  obtain ⟨t, p, h1, h2, h3, h4⟩ := h
  exact ⟨t, p, h1, h2, h3, o _ _ h3 h4⟩
theorem PrAt.row {H0 H : Hp} {D : Addr} {ps : List (Int × Int)} {ys : List V} (nD : H0 D = none) (hD : H D = some (.lst ys)) (hl : ys.length = ps.length) (h : ∀ (i : Nat) (y : V), ys[i]? = some y → PrAt D ps i y H) : FrRow H0 H D ps := by
  have each : ∀ v ∈ ys, ∃ t, v = .ref t := fun v hv => by
    obtain ⟨i, hi, rfl⟩ := List.mem_iff_getElem.mp hv
    obtain ⟨t, p, _, e, _⟩ := h i _ (List.getElem?_eq_getElem hi)
    exact ⟨t, e⟩
  refine ⟨nD, ys.map fun v => match v with | .ref a => a | _ => 0, ?_, by rw [List.length_map, hl], fun i t p ht hp => ?_⟩
  · rw [hD, List.map_map]
    congr 2
    conv => lhs; rw [← List.map_id ys]
    apply List.map_congr_left
    intro v hv
    obtain ⟨t, rfl⟩ := each v hv
    rfl
  · rw [List.getElem?_map] at ht
    obtain ⟨v, hv, rfl⟩ := Option.map_eq_some_iff.mp ht
    obtain ⟨t', p', e1, rfl, _, e2⟩ := h i v hv
    rw [hp] at e1
    cases e1
    exact e2
def RwAt (H0 : Hp) (D : Addr) (M : List (List (Int × Int))) (i : Nat) (y : V) (H : Hp) : Prop := ∃ (a : Addr) (r : List (Int × Int)) (ts : List Addr), M[i]? = some r ∧ y = .ref a ∧ a ≠ D ∧ H0 a = none ∧ H a = some (.lst (ts.map V.ref)) ∧ ts.length = r.length ∧ ∀ (j : Nat) (t : Addr) (p : Int × Int), ts[j]? = some t → r[j]? = some p → t ≠ D ∧ H t = some (.tup [.int p.1, .int p.2])
theorem RwAt.mono {H0 : Hp} {D : Addr} {M : List (List (Int × Int))} (i : Nat) (y : V) (H H' : Hp) (o : Pre.Off D H H') (h : RwAt H0 D M i y H) : RwAt H0 D M i y H' := by
  obtain ⟨a, r, ts, h1, h2, h3, h4, h5, h6, h7⟩ := h
  exact ⟨a, r, ts, h1, h2, h3, h4, o _ _ h3 h5, h6, fun j t p ht hp => ⟨(h7 j t p ht hp).1, o _ _ (h7 j t p ht hp).1 (h7 j t p ht hp).2⟩⟩
theorem FrRow.rw {H0 H : Hp} {D a : Addr} {M : List (List (Int × Int))} {i : Nat} {r : List (Int × Int)} (h : FrRow H0 H a r) (hr : M[i]? = some r) (na : a ≠ D) (hD : ∃ zs, H D = some (.lst zs)) : RwAt H0 D M i (.ref a) H := by
  obtain ⟨n, ts, h1, h2, h3⟩ := h
  refine ⟨a, r, ts, hr, rfl, na, n, h1, h2, fun j t p ht hp => ⟨fun z => ?_, h3 j t p ht hp⟩⟩
  obtain ⟨zs, e⟩ := hD
  have := h3 j t p ht hp
  rw [z, e] at this
  cases this
theorem RwAt.mat {H0 H : Hp} {D : Addr} {M : List (List (Int × Int))} {ys : List V} (nD : H0 D = none) (hD : H D = some (.lst ys)) (hl : ys.length = M.length) (h : ∀ (i : Nat) (y : V), ys[i]? = some y → RwAt H0 D M i y H) : FrMat H0 H D M := by
  have each : ∀ v ∈ ys, ∃ t, v = .ref t := fun v hv => by
    obtain ⟨i, hi, rfl⟩ := List.mem_iff_getElem.mp hv
    obtain ⟨a, r, ts, _, e, _⟩ := h i _ (List.getElem?_eq_getElem hi)
    exact ⟨a, e⟩
  refine ⟨nD, ys.map fun v => match v with | .ref a => a | _ => 0, ?_, by rw [List.length_map, hl], fun i a r ha hr => ?_⟩
  · rw [hD, List.map_map]
    congr 2
    conv => lhs; rw [← List.map_id ys]
    apply List.map_congr_left
    intro v hv
    obtain ⟨t, rfl⟩ := each v hv
    rfl
  · rw [List.getElem?_map] at ha
    obtain ⟨v, hv, rfl⟩ := Option.map_eq_some_iff.mp ha
    obtain ⟨a', r', ts, e1, rfl, e2, e3, e4, e5, e6⟩ := h i v hv
    rw [hr] at e1
    cases e1
    exact ⟨⟨e3, ts, e4, e5, fun j t p ht hp => (e6 j t p ht hp).2⟩, e2⟩
/-- comprehensions that make pairs -/
theorem lc_pairsL {K : PySem.W.Frag} {a : Addr} {xs : List V} {j : Nat} {te : TE} {vs : List Nat} {σ : L2.St} {H1 : Hp} {D : Addr} {Qd : Hp → Prop} (ps : List (Int × Int)) (nD : H1 D = none) (hS : SqL K H1 a xs) (hlen : ps.length = xs.length) (hz : xs.length < sizeLine)
    (hw : ∀ x, wipe ((wipe σ vs).set j (some x)) vs = wipe σ vs)
    (hs : ∀ (i : Nat) (x : V) (p : Int × Int) (H' : Hp), xs[i]? = some x → ps[i]? = some p → Same H1 H' → ∀ Qt : V → Hp → Prop, (∀ t H'', Same H' H'' → H'' t = some (.tup [.int p.1, .int p.2]) → Qt (.ref t) H'') → te ((wipe σ vs).set j (some x)) H' Qt)
    (hd : ∀ H', Same H1 H' → FrRow H1 H' D ps → Qd H') :
    ∃ W : Nat → Nat → Hp → Prop, (∃ m, W 0 m (upd H1 D (.lst []))) ∧ ∀ i m H, W i m H →
      ((Itl K a).stop i H ∧ Qd H) ∨ ((Itl K a).go i H ∧ ∃ Nx : Hp → Prop, (∀ H', Nx H' → ∃ m', m' < m ∧ W (i + 1) m' H') ∧ ∀ x H', (Itl K a).yld i H x H' → gName j x (wipe σ vs) H' fun σ2 H2 => wipe σ2 vs = wipe σ vs ∧ tYes σ2 H2 fun b H3 =>
        if b = true then te σ2 H3 fun y H4 => ∃ acc, H4 D = some (.lst acc) ∧ acc.length < sizeLine ∧ Nx (upd H4 D (.lst (acc ++ [y]))) else Nx H3) := by
  refine lc_relL (K := K) (a := a) (xs := xs) (PrAt D ps) nD hS hz PrAt.mono hw ?_ ?_
  · intro i x H' zs hx s hD Qt qt
    have hi := (List.getElem?_eq_some_iff.mp hx).1
    have hp : ps[i]? = some (ps[i]'(by omega)) := List.getElem?_eq_getElem (by omega)
    refine hs i x _ H' hx hp s Qt fun t H'' s'' ht => qt _ H'' s'' ⟨t, _, hp, rfl, fun z => ?_, ht⟩
    rw [z, s'' _ _ hD] at ht
    cases ht
  · intro H' ys s hD hl hR
    exact hd H' s (PrAt.row nD hD (by rw [hl, hlen]) hR)
theorem lc_pairsR {lo : Int} {n : Nat} {j : Nat} {te : TE} {vs : List Nat} {σ : L2.St} {H1 : Hp} {D : Addr} {Qd : Hp → Prop} (ps : List (Int × Int)) (nD : H1 D = none) (hlen : ps.length = n) (hz : n < sizeLine)
    (hw : ∀ x, wipe ((wipe σ vs).set j (some x)) vs = wipe σ vs)
    (hs : ∀ (i : Nat) (p : Int × Int) (H' : Hp), i < n → ps[i]? = some p → Same H1 H' → ∀ Qt : V → Hp → Prop, (∀ t H'', Same H' H'' → H'' t = some (.tup [.int p.1, .int p.2]) → Qt (.ref t) H'') → te ((wipe σ vs).set j (some (.int (lo + (i : Int))))) H' Qt)
    (hd : ∀ H', Same H1 H' → FrRow H1 H' D ps → Qd H') :
    ∃ W : Nat → Nat → Hp → Prop, (∃ m, W 0 m (upd H1 D (.lst []))) ∧ ∀ i m H, W i m H →
      ((Itr lo n).stop i H ∧ Qd H) ∨ ((Itr lo n).go i H ∧ ∃ Nx : Hp → Prop, (∀ H', Nx H' → ∃ m', m' < m ∧ W (i + 1) m' H') ∧ ∀ x H', (Itr lo n).yld i H x H' → gName j x (wipe σ vs) H' fun σ2 H2 => wipe σ2 vs = wipe σ vs ∧ tYes σ2 H2 fun b H3 =>
        if b = true then te σ2 H3 fun y H4 => ∃ acc, H4 D = some (.lst acc) ∧ acc.length < sizeLine ∧ Nx (upd H4 D (.lst (acc ++ [y]))) else Nx H3) := by
  refine lc_relR (lo := lo) (n := n) (PrAt D ps) nD hz PrAt.mono hw ?_ ?_
  · intro i H' zs hi s hD Qt qt
    have hp : ps[i]? = some (ps[i]'(by omega)) := List.getElem?_eq_getElem (by omega)
    refine hs i _ H' hi hp s Qt fun t H'' s'' ht => qt _ H'' s'' ⟨t, _, hp, rfl, fun z => ?_, ht⟩
    rw [z, s'' _ _ hD] at ht
    cases ht
  · intro H' ys s hD hl hR
    exact hd H' s (PrAt.row nD hD (by rw [hl, hlen]) hR)
/-- comprehensions that make rows of pairs -/
theorem lc_matL {K : PySem.W.Frag} {a : Addr} {xs : List V} {j : Nat} {te : TE} {vs : List Nat} {σ : L2.St} {H1 : Hp} {D : Addr} {Qd : Hp → Prop} (M : List (List (Int × Int))) (nD : H1 D = none) (hS : SqL K H1 a xs) (hlen : M.length = xs.length) (hz : xs.length < sizeLine)
    (hw : ∀ x, wipe ((wipe σ vs).set j (some x)) vs = wipe σ vs)
    (hs : ∀ (i : Nat) (x : V) (r : List (Int × Int)) (H' : Hp), xs[i]? = some x → M[i]? = some r → Same H1 H' → ∀ Qt : V → Hp → Prop, (∀ b H'', Same H' H'' → FrRow H' H'' b r → Qt (.ref b) H'') → te ((wipe σ vs).set j (some x)) H' Qt)
    (hd : ∀ H', Same H1 H' → FrMat H1 H' D M → Qd H') :
    ∃ W : Nat → Nat → Hp → Prop, (∃ m, W 0 m (upd H1 D (.lst []))) ∧ ∀ i m H, W i m H →
      ((Itl K a).stop i H ∧ Qd H) ∨ ((Itl K a).go i H ∧ ∃ Nx : Hp → Prop, (∀ H', Nx H' → ∃ m', m' < m ∧ W (i + 1) m' H') ∧ ∀ x H', (Itl K a).yld i H x H' → gName j x (wipe σ vs) H' fun σ2 H2 => wipe σ2 vs = wipe σ vs ∧ tYes σ2 H2 fun b H3 =>
        if b = true then te σ2 H3 fun y H4 => ∃ acc, H4 D = some (.lst acc) ∧ acc.length < sizeLine ∧ Nx (upd H4 D (.lst (acc ++ [y]))) else Nx H3) := by
  refine lc_relL (K := K) (a := a) (xs := xs) (RwAt H1 D M) nD hS hz RwAt.mono hw ?_ ?_
  · intro i x H' zs hx s hD Qt qt
    have hi := (List.getElem?_eq_some_iff.mp hx).1
    have hp : M[i]? = some (M[i]'(by omega)) := List.getElem?_eq_getElem (by omega)
    refine hs i x _ H' hx hp s Qt fun b H'' s'' hr => qt _ H'' s'' ((hr.older s).rw hp (fun z => ?_) ⟨zs, s'' _ _ hD⟩)
    have := hr.1
    rw [z, hD] at this
    cases this
  · intro H' ys s hD hl hR
    exact hd H' s (RwAt.mat nD hD (by rw [hl, hlen]) hR)
theorem lc_matR {lo : Int} {n : Nat} {j : Nat} {te : TE} {vs : List Nat} {σ : L2.St} {H1 : Hp} {D : Addr} {Qd : Hp → Prop} (M : List (List (Int × Int))) (nD : H1 D = none) (hlen : M.length = n) (hz : n < sizeLine)
    (hw : ∀ x, wipe ((wipe σ vs).set j (some x)) vs = wipe σ vs)
    (hs : ∀ (i : Nat) (r : List (Int × Int)) (H' : Hp), i < n → M[i]? = some r → Same H1 H' → ∀ Qt : V → Hp → Prop, (∀ b H'', Same H' H'' → FrRow H' H'' b r → Qt (.ref b) H'') → te ((wipe σ vs).set j (some (.int (lo + (i : Int))))) H' Qt)
    (hd : ∀ H', Same H1 H' → FrMat H1 H' D M → Qd H') :
    ∃ W : Nat → Nat → Hp → Prop, (∃ m, W 0 m (upd H1 D (.lst []))) ∧ ∀ i m H, W i m H →
      ((Itr lo n).stop i H ∧ Qd H) ∨ ((Itr lo n).go i H ∧ ∃ Nx : Hp → Prop, (∀ H', Nx H' → ∃ m', m' < m ∧ W (i + 1) m' H') ∧ ∀ x H', (Itr lo n).yld i H x H' → gName j x (wipe σ vs) H' fun σ2 H2 => wipe σ2 vs = wipe σ vs ∧ tYes σ2 H2 fun b H3 =>
        if b = true then te σ2 H3 fun y H4 => ∃ acc, H4 D = some (.lst acc) ∧ acc.length < sizeLine ∧ Nx (upd H4 D (.lst (acc ++ [y]))) else Nx H3) := by
  refine lc_relR (lo := lo) (n := n) (RwAt H1 D M) nD hz RwAt.mono hw ?_ ?_
  · intro i H' zs hi s hD Qt qt
    have hp : M[i]? = some (M[i]'(by omega)) := List.getElem?_eq_getElem (by omega)
    refine hs i _ H' hi hp s Qt fun b H'' s'' hr => qt _ H'' s'' ((hr.older s).rw hp (fun z => ?_) ⟨zs, s'' _ _ hD⟩)
    have := hr.1
    rw [z, hD] at this
    cases this
  · intro H' ys s hD hl hR
    exact hd H' s (RwAt.mat nD hD (by rw [hl, hlen]) hR)
end My

namespace My
open PySem PySem.Spec PyProof.Rows L2 Pre
theorem num_take {n : Nat} {ss : List Step} {i : Nat} {s : Step} (h : ss[i]? = some s) : numF n (ss.take (i + 1)) = numS n s (numF n (ss.take i)) := by
  unfold numF
  rw [take_snoc h, List.foldl_append]
  rfl
theorem bits_take {ss : List Step} {i : Nat} {s : Step} (h : ss[i]? = some s) : bitsS (ss.take (i + 1)) = bitsS (ss.take i) + shS s := by
  unfold bitsS
  rw [take_snoc h, List.map_append, List.sum_append]
  simp
theorem bits_take_le (ss : List Step) (i : Nat) : bitsS (ss.take i) ≤ bitsS ss := by
  have e : bitsS ss = bitsS (ss.take i) + bitsS (ss.drop i) := by
    unfold bitsS
    rw [← List.sum_append, ← List.map_append, List.take_append_drop]
  omega
theorem frM_len (b : Nat) (M : List (List Int)) : (frM b M).length = M.length := List.length_map ..
theorem frM_set (b : Nat) (M : List (List Int)) (i : Nat) (r : List Int) : frM b (M.set i r) = (frM b M).set i (frL b r) := by
  unfold frM
  rw [List.map_set]
theorem frM_getD (b : Nat) (M : List (List Int)) (i : Nat) : (frM b M).getD i [] = frL b (M.getD i []) := by
  unfold frM
  rw [List.getD_eq_getElem?_getD, List.getElem?_map, List.getD_eq_getElem?_getD]
  cases M[i]? <;> rfl
theorem frL_getD (b : Nat) (l : List Int) {i : Nat} (h : i < l.length) : (frL b l).getD i (0, 1) = lowF (l.getD i 0) (2 ^ b) := by
  unfold frL
  rw [List.getD_eq_getElem?_getD, List.getElem?_map, List.getD_eq_getElem?_getD, List.getElem?_eq_getElem h]
  rfl
theorem frL_at {b : Nat} {l : List Int} {i : Nat} {p : Int × Int} (h : (frL b l)[i]? = some p) : ∃ x, l[i]? = some x ∧ p = lowF x (2 ^ b) := by
  unfold frL at h
  rw [List.getElem?_map] at h
  obtain ⟨x, hx, e⟩ := Option.map_eq_some_iff.mp h
  exact ⟨x, hx, e.symm⟩
theorem p2_bd {b : Nat} (h : b < 400) : ((2 : Int) ^ b).natAbs < 2 ^ 400 := by
  rw [Int.natAbs_pow]
  exact Nat.pow_lt_pow_right (by decide) h
theorem p2_pos (b : Nat) : (0 : Int) < 2 ^ b := Int.pow_pos (by decide)
theorem fr_ok {x : Int} {b a : Nat} (hx : x.natAbs < 2 ^ a) (ha : a ≤ 400) (hb : b < 400) : FrOk (lowF x (2 ^ b)) := low_ok (p2_pos b) hx (p2_bd hb) ha
local macro_rules | `(tactic| walk_at "go") => `(tactic| repeat (first | (with_reducible first | refine iteT ?_ | refine iteF ?_ | refine iteNtt ?_ | refine iteNff ?_ | refine iteET (by omega) ?_ | refine iteEF (by omega) ?_ | refine iteENT (by omega) ?_ | refine iteENF (by omega) ?_ | refine iteDT (by omega) ?_ | refine iteDF (by omega) ?_ | refine iteNT (by omega) ?_ | refine iteNF (by omega) ?_) | refine ⟨_, rfl, ?_⟩ | refine ⟨_, _, rfl, rfl, ?_⟩ | refine ⟨_, _, rfl, ?_⟩ | refine ⟨rfl, ?_⟩ | refine .inl ⟨_, rfl, ?_⟩ | refine .inr ⟨_, rfl, ?_⟩))
local macro_rules | `(tactic| walk_at "b") => `(tactic| try dsimp (config := { proj := false, iota := false, eta := false, zeta := false }) only)
section
variable {P : Program} {w : World} {K : PySem.W.Frag} {mg : Str → Option Value} {base : Heap}
def sp_halvings (C : Addr) : Sp := fun vs H Q _ => ∃ (a r : Addr) (n : Nat) (ss : List Step), vs = [.ref a] ∧ MixAt C H a r n ss ∧ ss.length ≤ 100 ∧ ∀ H', Same H H' → Q (.int (bitsS ss : Nat)) H'
def sp_matrix (C : Addr) (K : PySem.W.Frag) : Sp := fun vs H Q _ => ∃ (a r : Addr) (n : Nat) (ss : List Step), vs = [.ref a] ∧ MixAt C H a r n ss ∧ (∀ s ∈ ss, s.ok n) ∧ 1 ≤ n ∧ n ≤ 4 ∧ ss.length ≤ 20 ∧ bitsS ss ≤ 15 ∧ ∀ H' D, Same H H' → FrMat H H' D (frM (bitsS ss) (numF n ss)) → Q (.ref D) H'
end
end My

namespace My
open PySem PySem.Spec PyProof.Rows L2 Pre
theorem getD_lt {α : Type} {l : List α} {i : Nat} {d : α} (h : i < l.length) : l.getD i d = l[i] := by
  rw [List.getD_eq_getElem?_getD, List.getElem?_eq_getElem h]
  rfl
theorem getD_ge {α : Type} {l : List α} {i : Nat} {d : α} (h : l.length ≤ i) : l.getD i d = d := by
  rw [List.getD_eq_getElem?_getD, List.getElem?_eq_none h]
  rfl
theorem unit_fr {n : Nat} {i : Nat} {r : List (Int × Int)} (h : (frM 0 (unitM n))[i]? = some r) : i < n ∧ r = (List.range n).map fun j => ((if i = j then (1 : Int) else 0), (1 : Int)) := by
  unfold frM unitM at h
  rw [List.getElem?_map] at h
  by_cases hi : i < n
  · rw [List.getElem?_map, List.getElem?_range hi] at h
    refine ⟨hi, ?_⟩
    rw [← Option.some.inj h]
    unfold frL
    rw [List.map_map]
    apply List.map_congr_left
    intro j _
    show lowF (if i = j then 1 else 0) (2 ^ 0) = _
    rw [Int.pow_zero, lowF_one]
  · rw [List.getElem?_map, List.getElem?_eq_none (by rw [List.length_range]; omega)] at h
    cases h
/-- the row that a lift makes, after so many of its parts -/
def liftRow (n : Nat) (M : List (List Int)) (t : Nat) (ws : List Int) (sh k : Nat) : List Int := (List.range n).map fun j => (M.getD t []).getD j 0 * 2 ^ sh + dotP (ws.take k) (colM M j)
theorem liftRow_zero {n t sh : Nat} {M : List (List Int)} {ws : List Int} (h : (M.getD t []).length = n) : liftRow n M t ws sh 0 = (M.getD t []).map fun x => x * 2 ^ sh := by
  unfold liftRow
  refine ext_getD (by rw [List.length_map, List.length_range, List.length_map, h]) fun i hi => ?_
  rw [List.length_map, List.length_range] at hi
  rw [List.getD_eq_getElem?_getD, List.getElem?_map, List.getElem?_range hi, map_getD (by omega)]
  show (M.getD t []).getD i 0 * 2 ^ sh + dotP [] (colM M i) = _
  rw [show dotP [] (colM M i) = 0 from by cases colM M i <;> rfl]
  omega
theorem liftRow_all {n t sh : Nat} {M : List (List Int)} {ws : List Int} (h : (M.getD t []).length = n) (hw : ws.length = n) : liftRow n M t ws sh n = List.zipWith (fun a b => a + b) ((M.getD t []).map fun x => x * 2 ^ sh) ((List.range n).map fun k => dotP ws (colM M k)) := by
  unfold liftRow
  generalize M.getD t [] = row at *
  refine ext_getD (by rw [List.length_map, List.length_range, List.length_zipWith, List.length_map, List.length_map, List.length_range, h, Nat.min_self]) fun i hi => ?_
  rw [List.length_map, List.length_range] at hi
  rw [← hw, List.take_length, getD_lt (by rw [List.length_map, List.length_range]; omega), getD_lt (by rw [List.length_zipWith, List.length_map, List.length_map, List.length_range]; omega), List.getElem_map, List.getElem_zipWith, List.getElem_map, List.getElem_map, List.getElem_range, getD_lt (show i < row.length by omega)]
theorem col_getD {n : Nat} {M : List (List Int)} (hM : Sq n M) {i j : Nat} (hi : i < n) : (colM M j).getD i 0 = (M.getD i []).getD j 0 := by
  have hM' : i < M.length := by rw [hM.1]; exact hi
  unfold colM
  rw [getD_lt (by rw [List.length_map]; exact hM'), List.getElem_map, getD_lt hM']
/-- one part more -/
theorem liftRow_succ {n t sh k j b : Nat} {M : List (List Int)} {ws : List Int} (hM : Sq n M) (hw : ws.length = n) (hk : k < n) (hj : j < n) :
    lowF ((lowF ((liftRow n M t ws sh k).getD j 0) (2 ^ (b + sh))).1 * (lowF (ws.getD k 0 * (M.getD k []).getD j 0) (2 ^ sh * 2 ^ b)).2 + (lowF (ws.getD k 0 * (M.getD k []).getD j 0) (2 ^ sh * 2 ^ b)).1 * (lowF ((liftRow n M t ws sh k).getD j 0) (2 ^ (b + sh))).2) ((lowF ((liftRow n M t ws sh k).getD j 0) (2 ^ (b + sh))).2 * (lowF (ws.getD k 0 * (M.getD k []).getD j 0) (2 ^ sh * 2 ^ b)).2) = lowF ((liftRow n M t ws sh (k + 1)).getD j 0) (2 ^ (b + sh)) := by
  have e : (2 : Int) ^ sh * 2 ^ b = 2 ^ (b + sh) := by rw [Int.pow_add, Int.mul_comm]
  rw [e, low_same (p2_pos _)]
  congr 1
  have g : ∀ m, (liftRow n M t ws sh m).getD j 0 = (M.getD t []).getD j 0 * 2 ^ sh + dotP (ws.take m) (colM M j) := fun m => by
    unfold liftRow
    rw [List.getD_eq_getElem?_getD, List.getElem?_map, List.getElem?_range hj]
    rfl
  rw [g, g, dot_take ws (colM M j) k (by omega), col_getD hM hk]
  omega
theorem liftRow_bd {n t sh k c : Nat} {M : List (List Int)} {ws : List Int} (hn : n ≤ 4) (hM : Sq n M) (hB : Bd c M) (hw : ∀ w ∈ ws, -32768 ≤ w ∧ w ≤ 32768) (hwl : ws.length = n) (hs : sh ≤ 15) : ∀ x ∈ liftRow n M t ws sh k, x.natAbs < 2 ^ (c + 18) := fun x hx => by
  obtain ⟨j, _, rfl⟩ := List.mem_map.mp hx
  have p0 : 0 < 2 ^ c := Nat.two_pow_pos c
  have cell : ∀ i, ((M.getD i []).getD j 0).natAbs < 2 ^ c := fun i => by
    by_cases hi : i < M.length
    · rw [getD_lt (l := M) hi, List.getD_eq_getElem?_getD]
      cases e : M[i][j]? with
      | none => exact p0
      | some v => exact hB _ (List.getElem_mem hi) v (List.mem_of_getElem? e)
    · rw [getD_ge (l := M) (by omega)]
      show (([] : List Int).getD j 0).natAbs < 2 ^ c
      rw [getD_ge (by simp)]
      exact p0
  have hc : ∀ y ∈ colM M j, y.natAbs < 2 ^ c := fun y hy => by
    obtain ⟨q, hq, rfl⟩ := List.mem_map.mp hy
    rw [List.getD_eq_getElem?_getD]
    cases e : q[j]? with
    | none => exact p0
    | some v => exact hB q hq v (List.mem_of_getElem? e)
  have d := dot_bd (ws.take k) (colM M j) (fun w h => hw w (List.take_subset _ _ h)) hc
  have m : (ws.take k).length * (2 ^ 15 * 2 ^ c) ≤ 4 * (2 ^ 15 * 2 ^ c) := Nat.mul_le_mul_right _ (by rw [List.length_take]; omega)
  have a := cell t
  have f : ((M.getD t []).getD j 0 * 2 ^ sh).natAbs ≤ 2 ^ c * 2 ^ 15 := by
    rw [Int.natAbs_mul, Int.natAbs_pow]
    exact Nat.mul_le_mul (Nat.le_of_lt a) (Nat.pow_le_pow_right (by decide) hs)
  have p : 2 ^ (c + 18) = 2 ^ c * 262144 := by rw [Nat.pow_add]
  have t2 := Int.natAbs_add_le ((M.getD t []).getD j 0 * 2 ^ sh) (dotP (ws.take k) (colM M j))
  omega
local macro_rules | `(tactic| walk_at "go") => `(tactic| repeat (first | (with_reducible first | refine iteT ?_ | refine iteF ?_ | refine iteNtt ?_ | refine iteNff ?_ | refine iteET (by omega) ?_ | refine iteEF (by omega) ?_ | refine iteENT (by omega) ?_ | refine iteENF (by omega) ?_ | refine iteDT (by omega) ?_ | refine iteDF (by omega) ?_ | refine iteNT (by omega) ?_ | refine iteNF (by omega) ?_) | refine ⟨_, rfl, ?_⟩ | refine ⟨_, _, rfl, rfl, ?_⟩ | refine ⟨_, _, rfl, ?_⟩ | refine ⟨rfl, ?_⟩ | refine .inl ⟨_, rfl, ?_⟩ | refine .inr ⟨_, rfl, ?_⟩))
local macro_rules | `(tactic| walk_at "b") => `(tactic| try dsimp (config := { proj := false, iota := false, eta := false, zeta := false }) only)
section
variable {P : Program} {w : World} {K : PySem.W.Frag} {mg : Str → Option Value} {base : Heap}
def sp_law_matrix (K : PySem.W.Frag) : Sp := fun vs H Q _ => ∃ (N : Addr → Prop) (p : Addr) (n : Nat) (ss : List Step), vs = [.ref p, .int n] ∧ StepsAt N H p ss ∧ (∀ s ∈ ss, s.ok n) ∧ 1 ≤ n ∧ n ≤ 4 ∧ ss.length ≤ 16 ∧ bitsS ss ≤ 15 ∧ ∀ H' D, Same H H' → FrMat H H' D (frM (bitsS ss) (numF n ss)) → Q (.ref D) H'
theorem G_law_matrix (T : Top K mg) : FnOk P w K mg base CX0 3 T.f_law_matrix T.fd_law_matrix ["_law_steps_here", "_law_broad"] (sp_law_matrix K) := by
  refine T.F_law_matrix.ok sc_law_matrix (fun vs H Q E h => by obtain ⟨N, p, n, ss, rfl, _⟩ := h; rfl) (fun cdv A outer s H vs Q E hr h => ?_)
  obtain ⟨N, p, n, ss, rfl, hS, hO, hn1, hn4, hl, hb, q⟩ := h
  refine ⟨_, PSs.nox (pss_cons (ps_set (i := 2) sc_law_matrix.nd rfl (Or.inr rfl) (pe_lc (own := [("_law_one", 4)]) (g := gName 4) (tt := tYes) (by rfl) sc_law_matrix.nd (pi_range1 (by rfl) T.n_range (pa_cons (pv 1) pa_nil)) (blkOk_by (own := [("_law_one", 4)]) (N := N_law_matrix) (sc := defScope s_law_matrix) (by decide +kernel)) (fun _ _ _ _ _ => (pg_name (i := 4) sc_law_matrix.nd rfl (by first | exact Or.inl rfl | exact Or.inr rfl))) (fun _ _ _ _ _ => pts_nil) (fun _ _ _ _ _ => (pe_lc (own := [("_law_other", 7)]) (g := gName 7) (tt := tYes) (by rfl) sc_law_matrix.nd (pi_range1 (by rfl) T.n_range (pa_cons (pv 1) pa_nil)) (blkOk_by (own := [("_law_other", 7)]) (N := N_law_matrix) (by kernel_rfl)) (fun _ _ _ _ _ => (pg_name (i := 7) sc_law_matrix.nd rfl (by first | exact Or.inl rfl | exact Or.inr rfl))) (fun _ _ _ _ _ => pts_nil) (fun _ _ _ _ _ => (pe_tup (pa_cons (pe_callTy call_int1 (by rfl) T.n_int (by decide +kernel) (pa_cons (pe_cmpR op_eq (pv 4) (pv 7) (nomark _)) pa_nil)) (pa_cons pe_int pa_nil))))))))
  (pss_cons (ps_for PassesOwn.never rfl (k_piL K rfl (pv 0)) (pg_name (i := 3) sc_law_matrix.nd rfl (by first | exact Or.inl rfl | exact Or.inr rfl))
    (pss_one (ps_if (pt_cmpR op_eq (pe_ix (k_ixT K rfl) (pv 3) pe_int (fun _ _ => rfl)) pe_str (nomark _))
    (pss_cons (ps_set (i := 5) sc_law_matrix.nd rfl (by first | exact Or.inl rfl | exact Or.inr rfl) (pe_ix (k_ixL K rfl) (pv 2) (pe_ix (k_ixT K rfl) (pv 3) pe_int (fun _ _ => rfl)) (fun _ _ => rfl)))
  (pss_cons (ps_for PassesOwn.never rfl (pi_range1 (by rfl) T.n_range (pa_cons (pv 1) pa_nil)) (pg_name (i := 6) sc_law_matrix.nd rfl (by first | exact Or.inl rfl | exact Or.inr rfl))
    (pss_cons (ps_set (i := 8) sc_law_matrix.nd rfl (by first | exact Or.inl rfl | exact Or.inr rfl) (pe_call (G_law_part T) (hr.mono (by decide)) (by rfl) T.g_law_part T.F_law_part.kp T.b_law_part .nil pass0 (pa_cons (pe_ix (k_ixL K rfl) (pe_ix (k_ixT K rfl) (pv 3) pe_int (fun _ _ => rfl)) (pv 6) (fun _ _ => rfl)) (pa_cons (pe_op op_shl pe_int (pe_ix (k_ixT K rfl) (pv 3) pe_int (fun _ _ => rfl))) pa_nil))))
  (pss_one (ps_set (i := 5) sc_law_matrix.nd rfl (Or.inr rfl) (pe_lc (own := [("_law_k", 9)]) (g := gName 9) (tt := tYes) (by rfl) sc_law_matrix.nd (pi_range1 (by rfl) T.n_range (pa_cons (pv 1) pa_nil)) (blkOk_by (own := [("_law_k", 9)]) (N := N_law_matrix) (sc := defScope s_law_matrix) (by decide +kernel)) (fun _ _ _ _ _ => (pg_name (i := 9) sc_law_matrix.nd rfl (by first | exact Or.inl rfl | exact Or.inr rfl))) (fun _ _ _ _ _ => pts_nil) (fun _ _ _ _ _ => (pe_call (G_law_plus T) (hr.mono (by decide)) (by rfl) T.g_law_plus T.F_law_plus.kp T.b_law_plus .nil pass0 (pa_cons (pe_ix (k_ixL K rfl) (pv 5) (pv 9) (fun _ _ => rfl)) (pa_cons (pe_call (G_law_times T) (hr.mono (by decide)) (by rfl) T.g_law_times T.F_law_times.kp T.b_law_times .nil pass0 (pa_cons (pv 8) (pa_cons (pe_ix (k_ixL K rfl) (pe_ix (k_ixL K rfl) (pv 2) (pv 6) (fun _ _ => rfl)) (pv 9) (fun _ _ => rfl)) pa_nil))) pa_nil)))))))))
  (pss_one (ps_asg (pv 5) (pg_sub (pv 2) (pe_ix (k_ixT K rfl) (pv 3) pe_int (fun _ _ => rfl)) set_list)))))
    (pss_one (ps_if (pt_cmpR op_eq (pe_ix (k_ixT K rfl) (pv 3) pe_int (fun _ _ => rfl)) pe_str (nomark _))
    (pss_one (ps_asg (pe_lc (own := [("_law_one", 4)]) (g := gName 4) (tt := tYes) (by rfl) sc_law_matrix.nd (k_piL K rfl (pe_ix (k_ixL K rfl) (pv 2) (pe_ix (k_ixT K rfl) (pv 3) pe_int (fun _ _ => rfl)) (fun _ _ => rfl))) (blkOk_by (own := [("_law_one", 4)]) (N := N_law_matrix) (sc := defScope s_law_matrix) (by decide +kernel)) (fun _ _ _ _ _ => (pg_name (i := 4) sc_law_matrix.nd rfl (by first | exact Or.inl rfl | exact Or.inr rfl))) (fun _ _ _ _ _ => pts_nil) (fun _ _ _ _ _ => (pe_tup (pa_cons (pe_op op_sub pe_int (pe_ix (k_ixT K rfl) (pv 4) pe_int (fun _ _ => rfl))) (pa_cons (pe_ix (k_ixT K rfl) (pv 4) pe_int (fun _ _ => rfl)) pa_nil))))) (pg_sub (pv 2) (pe_ix (k_ixT K rfl) (pv 3) pe_int (fun _ _ => rfl)) set_list)))
    (pss_cons (ps_set (i := 5) sc_law_matrix.nd rfl (by first | exact Or.inl rfl | exact Or.inr rfl) (pe_ix (k_ixL K rfl) (pv 2) (pe_ix (k_ixT K rfl) (pv 3) pe_int (fun _ _ => rfl)) (fun _ _ => rfl)))
  (pss_cons (ps_asg (pe_ix (k_ixL K rfl) (pv 2) (pe_ix (k_ixT K rfl) (pv 3) pe_int (fun _ _ => rfl)) (fun _ _ => rfl)) (pg_sub (pv 2) (pe_ix (k_ixT K rfl) (pv 3) pe_int (fun _ _ => rfl)) set_list))
  (pss_one (ps_asg (pv 5) (pg_sub (pv 2) (pe_ix (k_ixT K rfl) (pv 3) pe_int (fun _ _ => rfl)) set_list))))))))))
  (pss_one (ps_ret (pv 2))))), ?_⟩
  obtain ⟨us, hp, hv⟩ := id hS
  walk_at "go"
  refine ⟨by omega, by omega, fun D nD => ?_⟩
  rw [Int.toNat_natCast]
  refine lc_matR (lo := 0) (n := n) (frM 0 (unitM n)) nD (by rw [frM_len, (unit_sq n).1]) (small1000 (by omega)) (fun x => rfl) ?_ ?_
  · intro i r H' hi hr s' Qt qt
    obtain ⟨_, rfl⟩ := unit_fr hr
    walk_at "go"
    refine ⟨by omega, by omega, fun D2 nD2 => ?_⟩
    rw [Int.toNat_natCast]
    refine lc_pairsR (lo := 0) (n := n) ((List.range n).map fun j => ((if i = j then (1 : Int) else 0), (1 : Int))) nD2 (by rw [List.length_map, List.length_range]) (small1000 (by omega)) (fun x => rfl) ?_ ?_
    · intro k pp H2 hk hpp s2 Qt2 qt2
      rw [List.getElem?_map, List.getElem?_range hk] at hpp
      cases hpp
      rw [Int.zero_add, Int.zero_add]
      walk_at "go"
      refine ⟨(show 2 ≤ sizeLine by decide), fun t nt => ?_⟩
      refine qt2 t _ (same_upd nt) ?_
      rw [upd_same]
      have e : (if decide (V.int ((i : Nat) : Int) = V.int ((k : Nat) : Int)) = true then (1 : Int) else 0) = if i = k then 1 else 0 := by
        rw [dec_nat]
        by_cases c : i = k
        · rw [if_pos c, if_pos (decide_eq_true c)]
        · rw [if_neg c, if_neg (fun z => c (of_decide_eq_true z))]
      walk_at "b"
      rw [e]
    · intro H3 s3 hF
      exact qt D2 H3 s3 hF
  intro H1 s1 hF1
  walk_at "go"
  refine ⟨⟨_, .inl (.inl (s1 _ _ hp))⟩, for_list (K := K) (a := p) (xs := us) (fun i σ H4 => ∃ v3 v5 v6 v8 : Option V, σ = [some (.ref p), some (.int n), some (.ref D), v3, none, v5, v6, none, v8, none] ∧ Same H H4 ∧ FrMat H H4 D (frM (bitsS (ss.take i)) (numF n (ss.take i)))) ⟨none, none, none, none, rfl, s1, hF1⟩ (fun i σ H4 _ ⟨_, _, _, _, _, s, _⟩ => .inl (.inl (s _ _ hp))) ?_ ?_⟩
  · rintro i v σ H4 hi ⟨v3, v5, v6, v8, rfl, s4, hF4⟩
    obtain ⟨s, hs, hvs⟩ := hv.get hi
    have hvs := hvs.same s4
    have ho := hO s (List.mem_of_getElem? hs)
    have hil := (List.getElem?_eq_some_iff.mp hs).1
    have sqM : Sq n (numF n (ss.take i)) := num_len fun x hx => hO x (List.take_subset _ _ hx)
    have bdM := num_bd hn4 (ss := ss.take i) (fun x hx => hO x (List.take_subset _ _ hx)) (unit_sq n) (unit_bd n)
    rw [num_take hs, bits_take hs]
    have hbi := bits_take_le ss i
    have hbi1 := bits_take_le ss (i + 1)
    rw [bits_take hs] at hbi1
    have hc109 : 1 + 18 * (ss.take i).length ≤ 300 := by rw [List.length_take]; omega
    change Bd (1 + 18 * (ss.take i).length) (numF n (ss.take i)) at bdM
    generalize numF n (ss.take i) = M at hF4 sqM bdM
    generalize bitsS (ss.take i) = b at hF4 hbi hbi1
    generalize 1 + 18 * (ss.take i).length = c at bdM hc109
    walk_at "go"
    cases s with
    | turn j =>
      obtain ⟨t, rfl, ht⟩ := hvs
      have hT : SqT K H4 t [sT, .int j] := .inl (.inl ht)
      have hj : j < n := ho
      refine ⟨t, _, _, _, rfl, rfl, hT, rfl, rfl, _, rfl, iteDF (by decide) ?_⟩
      walk_at "go"
      refine ⟨t, _, _, _, rfl, rfl, hT, rfl, rfl, _, rfl, iteDT rfl ?_⟩
      walk_at "go"
      refine ⟨t, _, _, _, rfl, rfl, hT, rfl, ?_⟩
      obtain ⟨a, xs, hx1, hx2, hFr, naD⟩ := hF4.at (i := j) (by rw [frM_len, sqM.1]; exact hj)
      rw [frM_getD] at hFr
      refine ⟨D, _, _, _, rfl, rfl, .inl (.inl hx1), hx2, ?_⟩
      obtain ⟨na, ts, ha, hal, hat⟩ := id hFr
      walk_at "go"
      refine ⟨⟨_, .inl (.inl ha)⟩, fun D2 nD2 => ?_⟩
      have ll : (M.getD j []).length = n := sqM.2 _ (getD_mem (by rw [sqM.1]; exact hj))
      rw [frL_len, ll] at hal
      refine lc_pairsL (K := K) (xs := ts.map V.ref) (frL b ((M.getD j []).map fun x => 0 - x)) nD2 (.inl (.inl ha)) (by rw [frL_len, List.length_map, List.length_map, ll, hal]) (by rw [List.length_map, hal]; exact small1000 (by omega)) (fun x => rfl) ?_ ?_
      · intro k y pp H5 hy hpp s5 Qt2 qt2
        rw [List.getElem?_map] at hy
        obtain ⟨t2, et2, rfl⟩ := Option.map_eq_some_iff.mp hy
        obtain ⟨x, hx, rfl⟩ := frL_at hpp
        rw [List.getElem?_map] at hx
        obtain ⟨m, hm, rfl⟩ := Option.map_eq_some_iff.mp hx
        have ht2 := hat k t2 (lowF m (2 ^ b)) et2 (by unfold frL; rw [List.getElem?_map, hm]; rfl)
        have hT2 : SqT K H5 t2 [.int (lowF m (2 ^ b)).1, .int (lowF m (2 ^ b)).2] := .inl (.inl (s5 _ _ ht2))
        walk_at "go"
        refine ⟨t2, _, _, _, rfl, rfl, hT2, rfl, ?_⟩
        walk_at "go"
        refine ⟨t2, _, _, _, rfl, rfl, hT2, rfl, ?_⟩
        refine ⟨(show 2 ≤ sizeLine by decide), fun t3 nt3 => ?_⟩
        refine qt2 t3 _ (same_upd nt3) ?_
        rw [upd_same, ← lowF_neg (p2_pos b)]
      intro H5 s5 hF5
      have hF45 := hF4.same s5
      obtain ⟨nD0, as, hD0, hDl, hDr⟩ := id hF45
      rw [frM_len, sqM.1] at hDl
      walk_at "go"
      refine ⟨t, _, _, _, rfl, rfl, Same.tup s5 hT, rfl, ?_⟩
      refine ⟨D, _, _, j, rfl, rfl, hD0, ix_ok (by rw [List.length_map]; omega), ?_⟩
      rw [show (((as.map V.ref).set j (V.ref D2))) = (as.set j D2).map V.ref from (List.map_set ..).symm]
      have D2D : D2 ≠ D := fun z => by
        have := hF5.1
        rw [z, hx1] at this
        cases this
      refine ⟨_, _, _, _, rfl, same_over nD (s4.trans s5), ?_⟩
      show FrMat H _ D (frM (b + 0) (M.set j ((M.getD j []).map fun x => 0 - x)))
      rw [Nat.add_zero, frM_set]
      exact FrMat.set nD hD0 (by rw [frM_len, sqM.1]; exact hDl) hDr j (hF5.older s4) D2D
    | swap j k =>
      obtain ⟨t, rfl, ht⟩ := hvs
      have hT : SqT K H4 t [sS, .int j, .int k] := .inl (.inl ht)
      obtain ⟨hj, hk, hjk⟩ : j < n ∧ k < n ∧ j ≠ k := ho
      refine ⟨t, _, _, _, rfl, rfl, hT, rfl, rfl, _, rfl, iteDF (by decide) ?_⟩
      walk_at "go"
      refine ⟨t, _, _, _, rfl, rfl, hT, rfl, rfl, _, rfl, iteDF (by decide) ?_⟩
      walk_at "go"
      refine ⟨t, _, _, _, rfl, rfl, hT, rfl, ?_⟩
      obtain ⟨nD0, as, hD0, hDl, hDr⟩ := id hF4
      rw [frM_len, sqM.1] at hDl
      have e1 : as[j]? = some (as[j]'(by omega)) := List.getElem?_eq_getElem (by omega)
      have e2 : as[k]? = some (as[k]'(by omega)) := List.getElem?_eq_getElem (by omega)
      generalize as[j]'(by omega) = aj at e1
      generalize as[k]'(by omega) = ak at e2
      have r1 := hDr j aj (frL b (M.getD j [])) e1 (by unfold frM; rw [List.getElem?_map, getD_lt (show j < M.length by rw [sqM.1]; exact hj), List.getElem?_eq_getElem (show j < M.length by rw [sqM.1]; exact hj)]; rfl)
      have r2 := hDr k ak (frL b (M.getD k [])) e2 (by unfold frM; rw [List.getElem?_map, getD_lt (show k < M.length by rw [sqM.1]; exact hk), List.getElem?_eq_getElem (show k < M.length by rw [sqM.1]; exact hk)]; rfl)
      refine ⟨D, _, _, _, rfl, rfl, .inl (.inl hD0), atI_nat (by rw [List.getElem?_map, e1]; rfl), ?_⟩
      walk_at "go"
      refine ⟨t, _, _, _, rfl, rfl, hT, rfl, ?_⟩
      refine ⟨D, _, _, _, rfl, rfl, .inl (.inl hD0), atI_nat (by rw [List.getElem?_map, e2]; rfl), ?_⟩
      walk_at "go"
      refine ⟨t, _, _, _, rfl, rfl, hT, rfl, ?_⟩
      refine ⟨D, _, _, j, rfl, rfl, hD0, ix_ok (by rw [List.length_map]; omega), ?_⟩
      rw [show ((as.map V.ref).set j (V.ref ak)) = (as.set j ak).map V.ref from (List.map_set ..).symm]
      have tD : t ≠ D := fun z => by rw [z, hD0] at ht; cases ht
      have F1 := FrMat.set nD hD0 (by rw [frM_len, sqM.1]; exact hDl) hDr j r2.1 r2.2
      have r1' := r1.1.off ⟨_, hD0⟩ r1.2 (fun b o nb h => by rw [upd_ne nb]; exact h : ∀ b o, b ≠ D → H4 b = some o → upd H4 D (.lst ((as.set j ak).map V.ref)) b = some o)
      have ht5 : upd H4 D (.lst ((as.set j ak).map V.ref)) t = some (.tup [sS, .int j, .int k]) := by rw [upd_ne tD]; exact ht
      have s5 := same_over nD s4 (o := .lst ((as.set j ak).map V.ref))
      have hD5 : upd H4 D (.lst ((as.set j ak).map V.ref)) D = some (.lst ((as.set j ak).map V.ref)) := upd_same
      generalize upd H4 D (.lst ((as.set j ak).map V.ref)) = H5 at *
      have hT5 : SqT K H5 t [sS, .int j, .int k] := .inl (.inl ht5)
      walk_at "go"
      refine ⟨t, _, _, _, rfl, rfl, hT5, rfl, ?_⟩
      refine ⟨D, _, _, k, rfl, rfl, hD5, ix_ok (by rw [List.length_map, List.length_set]; omega), ?_⟩
      obtain ⟨_, bs, hDb, hDbl, hDbr⟩ := F1
      rw [hD5] at hDb
      have eb : (as.set j ak).map V.ref = bs.map V.ref := HO.lst.inj (Option.some.inj hDb)
      rw [eb, show ((bs.map V.ref).set k (V.ref aj)) = (bs.set k aj).map V.ref from (List.map_set ..).symm]
      refine ⟨_, _, _, _, rfl, same_over nD s5, ?_⟩
      show FrMat H _ D (frM (b + 0) ((M.set j (M.getD k [])).set k (M.getD j [])))
      rw [Nat.add_zero, frM_set, frM_set]
      exact FrMat.set nD (by rw [hD5, eb]) hDbl hDbr k r1' r1.2
    | lift t0 ws sh =>
      obtain ⟨t, lw, rfl, ht, hlw, _⟩ := hvs
      obtain ⟨ht0, hwl, hw0, hs15, hws⟩ : t0 < n ∧ ws.length = n ∧ ws.getD t0 0 = 0 ∧ sh ≤ 15 ∧ _ := ho
      have hbs : b + sh ≤ 15 := by
        have : shS (.lift t0 ws sh) = sh := rfl
        omega
      have hT : SqT K H4 t [sL, .int t0, .ref lw, .int sh] := .inl (.inl ht)
      refine ⟨t, _, _, _, rfl, rfl, hT, rfl, rfl, _, rfl, iteDT rfl ?_⟩
      walk_at "go"
      refine ⟨t, _, _, _, rfl, rfl, hT, rfl, ?_⟩
      obtain ⟨a0, xs, hx1, hx2, hFr, naD⟩ := hF4.at (i := t0) (by rw [frM_len, sqM.1]; exact ht0)
      rw [frM_getD] at hFr
      have ll : (M.getD t0 []).length = n := sqM.2 _ (getD_mem (by rw [sqM.1]; exact ht0))
      refine ⟨D, _, _, _, rfl, rfl, .inl (.inl hx1), hx2, ?_⟩
      walk_at "go"
      refine ⟨by omega, by omega, ?_⟩
      walk_at "b"
      refine for_range (lo := 0) (n := ((n : Int)).toNat) (fun k σ H5 => ∃ (v6 v8 : Option V) (a : Addr), σ = [some (.ref p), some (.int n), some (.ref D), some (.ref t), none, some (.ref a), v6, none, v8, none] ∧ Same H4 H5 ∧ FrRow H H5 a (frL (b + sh) (liftRow n M t0 ws sh k)) ∧ a ≠ D) ⟨v6, v8, a0, rfl, Same.refl _, by rw [liftRow_zero ll, frL_scale]; exact hFr, naD⟩ ?_ ?_
      · rintro k σ H5 hk ⟨v6, v8, a, rfl, s5, hFa, naD'⟩
        have hkn : k < n := by rw [Int.toNat_natCast] at hk; exact hk
        rw [Int.zero_add]
        have hT5 := Same.tup s5 hT
        have hF5 := hF4.same s5
        have hwk := hws (ws.getD k 0) (by rw [getD_lt (by omega)]; exact List.getElem_mem _)
        walk_at "go"
        refine ⟨t, _, _, _, rfl, rfl, hT5, rfl, ?_⟩
        walk_at "go"
        refine ⟨lw, _, _, _, rfl, rfl, .inl (.inl (s5 _ _ hlw)), at_getD (by omega), ?_⟩
        walk_at "go"
        refine ⟨t, _, _, _, rfl, rfl, hT5, rfl, ?_⟩
        walk_at "go"
        refine ⟨⟨by omega, by omega, by decide⟩, ?_⟩
        walk_at "b"
        rw [shl_one, Int.natCast_pow]
        have h1000 : ((2 : Nat) : Int) ^ sh < 2 ^ 1000 := by
          have a1 : (2 : Int) ^ sh ≤ 2 ^ 15 := pow2_le hs15
          have a2 : (2 : Int) ^ 15 < 2 ^ 1000 := by decide +kernel
          exact Int.lt_of_le_of_lt a1 a2
        walk_at "go"
        refine ⟨p2_pos sh, h1000, fun H6 tw s6 ntw htw => ?_⟩
        rw [show ((2 : Nat) : Int) = 2 from rfl] at htw
        have hTw : FrOk (lowF (ws.getD k 0) (2 ^ sh)) := fr_ok (a := 16) (by omega) (by decide) (by omega)
        have s46 := s5.trans s6
        have hF6 := hF4.same s46
        have hFa6 := hFa.same s6
        have bdL := liftRow_bd (t := t0) (sh := sh) (k := k) hn4 sqM bdM hws hwl hs15
        walk_at "go"
        refine ⟨by omega, by omega, fun D2 nD2 => ?_⟩
        rw [Int.toNat_natCast]
        refine lc_pairsR (lo := 0) (n := n) (frL (b + sh) (liftRow n M t0 ws sh (k + 1))) nD2 (by rw [frL_len]; simp [liftRow]) (small1000 (by omega)) (fun x => rfl) ?_ ?_
        · intro j pp H7 hj hpp s7 Qt qt
          rw [Int.zero_add]
          have lL : ∀ m, (liftRow n M t0 ws sh m).length = n := fun m => by simp [liftRow]
          obtain ⟨tl, xl, hxl, hal, htl⟩ := (hFa6.same s7).at (i := j) (by rw [frL_len, lL]; exact hj)
          rw [frL_getD _ _ (by rw [lL]; exact hj)] at htl
          obtain ⟨ak, xk, hxk1, hxk2, hFk, _⟩ := (hF6.same s7).at (i := k) (by rw [frM_len, sqM.1]; exact hkn)
          rw [frM_getD] at hFk
          have lk : (M.getD k []).length = n := sqM.2 _ (getD_mem (by rw [sqM.1]; exact hkn))
          obtain ⟨tm, xm, hxm, ham, htm⟩ := hFk.at (i := j) (by rw [frL_len, lk]; exact hj)
          rw [frL_getD _ _ (by rw [lk]; exact hj)] at htm
          have cell : ((M.getD k []).getD j 0).natAbs < 2 ^ c := bdM _ (getD_mem (by rw [sqM.1]; exact hkn)) _ (by rw [getD_lt (show j < (M.getD k []).length by rw [lk]; exact hj)]; exact List.getElem_mem _)
          have ok1 : FrOk (lowF ((liftRow n M t0 ws sh k).getD j 0) (2 ^ (b + sh))) := fr_ok (a := c + 18) (bdL _ (by rw [getD_lt (by rw [lL]; exact hj)]; exact List.getElem_mem _)) (by omega) (by omega)
          have ok2 : FrOk (lowF ((M.getD k []).getD j 0) (2 ^ b)) := fr_ok (a := c) cell (by omega) (by omega)
          have ok3 : FrOk (lowF (ws.getD k 0 * (M.getD k []).getD j 0) (2 ^ sh * 2 ^ b)) := by
            rw [← Int.pow_add]
            refine fr_ok (a := c + 16) ?_ (by omega) (by omega)
            rw [Int.natAbs_mul, Nat.add_comm, Nat.pow_add]
            exact Nat.mul_lt_mul'' (by omega) cell
          walk_at "go"
          refine ⟨a, _, _, _, rfl, rfl, .inl (.inl hxl), hal, ?_⟩
          walk_at "go"
          refine ⟨D, _, _, _, rfl, rfl, .inl (.inl hxk1), hxk2, ?_⟩
          walk_at "go"
          refine ⟨ak, _, _, _, rfl, rfl, .inl (.inl hxm), ham, ?_⟩
          walk_at "go"
          refine ⟨tw, tm, lowF (ws.getD k 0) (2 ^ sh), lowF ((M.getD k []).getD j 0) (2 ^ b), rfl, .inl (.inl (s7 _ _ htw)), .inl (.inl htm), hTw, ok2, fun H8 tx s8 ntx htx => ?_⟩
          rw [lowF_mul (p2_pos sh) (p2_pos b)] at htx
          walk_at "go"
          refine ⟨tl, tx, _, _, rfl, .inl (.inl (s8 _ _ htl)), .inl (.inl htx), ok1, ok3, fun H9 ty s9 nty hty => ?_⟩
          rw [liftRow_succ sqM hwl hkn hj] at hty
          obtain ⟨x, hx, rfl⟩ := frL_at hpp
          have ex : (liftRow n M t0 ws sh (k + 1)).getD j 0 = x := by
            rw [List.getD_eq_getElem?_getD, hx]
            rfl
          rw [ex] at hty
          exact qt ty H9 (s8.trans s9) hty
        · intro H7 s7 hF7
          exact ⟨_, _, D2, rfl, s46.trans s7, hF7.older (s4.trans s46), fun z => by
            have := hF7.1
            rw [z, s46 _ _ hx1] at this
            cases this⟩
      · rintro σ H5 ⟨v6, v8, a, rfl, s5, hFa, naD'⟩
        rw [Int.toNat_natCast, liftRow_all ll hwl] at hFa
        obtain ⟨nD0, as, hD0, hDl, hDr⟩ := hF4.same s5
        rw [frM_len, sqM.1] at hDl
        walk_at "go"
        refine ⟨t, _, _, _, rfl, rfl, Same.tup s5 hT, rfl, ?_⟩
        refine ⟨D, _, _, t0, rfl, rfl, hD0, ix_ok (by rw [List.length_map]; omega), ?_⟩
        rw [show ((as.map V.ref).set t0 (V.ref a)) = (as.set t0 a).map V.ref from (List.map_set ..).symm]
        refine ⟨_, _, _, _, rfl, same_over nD (s4.trans s5), ?_⟩
        show FrMat H _ D (frM (b + sh) ((M.map fun l => l.map fun x => x * 2 ^ sh).set t0 _))
        rw [frM_set, frM_scale]
        exact FrMat.set nD hD0 (by rw [frM_len, sqM.1]; exact hDl) hDr t0 hFa naD'
  · rintro σ H4 ⟨v3, v5, v6, v8, rfl, s4, hF4⟩
    rw [hv.len, List.take_length] at hF4
    walk_at "go"
    exact q H4 D s4 hF4
end
end My

namespace My
open PySem PySem.Spec PyProof.Rows L2 Pre
/-- by how much, times 2 to the power of the halvings, what comes out is more than what the row tells -/
def missF (n : Nat) (ss : List Step) (i : Nat) (x : List Int) : Int := (playF ss x).getD i 0 * 2 ^ bitsS ss - dotP ((numF n ss).getD i []) x
def restsF2 (n : Nat) (ss : List Step) : List (List Int) := listsF (rngI 0 (2 ^ bitsS ss)) n
/-- rows that have the least and the greatest of it -/
def EndsOk (rows : List (List Int)) (f : List Int → Int) (lo hi : List Int) : Prop := lo ∈ rows ∧ hi ∈ rows ∧ ∀ r ∈ rows, f lo ≤ f r ∧ f r ≤ f hi
theorem dot_addM2 (c : Int) (l u v : List Int) (h : u.length = v.length) : dotP l (addM u c v) = dotP l u + c * dotP l v := dot_addM c l u v h
theorem rest_split {n : Nat} {m : Nat} {x : List Int} (hx : x.length = n) : x = addM (x.map fun v => v % 2 ^ m) (2 ^ m) (x.map fun v => v / 2 ^ m) ∧ (x.map fun v => v % 2 ^ m) ∈ listsF (rngI 0 (2 ^ m)) n := by
  have p0 : (0 : Int) < 2 ^ m := Int.pow_pos (by decide)
  have er : (x.map fun v => v % 2 ^ m).length = n := by rw [List.length_map, hx]
  have eq : (x.map fun v => v / 2 ^ m).length = n := by rw [List.length_map, hx]
  refine ⟨ext_getD (by rw [addM_len (by rw [er, eq]), List.length_map]) fun i hi => ?_, mem_listsF.mpr ⟨er, fun v hv => ?_⟩⟩
  · rw [addM_getD (by rw [er, eq]), map_getD (by omega), map_getD (by omega)]
    exact (Int.emod_add_mul_ediv _ _).symm
  · obtain ⟨w, _, rfl⟩ := List.mem_map.mp hv
    refine mem_rngI.mpr ⟨Int.emod_nonneg _ (Int.ne_of_gt p0), ?_⟩
    have := Int.emod_lt_of_pos w p0
    rw [Int.natCast_pow]
    show w % 2 ^ m < 0 + (2 : Int) ^ m
    omega
theorem miss_far {n : Nat} {ss : List Step} (ok : ∀ s ∈ ss, s.ok n) {i : Nat} {u y : List Int} (hu : u.length = n) (hy : y.length = n) : missF n ss i (addM u (2 ^ bitsS ss) y) = missF n ss i u := by
  unfold missF
  have l := num_len ok
  rw [play_far ok (Nat.le_refl _) hu hy, Nat.sub_self, Int.pow_zero, addM_getD (by rw [play_len, mulV_len, l.1, hu]), mul_getD, dot_addM _ _ _ _ (by rw [hu, hy]), Int.one_mul, Int.add_mul, Int.mul_comm (dotP _ y)]
  omega
theorem getD_inI {xs : List Int} {i : Nat} (h : i < xs.length) : xs.getD i 0 ∈ xs := by
  rw [getD_lt h]
  exact List.getElem_mem h
/-- the ends hold for all numbers -/
theorem ends_all {n : Nat} {ss : List Step} (ok : ∀ s ∈ ss, s.ok n) {i : Nat} {lo hi : List Int} (h : EndsOk (restsF2 n ss) (missF n ss i) lo hi) {x : List Int} (hx : x.length = n) : missF n ss i lo ≤ missF n ss i x ∧ missF n ss i x ≤ missF n ss i hi := by
  obtain ⟨e, m⟩ := rest_split (m := bitsS ss) hx
  have := h.2.2 _ m
  rw [← miss_far ok (i := i) (u := x.map fun v => v % 2 ^ bitsS ss) (y := x.map fun v => v / 2 ^ bitsS ss) (by rw [List.length_map, hx]) (by rw [List.length_map, hx]), ← e] at this
  exact this
def EndAt (H : Hp) (done : List (Addr × List Int)) (f : List Int → Int) (v : V) : Prop := (done = [] ∧ v = .non) ∨ ∃ (t : Addr) (c d : Addr × List Int), v = .ref t ∧ H t = some (.tup [.int (f c.2), .ref c.1, .int (f d.2), .ref d.1]) ∧ c ∈ done ∧ d ∈ done ∧ ∀ e ∈ done, f c.2 ≤ f e.2 ∧ f e.2 ≤ f d.2
theorem EndAt.same {H H' : Hp} {done : List (Addr × List Int)} {f : List Int → Int} {v : V} (h : EndAt H done f v) (s : Same H H') : EndAt H' done f v := by
  rcases h with h | ⟨t, c, d, h1, h2, h3⟩
  · exact .inl h
  · exact .inr ⟨t, c, d, h1, s _ _ h2, h3⟩
local macro_rules | `(tactic| walk_at "go") => `(tactic| repeat (first | (with_reducible first | refine iteT ?_ | refine iteF ?_ | refine iteNtt ?_ | refine iteNff ?_ | refine iteET (by omega) ?_ | refine iteEF (by omega) ?_ | refine iteENT (by omega) ?_ | refine iteENF (by omega) ?_ | refine iteDT (by omega) ?_ | refine iteDF (by omega) ?_ | refine iteNT (by omega) ?_ | refine iteNF (by omega) ?_) | refine ⟨_, rfl, ?_⟩ | refine ⟨_, _, rfl, rfl, ?_⟩ | refine ⟨_, _, rfl, ?_⟩ | refine ⟨rfl, ?_⟩ | refine .inl ⟨_, rfl, ?_⟩ | refine .inr ⟨_, rfl, ?_⟩))
local macro_rules | `(tactic| walk_at "b") => `(tactic| try dsimp (config := { proj := false, iota := false, eta := false, zeta := false }) only)
section
variable {P : Program} {w : World} {K : PySem.W.Frag} {mg : Str → Option Value} {base : Heap}
def sp_widened (K : PySem.W.Frag) : Sp := fun vs H Q _ => ∃ (done : List (Addr × List Int)) (f : List Int → Int) (v : V) (e : Addr × List Int), vs = [v, .int (f e.2), .ref e.1] ∧ EndAt H done f v ∧ ∀ H' v', Same H H' → EndAt H' (done ++ [e]) f v' → Q v' H'
theorem G_widened (T : Top K mg) : FnOk P w K mg base CX0 1 T.f_widened T.fd_widened ["end", "number", "row"] (sp_widened K) := by
  refine T.F_widened.ok sc_widened (fun vs H Q E h => by obtain ⟨done, f, v, e, rfl, _⟩ := h; rfl) (fun cdv A outer s H vs Q E hr h => ?_)
  obtain ⟨done, f, v, e, rfl, hE, q⟩ := h
  refine ⟨_, PSs.nox (pss_cons (ps_if (pt_cmpR op_isN (pv 0) pe_non (nomark _))
    (pss_one (ps_ret (pe_tup (pa_cons (pv 1) (pa_cons (pv 2) (pa_cons (pv 1) (pa_cons (pv 2) pa_nil)))))))
    pss_nil)
  (pss_cons (ps_asg (pv 0) (k_pgT K rfl (by rfl) (pgs_cons (pg_name (i := 3) sc_widened.nd rfl (by first | exact Or.inl rfl | exact Or.inr rfl)) (pgs_cons (pg_name (i := 4) sc_widened.nd rfl (by first | exact Or.inl rfl | exact Or.inr rfl)) (pgs_cons (pg_name (i := 5) sc_widened.nd rfl (by first | exact Or.inl rfl | exact Or.inr rfl)) (pgs_cons (pg_name (i := 6) sc_widened.nd rfl (by first | exact Or.inl rfl | exact Or.inr rfl)) pgs_nil))))))
  (pss_cons (ps_if (pt_cmpR op_lt (pv 1) (pv 3) (nomark _))
    (pss_one (ps_par (by rfl) sc_widened.nd (i := 3) (j := 4) rfl rfl (by decide) rfl rfl (pa_cons (pv 1) (pa_cons (pv 2) pa_nil)) (by rfl)))
    pss_nil)
  (pss_cons (ps_if (pt_cmpR op_gt (pv 1) (pv 5) (nomark _))
    (pss_one (ps_par (by rfl) sc_widened.nd (i := 5) (j := 6) rfl rfl (by decide) rfl rfl (pa_cons (pv 1) (pa_cons (pv 2) pa_nil)) (by rfl)))
    pss_nil)
  (pss_one (ps_ret (pe_tup (pa_cons (pv 3) (pa_cons (pv 4) (pa_cons (pv 5) (pa_cons (pv 6) pa_nil))))))))))), ?_⟩
  have more : ∀ {c d : Addr × List Int}, c ∈ done ∨ c = e → d ∈ done ∨ d = e → (∀ x ∈ done, f c.2 ≤ f x.2 ∧ f x.2 ≤ f d.2) → f c.2 ≤ f e.2 → f e.2 ≤ f d.2 → c ∈ done ++ [e] ∧ d ∈ done ++ [e] ∧ ∀ x ∈ done ++ [e], f c.2 ≤ f x.2 ∧ f x.2 ≤ f d.2 := fun {c d} h1 h2 h3 h4 h5 =>
    ⟨List.mem_append.mpr (h1.imp id List.mem_singleton.mpr), List.mem_append.mpr (h2.imp id List.mem_singleton.mpr), fun x hx => by
      rcases List.mem_append.mp hx with h | h
      · exact h3 x h
      · rw [List.mem_singleton.mp h]
        exact ⟨h4, h5⟩⟩
  rcases hE with ⟨rfl, rfl⟩ | ⟨t, c, d, rfl, ht, hc, hd, hall⟩
  · walk_at "go"
    refine ⟨(show 4 ≤ sizeLine by decide), fun p np => ?_⟩
    exact q _ (.ref p) (same_upd np) (.inr ⟨p, e, e, rfl, upd_same, more (.inr rfl) (.inr rfl) (fun x h => nomatch h) (Int.le_refl _) (Int.le_refl _)⟩)
  · have hT : SqT K H t [.int (f c.2), .ref c.1, .int (f d.2), .ref d.1] := .inl (.inl ht)
    have hcd := hall c hc
    walk_at "go"
    refine ⟨t, _, rfl, hT, rfl, ?_⟩
    walk_at "go"
    have fin : ∀ (c' d' : Addr × List Int) (p : Addr), H p = none → (c' ∈ done ∨ c' = e) → (d' ∈ done ∨ d' = e) → (∀ x ∈ done, f c'.2 ≤ f x.2 ∧ f x.2 ≤ f d'.2) → f c'.2 ≤ f e.2 → f e.2 ≤ f d'.2 → Q (.ref p) (upd H p (.tup [.int (f c'.2), .ref c'.1, .int (f d'.2), .ref d'.1])) := fun c' d' p np h1 h2 h3 h4 h5 => q _ (.ref p) (same_upd np) (.inr ⟨p, c', d', rfl, upd_same, more h1 h2 h3 h4 h5⟩)
    by_cases ca : f e.2 < f c.2
    · refine iteDT ca ?_
      walk_at "go"
      refine ⟨(show 4 ≤ sizeLine by decide), fun p np => ?_⟩
      exact fin e d p np (.inr rfl) (.inl hd) (fun x hx => ⟨by have := (hall x hx).1; omega, (hall x hx).2⟩) (Int.le_refl _) (by omega)
    · refine iteDF ca ?_
      walk_at "go"
      by_cases cb : f d.2 < f e.2
      · refine iteDT cb ?_
        walk_at "go"
        refine ⟨(show 4 ≤ sizeLine by decide), fun p np => ?_⟩
        exact fin c e p np (.inl hc) (.inr rfl) (fun x hx => ⟨(hall x hx).1, by have := (hall x hx).2; omega⟩) (by omega) (Int.le_refl _)
      · refine iteDF cb ?_
        walk_at "go"
        refine ⟨(show 4 ≤ sizeLine by decide), fun p np => ?_⟩
        exact fin c d p np (.inl hc) (.inl hd) hall (by omega) (by omega)
structure MissE where
  t : Addr
  f1 : Addr
  l1 : Addr
  f2 : Addr
  l2 : Addr
  lo : List Int
  hi : List Int
def MissE.at_ (b : Nat) (f : List Int → Int) (H : Hp) (e : MissE) : Prop := H e.t = some (.tup [.ref e.f1, .ref e.l1, .ref e.f2, .ref e.l2]) ∧ H e.f1 = some (.tup [.int (lowF (f e.lo) (2 ^ b)).1, .int (lowF (f e.lo) (2 ^ b)).2]) ∧ H e.l1 = some (.lst (e.lo.map V.int)) ∧ H e.f2 = some (.tup [.int (lowF (f e.hi) (2 ^ b)).1, .int (lowF (f e.hi) (2 ^ b)).2]) ∧ H e.l2 = some (.lst (e.hi.map V.int))
def missLs (es : List MissE) : List Addr := es.flatMap fun e => [e.l1, e.l2]
structure MissAt (H0 H : Hp) (p : Addr) (n m : Nat) (ss : List Step) (es : List MissE) : Prop where
  lst : H p = some (.lst (es.map fun e => V.ref e.t))
  new : H0 p = none
  len : es.length = m
  at_ : ∀ (i : Nat) (e : MissE), es[i]? = some e → e.at_ (bitsS ss) (missF n ss i) H ∧ EndsOk (restsF2 n ss) (missF n ss i) e.lo e.hi ∧ H0 e.l1 = none ∧ H0 e.l2 = none
  nd : (missLs es).Nodup
  np : ∀ a ∈ missLs es, a ≠ p
theorem MissE.at_.same {b : Nat} {f : List Int → Int} {H H' : Hp} {e : MissE} (h : e.at_ b f H) (s : Same H H') : e.at_ b f H' := ⟨s _ _ h.1, s _ _ h.2.1, s _ _ h.2.2.1, s _ _ h.2.2.2.1, s _ _ h.2.2.2.2⟩
theorem MissAt.same {H0 H H' : Hp} {p : Addr} {n m : Nat} {ss : List Step} {es : List MissE} (h : MissAt H0 H p n m ss es) (s : Same H H') : MissAt H0 H' p n m ss es :=
  ⟨s _ _ h.lst, h.new, h.len, fun i e he => ⟨(h.at_ i e he).1.same s, (h.at_ i e he).2⟩, h.nd, h.np⟩
theorem MissAt.older {H0 H1 H : Hp} {p : Addr} {n m : Nat} {ss : List Step} {es : List MissE} (h : MissAt H1 H p n m ss es) (s : Same H0 H1) : MissAt H0 H p n m ss es :=
  ⟨h.lst, s.free h.new, h.len, fun i e he => ⟨(h.at_ i e he).1, (h.at_ i e he).2.1, s.free (h.at_ i e he).2.2.1, s.free (h.at_ i e he).2.2.2⟩, h.nd, h.np⟩
theorem MissE.at_.but {b : Nat} {f : List Int → Int} {D : Addr} {H H' : Hp} {e : MissE} (h : e.at_ b f H) (k : But D H H') (hD : ∃ vs, H D = some (.lst vs)) (n1 : e.l1 ≠ D) (n2 : e.l2 ≠ D) : e.at_ b f H' := by
  obtain ⟨vs, hD⟩ := hD
  have ne : ∀ {a : Addr} {xs : List V}, H a = some (.tup xs) → a ≠ D := fun {a xs} h z => by rw [z, hD] at h; cases h
  exact ⟨k _ _ (ne h.1) h.1, k _ _ (ne h.2.1) h.2.1, k _ _ n1 h.2.2.1, k _ _ (ne h.2.2.2.1) h.2.2.2.1, k _ _ n2 h.2.2.2.2⟩
theorem missLs_snoc (es : List MissE) (e : MissE) : missLs (es ++ [e]) = missLs es ++ [e.l1, e.l2] := by
  simp [missLs]
theorem MissAt.some {H0 H : Hp} {p : Addr} {n m : Nat} {ss : List Step} {es : List MissE} (h : MissAt H0 H p n m ss es) {a : Addr} (ha : a ∈ missLs es) : H a ≠ none := by
  obtain ⟨e, he, hm⟩ := List.mem_flatMap.mp ha
  obtain ⟨i, hi⟩ := List.getElem?_of_mem he
  have k := (h.at_ i e hi).1
  rcases List.mem_cons.mp hm with rfl | hm
  · rw [k.2.2.1]
    exact fun z => nomatch z
  · rw [List.mem_singleton.mp hm, k.2.2.2.2]
    exact fun z => nomatch z
theorem MissAt.snoc {H0 H H' : Hp} {D : Addr} {n m : Nat} {ss : List Step} {es : List MissE} {e : MissE} (h : MissAt H0 H D n m ss es) (s : Same H H') (k : e.at_ (bitsS ss) (missF n ss m) H') (ok : EndsOk (restsF2 n ss) (missF n ss m) e.lo e.hi) (n1 : H e.l1 = none) (n2 : H e.l2 = none) (n12 : e.l1 ≠ e.l2) (z1 : H0 e.l1 = none) (z2 : H0 e.l2 = none) : MissAt H0 (upd H' D (.lst ((es.map fun e => V.ref e.t) ++ [.ref e.t]))) D n (m + 1) ss (es ++ [e]) := by
  have hD : H' D = _ := s _ _ h.lst
  have d1 : e.l1 ≠ D := fun z => by rw [z, h.lst] at n1; cases n1
  have d2 : e.l2 ≠ D := fun z => by rw [z, h.lst] at n2; cases n2
  refine ⟨by rw [List.map_append]; exact upd_same, h.new, by rw [List.length_append, h.len]; rfl, fun i x hx => ?_, ?_, ?_⟩
  · rcases Nat.lt_or_ge i es.length with hi | hi
    · rw [List.getElem?_append_left hi] at hx
      have q := h.at_ i x hx
      have m1 : ∀ a ∈ [x.l1, x.l2], a ∈ missLs es := fun a ha => List.mem_flatMap.mpr ⟨x, List.mem_of_getElem? hx, ha⟩
      exact ⟨(q.1.same s).but But.refl.upd ⟨_, hD⟩ (h.np _ (m1 _ List.mem_cons_self)) (h.np _ (m1 _ (List.mem_cons_of_mem _ List.mem_cons_self))), q.2⟩
    · rw [List.getElem?_append_right hi] at hx
      have e0 : i - es.length = 0 := by
        have := (List.getElem?_eq_some_iff.mp hx).1
        rw [List.length_singleton] at this
        omega
      rw [e0] at hx
      cases hx
      have ei : i = m := by have := h.len; omega
      subst ei
      exact ⟨k.but But.refl.upd ⟨_, hD⟩ d1 d2, ok, z1, z2⟩
  · rw [missLs_snoc]
    refine List.nodup_append.mpr ⟨h.nd, by simp [n12], fun a ha b hb z => ?_⟩
    subst z
    have q := h.some ha
    rcases List.mem_cons.mp hb with rfl | hb
    · exact q n1
    · rw [List.mem_singleton.mp hb] at q
      exact q n2
  · intro a ha
    rw [missLs_snoc] at ha
    rcases List.mem_append.mp ha with ha | ha
    · exact h.np a ha
    · rcases List.mem_cons.mp ha with rfl | ha
      · exact d1
      · rw [List.mem_singleton.mp ha]
        exact d2
def sp_misses (C : Addr) (K : PySem.W.Frag) : Sp := fun vs H Q _ => ∃ (a r : Addr) (n : Nat) (ss : List Step), vs = [.ref a] ∧ MixAt C H a r n ss ∧ (∀ s ∈ ss, s.ok n) ∧ 1 ≤ n ∧ n ≤ 4 ∧ ss.length ≤ 16 ∧ bitsS ss ≤ 15 ∧ (2 ^ bitsS ss) ^ n ≤ 1000 ∧ ∀ H' p es, Same H H' → MissAt H H' p n n ss es → Q (.ref p) H'
end
end My

namespace My
open PySem PySem.Spec PyProof.Rows L2 Pre
theorem dot_bdG {a c : Nat} : ∀ (ws xs : List Int), (∀ w ∈ ws, w.natAbs < 2 ^ a) → (∀ x ∈ xs, x.natAbs < 2 ^ c) → (dotP ws xs).natAbs ≤ ws.length * (2 ^ a * 2 ^ c)
  | [], xs, _, _ => by cases xs <;> exact Nat.zero_le _
  | _ :: _, [], _, _ => Nat.zero_le _
  | w :: ws, x :: xs, h, k => by
    have ih := dot_bdG ws xs (fun w hw => h w (List.mem_cons_of_mem _ hw)) (fun x hx => k x (List.mem_cons_of_mem _ hx))
    have e : (w * x).natAbs ≤ 2 ^ a * 2 ^ c := by
      rw [Int.natAbs_mul]
      exact Nat.mul_le_mul (Nat.le_of_lt (h w List.mem_cons_self)) (Nat.le_of_lt (k x List.mem_cons_self))
    have t := Int.natAbs_add_le (w * x) (dotP ws xs)
    show (w * x + dotP ws xs).natAbs ≤ (ws.length + 1) * (2 ^ a * 2 ^ c)
    rw [Nat.add_mul, Nat.one_mul]
    omega
theorem dot_lt {a c : Nat} {ws xs : List Int} (hw : ∀ w ∈ ws, w.natAbs < 2 ^ a) (hx : ∀ x ∈ xs, x.natAbs < 2 ^ c) (hl : ws.length ≤ 4) : (dotP ws xs).natAbs < 2 ^ (a + c + 3) := by
  have d := dot_bdG ws xs hw hx
  have m : ws.length * (2 ^ a * 2 ^ c) ≤ 4 * (2 ^ a * 2 ^ c) := Nat.mul_le_mul_right _ hl
  have p0 : 0 < 2 ^ a * 2 ^ c := Nat.mul_pos (Nat.two_pow_pos a) (Nat.two_pow_pos c)
  have e : 2 ^ (a + c + 3) = (2 ^ a * 2 ^ c) * 8 := by rw [Nat.pow_add, Nat.pow_add]
  omega
theorem low_zero (b : Nat) : lowF 0 (2 ^ b) = (0, 1) := by
  have p := p2_pos b
  unfold lowF
  have e : ((Int.gcd 0 (2 ^ b) : Nat) : Int) = 2 ^ b := by
    rw [Int.gcd_zero_left]
    exact Int.natAbs_of_nonneg (Int.le_of_lt p)
  rw [e, Int.zero_ediv, Int.ediv_self (Int.ne_of_gt p)]
theorem one_ok {x : Int} {a : Nat} (h : x.natAbs < 2 ^ a) (ha : a ≤ 400) : FrOk (x, 1) := ⟨(by decide : (0 : Int) < 1), Nat.lt_of_lt_of_le h (Nat.pow_le_pow_right (by decide) ha), (by decide : (1 : Int).natAbs < 2 ^ 400)⟩
theorem led_part {w u x : Int} (p0 : 0 < u) : lowF ((lowF w u).1 * x) ((lowF w u).2 * 1) = lowF (w * x) u := by
  have := lowF_mul (t := w) (t' := x) p0 (show (0 : Int) < 1 by decide)
  simp only [lowF_one, Int.mul_one] at this ⊢
  exact this
theorem miss_part {t d u : Int} (p0 : 0 < u) : lowF (t * (lowF (0 - d) u).2 + (lowF (0 - d) u).1 * 1) (1 * (lowF (0 - d) u).2) = lowF (t * u - d) u := by
  have := lowF_add (t := t) (u := 1) (t' := 0 - d) (u' := u) (by decide) p0
  simp only [lowF_one, Int.mul_one, Int.one_mul] at this ⊢
  rw [this]
  congr 1
  omega
local macro_rules | `(tactic| walk_at "go") => `(tactic| repeat (first | (with_reducible first | refine iteT ?_ | refine iteF ?_ | refine iteNtt ?_ | refine iteNff ?_ | refine iteET (by omega) ?_ | refine iteEF (by omega) ?_ | refine iteENT (by omega) ?_ | refine iteENF (by omega) ?_ | refine iteDT (by omega) ?_ | refine iteDF (by omega) ?_ | refine iteNT (by omega) ?_ | refine iteNF (by omega) ?_) | refine ⟨_, rfl, ?_⟩ | refine ⟨_, _, rfl, rfl, ?_⟩ | refine ⟨_, _, rfl, ?_⟩ | refine ⟨rfl, ?_⟩ | refine .inl ⟨_, rfl, ?_⟩ | refine .inr ⟨_, rfl, ?_⟩))
local macro_rules | `(tactic| walk_at "b") => `(tactic| try dsimp (config := { proj := false, iota := false, eta := false, zeta := false }) only)
section
variable {P : Program} {w : World} {K : PySem.W.Frag} {mg : Str → Option Value} {base : Heap}
def sp_law_led : Sp := fun vs H Q _ => ∃ (H0 : Hp) (a r : Addr) (l xs : List Int) (b : Nat), vs = [.ref a, .ref r] ∧ FrRow H0 H a (frL b l) ∧ H r = some (.lst (xs.map V.int)) ∧ l.length = xs.length ∧ xs.length ≤ 4 ∧ b ≤ 15 ∧ (∀ w ∈ l, w.natAbs < 2 ^ 200) ∧ (∀ x ∈ xs, x.natAbs < 2 ^ 150) ∧ ∀ H' p, Same H H' → H p = none → H' p = some (.tup [.int (lowF (dotP l xs) (2 ^ b)).1, .int (lowF (dotP l xs) (2 ^ b)).2]) → Q (.ref p) H'
def sp_law_miss : Sp := fun vs H Q _ => ∃ (H0 : Hp) (a r : Addr) (t : Int) (l xs : List Int) (b : Nat), vs = [.int t, .ref a, .ref r] ∧ FrRow H0 H a (frL b l) ∧ H r = some (.lst (xs.map V.int)) ∧ l.length = xs.length ∧ xs.length ≤ 4 ∧ b ≤ 15 ∧ (∀ w ∈ l, w.natAbs < 2 ^ 200) ∧ (∀ x ∈ xs, x.natAbs < 2 ^ 150) ∧ t.natAbs < 2 ^ 380 ∧ ∀ H' p, Same H H' → H p = none → H' p = some (.tup [.int (lowF (t * 2 ^ b - dotP l xs) (2 ^ b)).1, .int (lowF (t * 2 ^ b - dotP l xs) (2 ^ b)).2]) → Q (.ref p) H'
def sp_law_fraction_right : Sp := fun vs H Q _ => ∃ (t : Addr) (x u : Int), vs = [.ref t] ∧ H t = some (.tup [.int (lowF x u).1, .int (lowF x u).2]) ∧ 0 < u ∧ u < 2 ^ 1000 ∧ ∀ H', Same H H' → Q (.bl true) H'
theorem FrRow.get {H0 H : Hp} {a : Addr} {ps : List (Int × Int)} (h : FrRow H0 H a ps) : ∃ ts : List Addr, H a = some (.lst (ts.map V.ref)) ∧ ts.length = ps.length ∧ ∀ (i : Nat) (t : Addr), ts[i]? = some t → ∃ p, ps[i]? = some p ∧ H t = some (.tup [.int p.1, .int p.2]) := by
  obtain ⟨n, ts, h1, h2, h3⟩ := h
  refine ⟨ts, h1, h2, fun i t ht => ?_⟩
  have hi := (List.getElem?_eq_some_iff.mp ht).1
  have e : ps[i]? = some (ps[i]'(by omega)) := List.getElem?_eq_getElem (by omega)
  exact ⟨_, e, h3 i t _ ht e⟩
def sp_law_lines_right (K : PySem.W.Frag) : Sp := fun vs H Q _ => ∃ (H0 H1 : Hp) (a b : Addr) (M : List (List Int)) (m n : Nat), vs = [.ref a, .ref b, .int n] ∧ FrMat H0 H a (frM m M) ∧ FrMat H1 H b (frM m M) ∧ Sq n M ∧ n ≤ 4 ∧ m ≤ 15 ∧ ∀ H', Same H H' → Q (.bl true) H'
end
end My

namespace My
open PySem PySem.Spec PyProof.Rows L2 Pre
/-- what draws let stand: rows and matrices of pairs made after the purse -/
theorem FrRow.but {H0 H H' : Hp} {a g : Addr} {ps : List (Int × Int)} {n : Nat} (h : FrRow H0 H a ps) (g0 : ∃ xs, H0 g = some (.lst xs)) (hG : GenAt H g n) (b : But g H H') : FrRow H0 H' a ps := by
  obtain ⟨x, y, z, e, _⟩ := hG
  exact h.off ⟨_, e⟩ (fun w => by obtain ⟨xs, k⟩ := g0; have := h.1; rw [w, k] at this; cases this) b
theorem FrMat.but {H0 H H' : Hp} {D g : Addr} {M : List (List (Int × Int))} {n : Nat} (h : FrMat H0 H D M) (g0 : ∃ xs, H0 g = some (.lst xs)) (hG : GenAt H g n) (b : But g H H') : FrMat H0 H' D M := by
  obtain ⟨nD, as, h1, h2, h3⟩ := h
  have ng : ∀ {a}, H0 a = none → a ≠ g := fun {a} n w => by obtain ⟨xs, k⟩ := g0; rw [w, k] at n; cases n
  exact ⟨nD, as, b _ _ (ng nD) h1, h2, fun i a r ha hr => ⟨(h3 i a r ha hr).1.but g0 hG b, (h3 i a r ha hr).2⟩⟩
theorem MixAt.but {C : Addr} {H H' : Hp} {a r g : Addr} {n m : Nat} {ss : List Step} (h : MixAt C H a r n ss) (hG : GenAt H g m) (nr : r ≠ g) (b : But g H H') : MixAt C H' a r n ss := by
  obtain ⟨x, y, z, e, _⟩ := hG
  exact h.lk (M := fun b => b = g) (fun c o nc e => b c o nc e) (fun c w => by rw [w]; exact ⟨_, e⟩) nr
/-- sums far off are mixed to what the matrix makes of the multiples -/
theorem far_led {n : Nat} {ss : List Step} (ok : ∀ s ∈ ss, s.ok n) {i : Nat} {u y : List Int} (hu : u.length = n) (hy : y.length = n) (hi : i < n) : (playF ss (addM u (2 ^ bitsS ss) y)).getD i 0 - (playF ss u).getD i 0 = dotP ((numF n ss).getD i []) y := by
  have l := num_len ok
  rw [play_far ok (Nat.le_refl _) hu hy, Nat.sub_self, Int.pow_zero, addM_getD (by rw [play_len, mulV_len, l.1, hu]), mul_getD]
  omega
theorem dot_scale (k : Int) : ∀ ws xs : List Int, dotP ws (xs.map fun x => k * x) = k * dotP ws xs
  | [], xs => by cases xs <;> simp [dotP]
  | _ :: _, [] => by simp [dotP]
  | w :: ws, x :: xs => by
    show w * (k * x) + dotP ws (xs.map fun x => k * x) = k * (w * x + dotP ws xs)
    rw [dot_scale k ws xs, Int.mul_add]
    congr 1
    ac_rfl
theorem low_whole (x : Int) (b : Nat) : lowF (2 ^ b * x) (2 ^ b) = (x, 1) := by
  have := lowF_scale x 1 (p2_pos b)
  rw [Int.one_mul, lowF_one, Int.mul_comm x] at this
  exact this
theorem div_out {k : Int} {B : Nat} : ∀ ms : List Int, (∀ x ∈ ms, ∃ y : Int, x = k * y ∧ y.natAbs < B) → ∃ ys : List Int, ms = (ys.map fun x => k * x) ∧ ∀ y ∈ ys, y.natAbs < B
  | [], _ => ⟨[], rfl, fun y h => nomatch h⟩
  | m :: ms, h => by
    obtain ⟨ys, e, hb⟩ := div_out ms fun x hx => h x (List.mem_cons_of_mem _ hx)
    obtain ⟨y, rfl, hy⟩ := h m List.mem_cons_self
    refine ⟨y :: ys, by rw [List.map_cons, ← e], fun z hz => ?_⟩
    rcases List.mem_cons.mp hz with rfl | hz
    · exact hy
    · exact hb z hz
theorem num_row_bd {n : Nat} (hn : n ≤ 4) {ss : List Step} (ok : ∀ s ∈ ss, s.ok n) (hl : ss.length ≤ 6) {i : Nat} (hi : i < n) : ∀ w ∈ (numF n ss).getD i [], w.natAbs < 2 ^ 200 := fun w hw => by
  have := num_bd hn ok (unit_sq n) (unit_bd n) _ (getD_mem (show i < (numF n ss).length by rw [(num_len ok).1]; exact hi)) w hw
  exact Nat.lt_of_lt_of_le this (Nat.pow_le_pow_right (by decide) (by omega))
theorem num_row_len {n : Nat} {ss : List Step} (ok : ∀ s ∈ ss, s.ok n) {i : Nat} (hi : i < n) : ((numF n ss).getD i []).length = n := (num_len ok).2 _ (getD_mem (by rw [(num_len ok).1]; exact hi))
local macro_rules | `(tactic| walk_at "go") => `(tactic| repeat (first | (with_reducible first | refine iteT ?_ | refine iteF ?_ | refine iteNtt ?_ | refine iteNff ?_ | refine iteET (by omega) ?_ | refine iteEF (by omega) ?_ | refine iteENT (by omega) ?_ | refine iteENF (by omega) ?_ | refine iteDT (by omega) ?_ | refine iteDF (by omega) ?_ | refine iteNT (by omega) ?_ | refine iteNF (by omega) ?_) | refine ⟨_, rfl, ?_⟩ | refine ⟨_, _, rfl, rfl, ?_⟩ | refine ⟨_, _, rfl, ?_⟩ | refine ⟨rfl, ?_⟩ | refine .inl ⟨_, rfl, ?_⟩ | refine .inr ⟨_, rfl, ?_⟩))
local macro_rules | `(tactic| walk_at "b") => `(tactic| try dsimp (config := { proj := false, iota := false, eta := false, zeta := false }) only)
section
variable {P : Program} {w : World} {K : PySem.W.Frag} {mg : Str → Option Value} {base : Heap}
def sp_law_far_right (C : Addr) (K : PySem.W.Frag) : Sp := fun vs H Q _ => ∃ (H0 : Hp) (g a r p D : Addr) (N n : Nat) (ss : List Step), vs = [.ref g, .ref a, .ref p, .ref D, .int n] ∧ GenAt H g N ∧ N ≤ 10 ^ 9 ∧ MixAt C H a r n ss ∧ r ≠ g ∧ StepsAt (fun l => l ≠ g) H p ss ∧ p ≠ g ∧ FrMat H0 H D (frM (bitsS ss) (numF n ss)) ∧ (∃ xs, H0 g = some (.lst xs)) ∧ (∀ s ∈ ss, s.ok n) ∧ 1 ≤ n ∧ n ≤ 4 ∧ ss.length ≤ 6 ∧ bitsS ss ≤ 15 ∧ ∀ H', But g H H' → GenAt H' g (N + 10000) → Q (.bl true) H'
end
end My

namespace My
open PySem PySem.Spec PyProof.Rows L2 Pre
/-! ### the ends of what comes out within boxes -/
def lowG (s : List (Int × Int)) (line : List Int) : List Int := List.zipWith (fun z c => if c < 0 then z.2 else z.1) s line
def highG (s : List (Int × Int)) (line : List Int) : List Int := List.zipWith (fun z c => if 0 ≤ c then z.2 else z.1) s line
def InB (bs : List (Int × Int)) (x : List Int) : Prop := x.length = bs.length ∧ ∀ k, k < bs.length → (bs.getD k (0, 0)).1 ≤ x.getD k 0 ∧ x.getD k 0 ≤ (bs.getD k (0, 0)).2
def outF (ss : List Step) (i : Nat) (x : List Int) : Int := (playF ss x).getD i 0
/-- lists within boxes that have the least and the greatest of what comes out -/
def EndB (bs : List (Int × Int)) (f : List Int → Int) (lo hi : List Int) : Prop := InB bs lo ∧ InB bs hi ∧ ∀ x, InB bs x → f lo ≤ f x ∧ f x ≤ f hi
theorem zipW_getD {α β γ : Type} {f : α → β → γ} {xs : List α} {ys : List β} {a : α} {b : β} {c : γ} {k : Nat} (h1 : k < xs.length) (h2 : k < ys.length) : (List.zipWith f xs ys).getD k c = f (xs.getD k a) (ys.getD k b) := by
  rw [getD_lt (l := List.zipWith f xs ys) (by rw [List.length_zipWith]; omega), List.getElem_zipWith, getD_lt h1, getD_lt h2]
theorem fst_of {m x : Int} {z : Int × Int} (hm : 0 < m) : fstG m z (x % m) = x - m * ((x - z.1) / m) := by
  unfold fstG
  have e : (x % m - z.1) % m = (x - z.1) % m := by rw [Int.sub_emod, Int.emod_emod, ← Int.sub_emod]
  rw [e]
  have := Int.emod_add_mul_ediv (x - z.1) m
  omega
theorem lst_of {m x : Int} {z : Int × Int} (hm : 0 < m) : lstG m z (x % m) = x + m * ((z.2 - x) / m) := by
  unfold lstG
  have e : (z.2 - x % m) % m = (z.2 - x) % m := by rw [Int.sub_emod, Int.emod_emod, ← Int.sub_emod]
  rw [e]
  have := Int.emod_add_mul_ediv (z.2 - x) m
  omega
theorem fst_ge {m r : Int} {z : Int × Int} (hm : 0 < m) : z.1 ≤ fstG m z r := by
  have := Int.emod_nonneg (r - z.1) (Int.ne_of_gt hm)
  unfold fstG
  omega
theorem lst_le {m r : Int} {z : Int × Int} (hm : 0 < m) : lstG m z r ≤ z.2 := by
  have := Int.emod_nonneg (z.2 - r) (Int.ne_of_gt hm)
  unfold lstG
  omega
theorem dot_nonneg : ∀ ws xs : List Int, (∀ k, 0 ≤ ws.getD k 0 * xs.getD k 0) → 0 ≤ dotP ws xs
  | [], xs, _ => by cases xs <;> exact Int.le_refl _
  | _ :: _, [], _ => Int.le_refl _
  | w :: ws, x :: xs, h => by
    have a := h 0
    have b := dot_nonneg ws xs fun k => h (k + 1)
    show 0 ≤ w * x + dotP ws xs
    have a' : 0 ≤ w * x := a
    omega
theorem dot_neg_r (ws xs : List Int) : dotP ws (xs.map fun x => -1 * x) = -dotP ws xs := by
  rw [dot_scale]
  omega
section
variable {m : Int} {bs : List (Int × Int)} {x line : List Int}
theorem spanG_len (h : x.length = bs.length) : (spanG m bs (x.map fun v => v % m)).length = bs.length := by
  unfold spanG
  rw [List.length_zipWith, List.length_map, h, Nat.min_self]
theorem spanG_getD {rs : List Int} (h : rs.length = bs.length) {k : Nat} (hk : k < bs.length) : (spanG m bs rs).getD k (0, 0) = (fstG m (bs.getD k (0, 0)) (rs.getD k 0), lstG m (bs.getD k (0, 0)) (rs.getD k 0)) := zipW_getD hk (by omega)
theorem let_of {s : List (Int × Int)} (h : ∀ k, k < s.length → (s.getD k (0, 0)).1 ≤ (s.getD k (0, 0)).2) : letG s = true := List.all_eq_true.mpr fun z hz => by
  obtain ⟨k, hk, rfl⟩ := List.mem_iff_getElem.mp hz
  have := h k hk
  rw [getD_lt hk] at this
  exact decide_eq_true this
theorem let_at {s : List (Int × Int)} (h : letG s = true) {k : Nat} (hk : k < s.length) : (s.getD k (0, 0)).1 ≤ (s.getD k (0, 0)).2 := by
  rw [getD_lt hk]
  exact of_decide_eq_true (List.all_eq_true.mp h _ (List.getElem_mem hk))
/-- a list within boxes lies in spans -/
theorem span_let (hm : 0 < m) (h : InB bs x) : letG (spanG m bs (x.map fun v => v % m)) = true := by
  have l := spanG_len (m := m) h.1
  refine let_of fun k hk => ?_
  rw [l] at hk
  rw [spanG_getD (by rw [List.length_map]; exact h.1) hk, map_getD (by rw [h.1]; exact hk)]
  dsimp only
  rw [fst_of hm, lst_of hm]
  obtain ⟨a, b⟩ := h.2 k hk
  have p := Int.mul_nonneg (Int.le_of_lt hm) (Int.ediv_nonneg (show 0 ≤ x.getD k 0 - (bs.getD k (0, 0)).1 by omega) (Int.le_of_lt hm))
  have q := Int.mul_nonneg (Int.le_of_lt hm) (Int.ediv_nonneg (show 0 ≤ (bs.getD k (0, 0)).2 - x.getD k 0 by omega) (Int.le_of_lt hm))
  omega
theorem low_in (hm : 0 < m) {rs : List Int} (hr : rs.length = bs.length) (hl : line.length = bs.length) (h : letG (spanG m bs rs) = true) : InB bs (lowG (spanG m bs rs) line) ∧ InB bs (highG (spanG m bs rs) line) := by
  have l : (spanG m bs rs).length = bs.length := by
    unfold spanG
    rw [List.length_zipWith, hr, Nat.min_self]
  refine ⟨⟨by unfold lowG; rw [List.length_zipWith, l, hl, Nat.min_self], fun k hk => ?_⟩, ⟨by unfold highG; rw [List.length_zipWith, l, hl, Nat.min_self], fun k hk => ?_⟩⟩
  · have c := let_at h (k := k) (by omega)
    unfold lowG
    rw [zipW_getD (a := (0, 0)) (b := 0) (by omega) (by omega)]
    rw [spanG_getD hr hk] at c ⊢
    have a := fst_ge (r := rs.getD k 0) (z := bs.getD k (0, 0)) hm
    have b := lst_le (r := rs.getD k 0) (z := bs.getD k (0, 0)) hm
    dsimp only at c ⊢
    split <;> omega
  · have c := let_at h (k := k) (by omega)
    unfold highG
    rw [zipW_getD (a := (0, 0)) (b := 0) (by omega) (by omega)]
    rw [spanG_getD hr hk] at c ⊢
    have a := fst_ge (r := rs.getD k 0) (z := bs.getD k (0, 0)) hm
    have b := lst_le (r := rs.getD k 0) (z := bs.getD k (0, 0)) hm
    dsimp only at c ⊢
    split <;> omega
/-- how far a list within lies from the ends of its spans, in steps of the power -/
theorem low_split (hm : 0 < m) (h : InB bs x) (hl : line.length = bs.length) : ∃ y : List Int, y.length = x.length ∧ x = addM (lowG (spanG m bs (x.map fun v => v % m)) line) m y ∧ ∀ k, 0 ≤ line.getD k 0 * y.getD k 0 := by
  have l := spanG_len (m := m) h.1
  have ll : (lowG (spanG m bs (x.map fun v => v % m)) line).length = x.length := by unfold lowG; rw [List.length_zipWith, l, hl, Nat.min_self, h.1]
  let F : Nat → Int := fun k => if line.getD k 0 < 0 then -(((bs.getD k (0, 0)).2 - x.getD k 0) / m) else (x.getD k 0 - (bs.getD k (0, 0)).1) / m
  have yl : ((List.range x.length).map F).length = x.length := by rw [List.length_map, List.length_range]
  have yk : ∀ k, k < x.length → ((List.range x.length).map F).getD k 0 = F k := fun k hk => by
    rw [List.getD_eq_getElem?_getD, List.getElem?_map, List.getElem?_range hk]
    rfl
  refine ⟨(List.range x.length).map F, yl, ext_getD (by rw [addM_len (by rw [ll, yl]), ll]) fun k hk => ?_, fun k => ?_⟩
  · have hkb : k < bs.length := by rw [← h.1]; exact hk
    rw [addM_getD (by rw [ll, yl]), yk k hk]
    unfold lowG
    rw [zipW_getD (a := (0, 0)) (b := 0) (by omega) (by omega), spanG_getD (by rw [List.length_map]; exact h.1) hkb, map_getD hk]
    dsimp only
    rw [fst_of hm, lst_of hm]
    show x.getD k 0 = _ + m * (if line.getD k 0 < 0 then -(((bs.getD k (0, 0)).2 - x.getD k 0) / m) else (x.getD k 0 - (bs.getD k (0, 0)).1) / m)
    split
    · rw [Int.mul_neg]; omega
    · omega
  · by_cases hk : k < x.length
    · have hkb : k < bs.length := by rw [← h.1]; exact hk
      rw [yk k hk]
      obtain ⟨a, b⟩ := h.2 k hkb
      show 0 ≤ line.getD k 0 * (if line.getD k 0 < 0 then -(((bs.getD k (0, 0)).2 - x.getD k 0) / m) else (x.getD k 0 - (bs.getD k (0, 0)).1) / m)
      split
      · have q := Int.ediv_nonneg (show 0 ≤ (bs.getD k (0, 0)).2 - x.getD k 0 by omega) (Int.le_of_lt hm)
        rw [Int.mul_neg, ← Int.neg_mul]
        exact Int.mul_nonneg (by omega) q
      · exact Int.mul_nonneg (by omega) (Int.ediv_nonneg (by omega) (Int.le_of_lt hm))
    · rw [getD_ge (l := (List.range x.length).map F) (by omega), Int.mul_zero]
      exact Int.le_refl _
theorem high_split (hm : 0 < m) (h : InB bs x) (hl : line.length = bs.length) : ∃ y : List Int, y.length = x.length ∧ x = addM (highG (spanG m bs (x.map fun v => v % m)) line) m y ∧ ∀ k, 0 ≤ line.getD k 0 * (-1 * y.getD k 0) := by
  have l := spanG_len (m := m) h.1
  have ll : (highG (spanG m bs (x.map fun v => v % m)) line).length = x.length := by unfold highG; rw [List.length_zipWith, l, hl, Nat.min_self, h.1]
  let F : Nat → Int := fun k => if 0 ≤ line.getD k 0 then -(((bs.getD k (0, 0)).2 - x.getD k 0) / m) else (x.getD k 0 - (bs.getD k (0, 0)).1) / m
  have yl : ((List.range x.length).map F).length = x.length := by rw [List.length_map, List.length_range]
  have yk : ∀ k, k < x.length → ((List.range x.length).map F).getD k 0 = F k := fun k hk => by
    rw [List.getD_eq_getElem?_getD, List.getElem?_map, List.getElem?_range hk]
    rfl
  refine ⟨(List.range x.length).map F, yl, ext_getD (by rw [addM_len (by rw [ll, yl]), ll]) fun k hk => ?_, fun k => ?_⟩
  · have hkb : k < bs.length := by rw [← h.1]; exact hk
    rw [addM_getD (by rw [ll, yl]), yk k hk]
    unfold highG
    rw [zipW_getD (a := (0, 0)) (b := 0) (by omega) (by omega), spanG_getD (by rw [List.length_map]; exact h.1) hkb, map_getD hk]
    dsimp only
    rw [fst_of hm, lst_of hm]
    show x.getD k 0 = _ + m * (if 0 ≤ line.getD k 0 then -(((bs.getD k (0, 0)).2 - x.getD k 0) / m) else (x.getD k 0 - (bs.getD k (0, 0)).1) / m)
    split
    · rw [Int.mul_neg]; omega
    · omega
  · by_cases hk : k < x.length
    · have hkb : k < bs.length := by rw [← h.1]; exact hk
      rw [yk k hk]
      obtain ⟨a, b⟩ := h.2 k hkb
      show 0 ≤ line.getD k 0 * (-1 * (if 0 ≤ line.getD k 0 then -(((bs.getD k (0, 0)).2 - x.getD k 0) / m) else (x.getD k 0 - (bs.getD k (0, 0)).1) / m))
      split
      · have q := Int.ediv_nonneg (show 0 ≤ (bs.getD k (0, 0)).2 - x.getD k 0 by omega) (Int.le_of_lt hm)
        rw [show ∀ t : Int, -1 * -t = t from fun t => by omega]
        exact Int.mul_nonneg (by omega) q
      · have q := Int.ediv_nonneg (show 0 ≤ x.getD k 0 - (bs.getD k (0, 0)).1 by omega) (Int.le_of_lt hm)
        rw [show ∀ t s : Int, t * (-1 * s) = -t * s from fun t s => by rw [Int.neg_mul, Int.neg_mul, Int.one_mul, Int.mul_neg]]
        exact Int.mul_nonneg (by omega) q
    · rw [getD_ge (l := (List.range x.length).map F) (by omega), Int.mul_zero, Int.mul_zero]
      exact Int.le_refl _
end
/-- the ends of the spans have the least and the greatest -/
theorem span_ends {n : Nat} {ss : List Step} (ok : ∀ s ∈ ss, s.ok n) {i : Nat} (hi : i < n) {bs : List (Int × Int)} (hb : bs.length = n) {x : List Int} (h : InB bs x) :
    outF ss i (lowG (spanG (2 ^ bitsS ss) bs (x.map fun v => v % 2 ^ bitsS ss)) ((numF n ss).getD i [])) ≤ outF ss i x ∧ outF ss i x ≤ outF ss i (highG (spanG (2 ^ bitsS ss) bs (x.map fun v => v % 2 ^ bitsS ss)) ((numF n ss).getD i [])) := by
  have hm := p2_pos (bitsS ss)
  have ln := num_row_len ok hi
  have hx : x.length = n := by rw [h.1, hb]
  have hl := span_let hm h
  obtain ⟨i1, i2⟩ := low_in (line := (numF n ss).getD i []) hm (rs := x.map fun v => v % 2 ^ bitsS ss) (by rw [List.length_map]; exact h.1) (by rw [ln, hb]) hl
  constructor
  · obtain ⟨y, yl, ex, hy⟩ := low_split hm h (line := (numF n ss).getD i []) (by rw [ln, hb])
    have e := far_led ok (i := i) (u := lowG (spanG (2 ^ bitsS ss) bs (x.map fun v => v % 2 ^ bitsS ss)) ((numF n ss).getD i [])) (y := y) (by rw [i1.1, hb]) (by rw [yl, hx]) hi
    rw [← ex] at e
    have := dot_nonneg _ _ hy
    unfold outF
    omega
  · obtain ⟨y, yl, ex, hy⟩ := high_split hm h (line := (numF n ss).getD i []) (by rw [ln, hb])
    have e := far_led ok (i := i) (u := highG (spanG (2 ^ bitsS ss) bs (x.map fun v => v % 2 ^ bitsS ss)) ((numF n ss).getD i [])) (y := y) (by rw [i2.1, hb]) (by rw [yl, hx]) hi
    rw [← ex] at e
    have z : 0 ≤ dotP ((numF n ss).getD i []) (y.map fun v => -1 * v) := dot_nonneg _ _ fun k => by
      by_cases hk : k < y.length
      · rw [map_getD hk]
        exact hy k
      · rw [getD_ge (l := y.map fun v => -1 * v) (by rw [List.length_map]; omega), Int.mul_zero]
        exact Int.le_refl _
    rw [dot_neg_r] at z
    unfold outF
    omega
end My

namespace My
open PySem PySem.Spec PyProof.Rows L2 Pre
/-! ### boxes moved, and boxes grown, by multiples of the power -/
def negW (ws : List Int) : List Int := ws.map fun w => if w < 0 then w else 0
def posW (ws : List Int) : List Int := ws.map fun w => if w < 0 then 0 else w
def lowY (ws ys : List Int) : List Int := List.zipWith (fun w y => if w < 0 then y else 0) ws ys
def highY (ws ys : List Int) : List Int := List.zipWith (fun w y => if w < 0 then 0 else y) ws ys
def movedB (m : Int) (bs : List (Int × Int)) (ys : List Int) : List (Int × Int) := List.zipWith (fun z y => (z.1 + m * y, z.2 + m * y)) bs ys
def grownB (m : Int) (bs : List (Int × Int)) (ys : List Int) : List (Int × Int) := List.zipWith (fun z y => (z.1, z.2 + m * y)) bs ys
theorem movedB_getD {m : Int} {bs : List (Int × Int)} {ys : List Int} (h : ys.length = bs.length) {k : Nat} (hk : k < bs.length) : (movedB m bs ys).getD k (0, 0) = ((bs.getD k (0, 0)).1 + m * ys.getD k 0, (bs.getD k (0, 0)).2 + m * ys.getD k 0) := zipW_getD hk (by omega)
theorem grownB_getD {m : Int} {bs : List (Int × Int)} {ys : List Int} (h : ys.length = bs.length) {k : Nat} (hk : k < bs.length) : (grownB m bs ys).getD k (0, 0) = ((bs.getD k (0, 0)).1, (bs.getD k (0, 0)).2 + m * ys.getD k 0) := zipW_getD hk (by omega)
theorem movedB_len {m : Int} {bs : List (Int × Int)} {ys : List Int} (h : ys.length = bs.length) : (movedB m bs ys).length = bs.length := by
  unfold movedB
  rw [List.length_zipWith, h, Nat.min_self]
theorem grownB_len {m : Int} {bs : List (Int × Int)} {ys : List Int} (h : ys.length = bs.length) : (grownB m bs ys).length = bs.length := by
  unfold grownB
  rw [List.length_zipWith, h, Nat.min_self]
theorem dot_le : ∀ (n : Nat) (ws xs us ys : List Int), ws.length = n → xs.length = n → us.length = n → ys.length = n → (∀ k, k < n → ws.getD k 0 * xs.getD k 0 ≤ us.getD k 0 * ys.getD k 0) → dotP ws xs ≤ dotP us ys
  | 0, ws, xs, us, ys, h1, h2, h3, h4, _ => by
    rw [List.length_eq_zero_iff.mp h1, List.length_eq_zero_iff.mp h2, List.length_eq_zero_iff.mp h3, List.length_eq_zero_iff.mp h4]
    exact Int.le_refl _
  | n + 1, w :: ws, x :: xs, u :: us, y :: ys, h1, h2, h3, h4, h => by
    have a : w * x ≤ u * y := h 0 (Nat.succ_pos n)
    have b := dot_le n ws xs us ys (by simpa using h1) (by simpa using h2) (by simpa using h3) (by simpa using h4) fun k hk => h (k + 1) (by omega)
    show w * x + dotP ws xs ≤ u * y + dotP us ys
    omega
theorem dot_lowY : ∀ ws ys : List Int, dotP ws (lowY ws ys) = dotP (negW ws) ys
  | [], ys => by cases ys <;> rfl
  | _ :: _, [] => rfl
  | w :: ws, y :: ys => by
    show w * (if w < 0 then y else 0) + dotP ws (lowY ws ys) = (if w < 0 then w else 0) * y + dotP (negW ws) ys
    rw [dot_lowY ws ys]
    split <;> simp
theorem dot_highY : ∀ ws ys : List Int, dotP ws (highY ws ys) = dotP (posW ws) ys
  | [], ys => by cases ys <;> rfl
  | _ :: _, [] => rfl
  | w :: ws, y :: ys => by
    show w * (if w < 0 then 0 else y) + dotP ws (highY ws ys) = (if w < 0 then 0 else w) * y + dotP (posW ws) ys
    rw [dot_highY ws ys]
    split <;> simp
theorem out_far {n : Nat} {ss : List Step} (ok : ∀ s ∈ ss, s.ok n) {i : Nat} {u y : List Int} (hu : u.length = n) (hy : y.length = n) (hi : i < n) : outF ss i (addM u (2 ^ bitsS ss) y) = outF ss i u + dotP ((numF n ss).getD i []) y := by
  have := far_led ok hu hy hi
  unfold outF
  omega
theorem addM_back {m : Int} {x ys : List Int} (h : ys.length = x.length) : addM (addM x m (ys.map fun y => -1 * y)) m ys = x := by
  have l1 : x.length = (ys.map fun y => -1 * y).length := by rw [List.length_map, h]
  have l2 : (addM x m (ys.map fun y => -1 * y)).length = ys.length := by rw [addM_len l1, h]
  refine ext_getD (by rw [addM_len l2, addM_len l1]) fun k hk => ?_
  rw [addM_len l2, addM_len l1] at hk
  rw [addM_getD l2, addM_getD l1, map_getD (by omega), ← Int.mul_assoc, Int.mul_comm m (-1), Int.mul_assoc]
  omega
theorem moved_in {m : Int} {bs : List (Int × Int)} {x ys : List Int} (hy : ys.length = bs.length) (h : InB bs x) : InB (movedB m bs ys) (addM x m ys) := by
  have l : x.length = ys.length := by rw [h.1, hy]
  refine ⟨by rw [addM_len l, movedB_len hy, h.1], fun k hk => ?_⟩
  rw [movedB_len hy] at hk
  have := h.2 k hk
  rw [movedB_getD hy hk, addM_getD l]
  dsimp only
  omega
theorem moved_out {m : Int} {bs : List (Int × Int)} {x ys : List Int} (hy : ys.length = bs.length) (h : InB (movedB m bs ys) x) : InB bs (addM x m (ys.map fun y => -1 * y)) := by
  have lx : x.length = bs.length := by rw [h.1, movedB_len hy]
  have l : x.length = (ys.map fun y => -1 * y).length := by rw [List.length_map, lx, hy]
  refine ⟨by rw [addM_len l, lx], fun k hk => ?_⟩
  have := h.2 k (by rw [movedB_len hy]; exact hk)
  rw [movedB_getD hy hk] at this
  rw [addM_getD l, map_getD (by omega), ← Int.mul_assoc, Int.mul_comm m (-1), Int.mul_assoc]
  dsimp only at this
  omega
section
variable {n : Nat} {ss : List Step} {i : Nat} {bs : List (Int × Int)} {ys c d : List Int}
theorem moved_ends (ok : ∀ s ∈ ss, s.ok n) (hi : i < n) (hb : bs.length = n) (hy : ys.length = n) (h : EndB bs (outF ss i) c d) : EndB (movedB (2 ^ bitsS ss) bs ys) (outF ss i) (addM c (2 ^ bitsS ss) ys) (addM d (2 ^ bitsS ss) ys) ∧ outF ss i (addM c (2 ^ bitsS ss) ys) = outF ss i c + dotP ((numF n ss).getD i []) ys ∧ outF ss i (addM d (2 ^ bitsS ss) ys) = outF ss i d + dotP ((numF n ss).getD i []) ys := by
  obtain ⟨h1, h2, h3⟩ := h
  have hyb : ys.length = bs.length := by rw [hy, hb]
  have ec := out_far ok (i := i) (u := c) (y := ys) (by rw [h1.1, hb]) hy hi
  have ed := out_far ok (i := i) (u := d) (y := ys) (by rw [h2.1, hb]) hy hi
  refine ⟨⟨moved_in hyb h1, moved_in hyb h2, fun x hx => ?_⟩, ec, ed⟩
  have hx' := moved_out hyb hx
  have lx : x.length = n := by rw [hx.1, movedB_len hyb, hb]
  have e := out_far ok (i := i) (u := addM x (2 ^ bitsS ss) (ys.map fun y => -1 * y)) (y := ys) (by rw [hx'.1, hb]) hy hi
  rw [addM_back (by rw [hy, lx])] at e
  have := h3 _ hx'
  omega
theorem grown_split {m : Int} (hm : 0 < m) {x : List Int} (hw : ∀ z ∈ bs, z.2 = z.1 + m - 1) (hy : ys.length = bs.length) (h : InB (grownB m bs ys) x) : ∃ u z : List Int, InB bs u ∧ z.length = bs.length ∧ x = addM u m z ∧ ∀ k, k < bs.length → 0 ≤ z.getD k 0 ∧ z.getD k 0 ≤ ys.getD k 0 := by
  have lx : x.length = bs.length := by rw [h.1, grownB_len hy]
  have lu : (List.zipWith (fun (z : Int × Int) v => z.1 + (v - z.1) % m) bs x).length = bs.length := by rw [List.length_zipWith, lx, Nat.min_self]
  have lz : (List.zipWith (fun (z : Int × Int) v => (v - z.1) / m) bs x).length = bs.length := by rw [List.length_zipWith, lx, Nat.min_self]
  have gu : ∀ k, k < bs.length → (List.zipWith (fun (z : Int × Int) v => z.1 + (v - z.1) % m) bs x).getD k 0 = (bs.getD k (0, 0)).1 + (x.getD k 0 - (bs.getD k (0, 0)).1) % m := fun k hk => zipW_getD hk (by omega)
  have gz : ∀ k, k < bs.length → (List.zipWith (fun (z : Int × Int) v => (v - z.1) / m) bs x).getD k 0 = (x.getD k 0 - (bs.getD k (0, 0)).1) / m := fun k hk => zipW_getD hk (by omega)
  have wb : ∀ k, k < bs.length → (bs.getD k (0, 0)).2 = (bs.getD k (0, 0)).1 + m - 1 := fun k hk => by
    rw [getD_lt hk]
    exact hw _ (List.getElem_mem hk)
  refine ⟨_, _, ⟨lu, fun k hk => ?_⟩, lz, ?_, fun k hk => ?_⟩
  · rw [gu k hk, wb k hk]
    have := Int.emod_nonneg (x.getD k 0 - (bs.getD k (0, 0)).1) (Int.ne_of_gt hm)
    have := Int.emod_lt_of_pos (x.getD k 0 - (bs.getD k (0, 0)).1) hm
    omega
  · refine ext_getD (by rw [addM_len (by rw [lu, lz]), lu, lx]) fun k hk => ?_
    rw [lx] at hk
    rw [addM_getD (by rw [lu, lz]), gu k hk, gz k hk]
    have := Int.emod_add_mul_ediv (x.getD k 0 - (bs.getD k (0, 0)).1) m
    omega
  · rw [gz k hk]
    have b := h.2 k (by rw [grownB_len hy]; exact hk)
    rw [grownB_getD hy hk, wb k hk] at b
    dsimp only at b
    refine ⟨Int.ediv_nonneg (by omega) (Int.le_of_lt hm), ?_⟩
    have := Int.ediv_lt_of_lt_mul hm (show x.getD k 0 - (bs.getD k (0, 0)).1 < (ys.getD k 0 + 1) * m by rw [Int.add_mul, Int.one_mul, Int.mul_comm (ys.getD k 0)]; omega)
    omega
theorem getD_neg {ws : List Int} {k : Nat} : (negW ws).getD k 0 = if ws.getD k 0 < 0 then ws.getD k 0 else 0 := by
  by_cases h : k < ws.length
  · exact map_getD h
  · rw [getD_ge (by unfold negW; rw [List.length_map]; omega), getD_ge (by omega)]
    rfl
theorem getD_pos {ws : List Int} {k : Nat} : (posW ws).getD k 0 = if ws.getD k 0 < 0 then 0 else ws.getD k 0 := by
  by_cases h : k < ws.length
  · exact map_getD h
  · rw [getD_ge (by unfold posW; rw [List.length_map]; omega), getD_ge (by omega)]
    rfl
theorem grown_in {m : Int} (hm : 0 < m) {x v : List Int} (hy : ys.length = bs.length) (h : InB bs x) (hv : v.length = bs.length) (hk : ∀ k, k < bs.length → 0 ≤ v.getD k 0 ∧ v.getD k 0 ≤ ys.getD k 0) : InB (grownB m bs ys) (addM x m v) := by
  have l : x.length = v.length := by rw [h.1, hv]
  refine ⟨by rw [addM_len l, grownB_len hy, h.1], fun k hk' => ?_⟩
  rw [grownB_len hy] at hk'
  have := h.2 k hk'
  obtain ⟨a, b⟩ := hk k hk'
  rw [grownB_getD hy hk', addM_getD l]
  dsimp only
  have p := Int.mul_nonneg (Int.le_of_lt hm) a
  have q := Int.mul_le_mul_of_nonneg_left b (Int.le_of_lt hm)
  omega
theorem grown_ends (ok : ∀ s ∈ ss, s.ok n) (hi : i < n) (hb : bs.length = n) (hw : ∀ z ∈ bs, z.2 = z.1 + 2 ^ bitsS ss - 1) (hy : ys.length = n) (hy0 : ∀ y ∈ ys, 0 ≤ y) (h : EndB bs (outF ss i) c d) : ∃ c' d', EndB (grownB (2 ^ bitsS ss) bs ys) (outF ss i) c' d' ∧ outF ss i c' = outF ss i c + dotP (negW ((numF n ss).getD i [])) ys ∧ outF ss i d' = outF ss i d + dotP (posW ((numF n ss).getD i [])) ys := by
  obtain ⟨h1, h2, h3⟩ := h
  have hm := p2_pos (bitsS ss)
  have ln := num_row_len ok hi
  have hyb : ys.length = bs.length := by rw [hy, hb]
  have y0 : ∀ k, 0 ≤ ys.getD k 0 := fun k => by
    by_cases hk : k < ys.length
    · rw [getD_lt hk]
      exact hy0 _ (List.getElem_mem hk)
    · rw [getD_ge (by omega)]
      exact Int.le_refl _
  have l1 : (lowY ((numF n ss).getD i []) ys).length = n := by unfold lowY; rw [List.length_zipWith, ln, hy, Nat.min_self]
  have l2 : (highY ((numF n ss).getD i []) ys).length = n := by unfold highY; rw [List.length_zipWith, ln, hy, Nat.min_self]
  have ec := out_far ok (i := i) (u := c) (y := lowY ((numF n ss).getD i []) ys) (by rw [h1.1, hb]) l1 hi
  have ed := out_far ok (i := i) (u := d) (y := highY ((numF n ss).getD i []) ys) (by rw [h2.1, hb]) l2 hi
  rw [dot_lowY] at ec
  rw [dot_highY] at ed
  refine ⟨_, _, ⟨grown_in hm hyb h1 (by rw [l1, hb]) fun k hk => ?_, grown_in hm hyb h2 (by rw [l2, hb]) fun k hk => ?_, fun x hx => ?_⟩, ec, ed⟩
  · unfold lowY
    rw [zipW_getD (a := 0) (b := 0) (by omega) (by omega)]
    have := y0 k
    split <;> omega
  · unfold highY
    rw [zipW_getD (a := 0) (b := 0) (by omega) (by omega)]
    have := y0 k
    split <;> omega
  · obtain ⟨u, z, hu, lz, rfl, hz⟩ := grown_split hm hw hyb hx
    rw [ec, ed, out_far ok (by rw [hu.1, hb]) (by rw [lz, hb]) hi]
    have b := h3 u hu
    have a1 := dot_le n (negW ((numF n ss).getD i [])) ys ((numF n ss).getD i []) z (by unfold negW; rw [List.length_map, ln]) hy ln (by rw [lz, hb]) fun k hk => by
      obtain ⟨z0, z1⟩ := hz k (by omega)
      rw [getD_neg]
      split
      · exact Int.mul_le_mul_of_nonpos_left (by omega) z1
      · rw [Int.zero_mul]
        exact Int.mul_nonneg (by omega) z0
    have a2 := dot_le n ((numF n ss).getD i []) z (posW ((numF n ss).getD i [])) ys ln (by rw [lz, hb]) (by unfold posW; rw [List.length_map, ln]) hy fun k hk => by
      obtain ⟨z0, z1⟩ := hz k (by omega)
      rw [getD_pos]
      split
      · rw [Int.zero_mul]
        exact Int.mul_nonpos_of_nonpos_of_nonneg (by omega) z0
      · exact Int.mul_le_mul_of_nonneg_left z1 (by omega)
    omega
end
end My

namespace My
open PySem PySem.Spec PyProof.Rows L2 Pre
/-- what the ends' lists come to after so many rests -/
def EndSet (bs : List (Int × Int)) (m : Int) (line : List Int) (rests : List (List Int)) (j : Nat) (done : List (Addr × List Int)) : Prop := (∀ e ∈ done, InB bs e.2) ∧ ∀ k r, k < j → rests[k]? = some r → letG (spanG m bs r) = true → (∃ e ∈ done, e.2 = lowG (spanG m bs r) line) ∧ ∃ e ∈ done, e.2 = highG (spanG m bs r) line
theorem EndSet.skip {bs : List (Int × Int)} {m : Int} {line : List Int} {rests : List (List Int)} {j : Nat} {done : List (Addr × List Int)} (h : EndSet bs m line rests j done) {r : List Int} (hr : rests[j]? = some r) (c : letG (spanG m bs r) = false) : EndSet bs m line rests (j + 1) done := by
  refine ⟨h.1, fun k q hk hq hl => ?_⟩
  rcases Nat.lt_or_ge k j with hj | hj
  · exact h.2 k q hj hq hl
  · have e : k = j := by omega
    subst e
    rw [hr] at hq
    cases hq
    rw [c] at hl
    cases hl
theorem EndSet.more {bs : List (Int × Int)} {m : Int} {line : List Int} {rests : List (List Int)} {j : Nat} {done : List (Addr × List Int)} (h : EndSet bs m line rests j done) (hm : 0 < m) {r : List Int} (hr : rests[j]? = some r) (lr : r.length = bs.length) (ll : line.length = bs.length) (c : letG (spanG m bs r) = true) {a b : Addr} : EndSet bs m line rests (j + 1) (done ++ [(a, lowG (spanG m bs r) line)] ++ [(b, highG (spanG m bs r) line)]) := by
  obtain ⟨i1, i2⟩ := low_in (line := line) hm lr ll c
  refine ⟨fun e he => ?_, fun k q hk hq hl => ?_⟩
  · rcases List.mem_append.mp he with he | he
    · rcases List.mem_append.mp he with he | he
      · exact h.1 e he
      · rw [List.mem_singleton.mp he]
        exact i1
    · rw [List.mem_singleton.mp he]
      exact i2
  · rcases Nat.lt_or_ge k j with hj | hj
    · obtain ⟨⟨e, h1, h2⟩, ⟨f, h3, h4⟩⟩ := h.2 k q hj hq hl
      exact ⟨⟨e, List.mem_append_left _ (List.mem_append_left _ h1), h2⟩, ⟨f, List.mem_append_left _ (List.mem_append_left _ h3), h4⟩⟩
    · have e : k = j := by omega
      subst e
      rw [hr] at hq
      cases hq
      exact ⟨⟨_, List.mem_append_left _ (List.mem_append_right _ List.mem_cons_self), rfl⟩, ⟨_, List.mem_append_right _ List.mem_cons_self, rfl⟩⟩
/-- all rests gone through: the ends are those of the box -/
theorem EndSet.all {n : Nat} {ss : List Step} (ok : ∀ s ∈ ss, s.ok n) {i : Nat} (hi : i < n) {bs : List (Int × Int)} (hb : bs.length = n) {done : List (Addr × List Int)} (h : EndSet bs (2 ^ bitsS ss) ((numF n ss).getD i []) (listsF (rngI 0 (2 ^ bitsS ss)) n) (listsF (rngI 0 (2 ^ bitsS ss)) n).length done) {x : List Int} (hx : InB bs x) : (∃ e ∈ done, outF ss i e.2 ≤ outF ss i x) ∧ ∃ e ∈ done, outF ss i x ≤ outF ss i e.2 := by
  have hm := p2_pos (bitsS ss)
  obtain ⟨_, mem⟩ := rest_split (m := bitsS ss) (n := n) (x := x) (by rw [hx.1, hb])
  obtain ⟨k, hk⟩ := List.getElem?_of_mem mem
  obtain ⟨⟨e, h1, h2⟩, ⟨f, h3, h4⟩⟩ := h.2 k _ (List.getElem?_eq_some_iff.mp hk).1 hk (span_let hm hx)
  obtain ⟨a, b⟩ := span_ends ok hi hb hx
  exact ⟨⟨e, h1, by rw [h2]; exact a⟩, ⟨f, h3, by rw [h4]; exact b⟩⟩
local macro_rules | `(tactic| walk_at "go") => `(tactic| repeat (first | (with_reducible first | refine iteT ?_ | refine iteF ?_ | refine iteNtt ?_ | refine iteNff ?_ | refine iteET (by omega) ?_ | refine iteEF (by omega) ?_ | refine iteENT (by omega) ?_ | refine iteENF (by omega) ?_ | refine iteDT (by omega) ?_ | refine iteDF (by omega) ?_ | refine iteNT (by omega) ?_ | refine iteNF (by omega) ?_) | refine ⟨_, rfl, ?_⟩ | refine ⟨_, _, rfl, rfl, ?_⟩ | refine ⟨_, _, rfl, ?_⟩ | refine ⟨rfl, ?_⟩ | refine .inl ⟨_, rfl, ?_⟩ | refine .inr ⟨_, rfl, ?_⟩))
local macro_rules | `(tactic| walk_at "b") => `(tactic| try dsimp (config := { proj := false, iota := false, eta := false, zeta := false }) only)
section
variable {P : Program} {w : World} {K : PySem.W.Frag} {mg : Str → Option Value} {base : Heap}
def sp_end_of (K : PySem.W.Frag) : Sp := fun vs H Q _ => ∃ (r p : Addr) (us : List V) (ss : List Step) (bs : List (Int × Int)) (n i : Nat), vs = [.ref r, .ref p, .int i] ∧ H r = some (.lst us) ∧ AllV (RowV H) us ss ∧ Dt H (.ref p) (.list (bs.map pairD)) ∧ bs.length = n ∧ (∀ s ∈ ss, s.ok n) ∧ 1 ≤ n ∧ n ≤ 4 ∧ i < n ∧ ss.length ≤ 16 ∧ bitsS ss ≤ 15 ∧ (2 ^ bitsS ss) ^ n ≤ 1000 ∧ (∃ x, InB bs x) ∧
  ∀ H' t (lo hi : Addr) (c d : List Int), Same H H' → H' t = some (.tup [.int (outF ss i c), .ref lo, .int (outF ss i d), .ref hi]) → H' lo = some (.lst (c.map V.int)) → H' hi = some (.lst (d.map V.int)) → H lo = none → H hi = none → EndB bs (outF ss i) c d → Q (.ref t) H'
theorem G_end_of (T : Top K mg) : FnOk P w K mg base CX0 4 T.f_end_of T.fd_end_of ["rows", "boxes", "at"] (sp_end_of K) := by
  refine T.F_end_of.ok sc_end_of (fun vs H Q E h => by obtain ⟨r, p, us, ss, bs, n, i, rfl, _⟩ := h; rfl) (fun cdv A outer s H vs Q E hr h => ?_)
  obtain ⟨r, p, us, ss, bs, n, i, rfl, hr0, hv, dP, hbn, hO, hn1, hn4, hin, hl, hb, hpow, hne, q⟩ := h
  refine ⟨_, PSs.nox (pss_cons (ps_par3 (by rfl) sc_end_of.nd (i := 5) (j := 6) (l := 7) rfl rfl rfl (by decide) (by decide) (by decide) rfl rfl rfl (pa_cons (pe_callB (k_len K rfl) (by rfl) T.n_len (by decide +kernel) (pa_cons (pv 1) pa_nil)) (pa_cons (pe_call (G_shifts_of T) (hr.mono (by decide)) (by rfl) T.g_shifts_of T.F_shifts_of.kp T.b_shifts_of .nil pass0 (pa_cons (pv 0) pa_nil)) (pa_cons pe_non pa_nil))) (by rfl))
  (pss_cons (ps_set (i := 3) sc_end_of.nd rfl (by first | exact Or.inl rfl | exact Or.inr rfl) (pe_ix (k_ixL K rfl) (pe_call (G_numbers_of T) (hr.mono (by decide)) (by rfl) T.g_numbers_of T.F_numbers_of.kp T.b_numbers_of .nil pass0 (pa_cons (pv 0) (pa_cons (pv 5) pa_nil))) (pv 2) (fun _ _ => rfl)))
  (pss_cons (ps_for PassesOwn.never rfl (k_piL K rfl (pe_call (G_every_rest T) (hr.mono (by decide)) (by rfl) T.g_every_rest T.F_every_rest.kp T.b_every_rest .nil pass0 (pa_cons (pv 5) (pa_cons (pv 6) pa_nil)))) (pg_name (i := 4) sc_end_of.nd rfl (by first | exact Or.inl rfl | exact Or.inr rfl))
    (pss_cons (ps_set (i := 8) sc_end_of.nd rfl (by first | exact Or.inl rfl | exact Or.inr rfl) (pe_call (G_spans_of T) (hr.mono (by decide)) (by rfl) T.g_spans_of T.F_spans_of.kp T.b_spans_of .nil pass0 (pa_cons (pv 1) (pa_cons (pv 4) (pa_cons (pv 6) pa_nil)))))
  (pss_one (ps_if (pt_cmpR op_notN (pv 8) pe_non (nomark _))
    (pss_cons (ps_setLc (i := 9) (own := [("span", 11), ("number", 12)]) (g := gTup K 2 (gCons (gName 11) (gCons (gName 12) (gNil)))) (tt := tYes) (by rfl) sc_end_of.nd rfl rfl (sw_true rfl rfl rfl (by decide +kernel)) (k_piZL K rfl (by rfl) T.n_zip (pa_cons (pv 8) (pa_cons (pv 3) pa_nil)) (pk_cons pe_bl pk_nil)) (blkOk_by (own := [("span", 11), ("number", 12)]) (N := N_end_of) (sc := defScope s_end_of) (by decide +kernel)) (fun _ _ _ _ _ => (k_pgT K rfl (by rfl) (pgs_cons (pg_name (i := 11) sc_end_of.nd rfl (by first | exact Or.inl rfl | exact Or.inr rfl)) (pgs_cons (pg_name (i := 12) sc_end_of.nd rfl (by first | exact Or.inl rfl | exact Or.inr rfl)) pgs_nil)))) (fun _ _ _ _ _ => pts_nil) (fun _ _ _ _ _ => (pe_ix (k_ixT K rfl) (pv 11) (pe_callTy call_int1 (by rfl) T.n_int (by decide +kernel) (pa_cons (pe_cmpR op_lt (pv 12) pe_int (nomark _)) pa_nil)) (fun _ _ => rfl))))
  (pss_cons (ps_setLc (i := 10) (own := [("span", 11), ("number", 12)]) (g := gTup K 2 (gCons (gName 11) (gCons (gName 12) (gNil)))) (tt := tYes) (by rfl) sc_end_of.nd rfl rfl (sw_true rfl rfl rfl (by decide +kernel)) (k_piZL K rfl (by rfl) T.n_zip (pa_cons (pv 8) (pa_cons (pv 3) pa_nil)) (pk_cons pe_bl pk_nil)) (blkOk_by (own := [("span", 11), ("number", 12)]) (N := N_end_of) (sc := defScope s_end_of) (by decide +kernel)) (fun _ _ _ _ _ => (k_pgT K rfl (by rfl) (pgs_cons (pg_name (i := 11) sc_end_of.nd rfl (by first | exact Or.inl rfl | exact Or.inr rfl)) (pgs_cons (pg_name (i := 12) sc_end_of.nd rfl (by first | exact Or.inl rfl | exact Or.inr rfl)) pgs_nil)))) (fun _ _ _ _ _ => pts_nil) (fun _ _ _ _ _ => (pe_ix (k_ixT K rfl) (pv 11) (pe_callTy call_int1 (by rfl) T.n_int (by decide +kernel) (pa_cons (pe_cmpR op_ge (pv 12) pe_int (nomark _)) pa_nil)) (fun _ _ => rfl))))
  (pss_one (ps_set (i := 7) sc_end_of.nd rfl (by first | exact Or.inl rfl | exact Or.inr rfl) (pe_call (G_widened T) (hr.mono (by decide)) (by rfl) T.g_widened T.F_widened.kp T.b_widened .nil pass0 (pa_cons (pe_call (G_widened T) (hr.mono (by decide)) (by rfl) T.g_widened T.F_widened.kp T.b_widened .nil pass0 (pa_cons (pv 7) (pa_cons (pe_ix (k_ixL K rfl) (pe_call (G_played T) (hr.mono (by decide)) (by rfl) T.g_played T.F_played.kp T.b_played .nil pass0 (pa_cons (pv 0) (pa_cons (pv 9) pa_nil))) (pv 2) (fun _ _ => rfl)) (pa_cons (pv 9) pa_nil)))) (pa_cons (pe_ix (k_ixL K rfl) (pe_call (G_played T) (hr.mono (by decide)) (by rfl) T.g_played T.F_played.kp T.b_played .nil pass0 (pa_cons (pv 0) (pa_cons (pv 10) pa_nil))) (pv 2) (fun _ _ => rfl)) (pa_cons (pv 10) pa_nil))))))))
    pss_nil))))
  (pss_one (ps_ret (pv 7)))))), ?_⟩
  obtain ⟨x0, hx0⟩ := hne
  obtain ⟨as, hA, hal, hat⟩ := dt_pairs (K := K) dP
  have hm := p2_pos (bitsS ss)
  have lnum := num_row_len hO hin
  walk_at "go"
  refine ⟨p, _, rfl, .inl hA, ?_⟩
  rw [List.length_map, hal, hbn]
  walk_at "go"
  refine ⟨r, us, ss, rfl, hr0, hv, by omega, fun H1 s1 => ?_⟩
  walk_at "go"
  refine ⟨_, _, _, rfl, ?_⟩
  walk_at "go"
  refine ⟨r, us, n, ss, rfl, s1 _ _ hr0, hv.imp fun v s => RowV.same s1, hO, hn1, hn4, by omega, fun H2 L s2 hR2 => ?_⟩
  obtain ⟨las, hL, hLl, hLr⟩ := hR2
  have hi' : i < las.length := by rw [hLl, (num_len hO).1]; exact hin
  have en : (numF n ss)[i]? = some ((numF n ss).getD i []) := by
    rw [List.getElem?_eq_getElem (by rw [(num_len hO).1]; exact hin), getD_lt (by rw [(num_len hO).1]; exact hin)]
  have hLi : las[i]? = some (las[i]'hi') := List.getElem?_eq_getElem hi'
  have hline := hLr i _ _ hLi en
  generalize las[i]'hi' = ln at hLi hline
  have s02 := s1.trans s2
  walk_at "go"
  refine ⟨L, _, _, _, rfl, rfl, .inl (.inl hL), atI_nat (by rw [List.getElem?_map, hLi]; rfl), ?_⟩
  walk_at "go"
  refine ⟨hn4, hb, hpow, fun H4 R s4 hR => ?_⟩
  obtain ⟨ps, hRp, hps, eps⟩ := hR.prs
  have s04 := s02.trans s4
  have hline4 := s4 _ _ hline
  walk_at "go"
  refine ⟨⟨_, .inl (.inl hRp)⟩, for_list (K := K) (a := R) (xs := refsL ps) (fun j σ H5 => ∃ (v4 v8 v9 v10 : Option V) (done : List (Addr × List Int)) (v : V), σ = [some (.ref r), some (.ref p), some (.int i), some (.ref ln), v4, some (.int n), some (.int (bitsS ss : Nat)), some v, v8, v9, v10, none, none] ∧ Same H4 H5 ∧ EndAt H5 done (outF ss i) v ∧ (∀ e ∈ done, H e.1 = none ∧ H5 e.1 = some (.lst (e.2.map V.int))) ∧ EndSet bs (2 ^ bitsS ss) ((numF n ss).getD i []) (listsF (rngI 0 (2 ^ bitsS ss)) n) j done) ⟨none, none, none, none, [], .non, rfl, Same.refl _, .inl ⟨rfl, rfl⟩, (fun e h => nomatch h), (fun e h => nomatch h), fun k r hk => absurd hk (by omega)⟩ (fun j σ H5 _ ⟨_, _, _, _, _, _, _, s, _⟩ => .inl (.inl (s _ _ hRp))) ?_ ?_⟩
  · rintro j v σ H5 hj ⟨v4, v8, v9, v10, done, ev, rfl, s5, hE, hdone, hset⟩
    obtain ⟨c, hc, hcm, rfl⟩ := refsL_at hj
    have er : (listsF (rngI 0 (2 ^ bitsS ss)) n)[j]? = some c.2 := by rw [← eps, List.getElem?_map, hc]; rfl
    have lc : c.2.length = n := (mem_listsF.mp (List.mem_of_getElem? er)).1
    have s05 := s04.trans s5
    have hline5 := s5 _ _ hline4
    walk_at "go"
    refine ⟨p, c.1, bs, c.2, bitsS ss, rfl, dP.same s05, s5 _ _ (hps c hcm), by rw [hbn, lc], by omega, hb, fun e H6 s6 => ?_, fun e H6 Ds s6 dS => ?_⟩
    · walk_at "go"
      exact ⟨_, _, _, _, done, ev, rfl, s5.trans s6, hE.same s6, fun x hx => ⟨(hdone x hx).1, s6 _ _ (hdone x hx).2⟩, hset.skip er e⟩
    · obtain ⟨ts, hT, htl, hta⟩ := dt_pairs (K := K) dS
      have ls : (spanG (2 ^ bitsS ss) bs c.2).length = n := by
        unfold spanG
        rw [List.length_zipWith, hbn, lc, Nat.min_self]
      walk_at "go"
      have llo : (lowG (spanG (2 ^ bitsS ss) bs c.2) ((numF n ss).getD i [])).length = n := by unfold lowG; rw [List.length_zipWith, ls, lnum, Nat.min_self]
      refine ⟨Ds, ln, _, _, rfl, hT, .inl (.inl (s6 _ _ hline5)), fun D1 nD1 => ?_⟩
      refine lc_dW (walk_zl (K := K) (a := Ds) (b := ln) (xs := ts.map V.ref) (ys := ((numF n ss).getD i []).map V.int) (by rw [List.length_map, List.length_map, htl, ls, lnum])) (S := []) Has.nil ((lowG (spanG (2 ^ bitsS ss) bs c.2) ((numF n ss).getD i [])).map fun x => some (PyData.int x)) nD1 (by rw [List.length_map, llo, List.length_map, htl, ls]) (by rw [List.length_map, htl, ls]; exact small1000 (by omega)) (fun H' s => ⟨s.seq (hT), s.seq (.inl (.inl (s6 _ _ hline5)))⟩) ?_ ?_
      · rintro k o H0 x H'' hk ho s0 hH ⟨T1, x1, y1, rfl, nT, rfl, e1, e2⟩ Qt qt
        have st := same_upd (o := .tup [x1, y1]) nT
        dsimp only at e1
        rw [List.getElem?_map] at e1
        obtain ⟨t1, et1, rfl⟩ := Option.map_eq_some_iff.mp e1
        obtain ⟨n2, en2, rfl⟩ := int_at e2
        have hks : k < (spanG (2 ^ bitsS ss) bs c.2).length := by rw [← htl]; exact (List.getElem?_eq_some_iff.mp et1).1
        have es : (spanG (2 ^ bitsS ss) bs c.2)[k]? = some (spanG (2 ^ bitsS ss) bs c.2)[k] := List.getElem?_eq_getElem hks
        have ht := hta k t1 _ et1 es
        generalize (spanG (2 ^ bitsS ss) bs c.2)[k] = z at es ht
        have eo : o = some (PyData.int (if n2 < 0 then z.2 else z.1)) := by
          unfold lowG at ho
          rw [List.getElem?_map, List.getElem?_zipWith, es, en2] at ho
          exact (Option.some.inj ho).symm
        subst eo
        refine ⟨T1, _, rfl, .inl (.inl upd_same), rfl, ?_⟩
        have hT1 := Same.tup ((Same.refl _).trans (s0.trans st)) ht
        generalize upd H0 T1 (.tup [V.ref t1, V.int n2]) = H8 at st hT1
        refine ⟨_, _, rfl, _, _, rfl, rfl, ⟨rfl, ?_⟩⟩
        walk_at "go"
        by_cases cn : n2 < 0
        · rw [if_pos cn] at qt
          rw [if_pos (decide_eq_true cn)]
          refine ⟨t1, _, _, _, rfl, rfl, hT1, rfl, ?_⟩
          exact qt _ _ st (.int _)
        · rw [if_neg cn] at qt
          rw [if_neg (fun z => cn (of_decide_eq_true z))]
          refine ⟨t1, _, _, _, rfl, rfl, hT1, rfl, ?_⟩
          exact qt _ _ st (.int _)
      intro H7 slo _ dlo
      have ello : ((lowG (spanG (2 ^ bitsS ss) bs c.2) ((numF n ss).getD i [])).map fun x => some (PyData.int x)).filterMap id = (lowG (spanG (2 ^ bitsS ss) bs c.2) ((numF n ss).getD i [])).map PyData.int := sel_map _ _
      rw [ello, rs_nil] at dlo
      obtain ⟨_, elo, hlo⟩ := Dt.intsE (ns := lowG (spanG (2 ^ bitsS ss) bs c.2) ((numF n ss).getD i [])) dlo
      cases elo
      walk_at "go"
      have lhi : (highG (spanG (2 ^ bitsS ss) bs c.2) ((numF n ss).getD i [])).length = n := by unfold highG; rw [List.length_zipWith, ls, lnum, Nat.min_self]
      refine ⟨Ds, ln, _, _, rfl, slo.seq hT, .inl (.inl ((s6.trans slo) _ _ hline5)), fun D2 nD2 => ?_⟩
      refine lc_dW (walk_zl (K := K) (a := Ds) (b := ln) (xs := ts.map V.ref) (ys := ((numF n ss).getD i []).map V.int) (by rw [List.length_map, List.length_map, htl, ls, lnum])) (S := []) Has.nil ((highG (spanG (2 ^ bitsS ss) bs c.2) ((numF n ss).getD i [])).map fun x => some (PyData.int x)) nD2 (by rw [List.length_map, lhi, List.length_map, htl, ls]) (by rw [List.length_map, htl, ls]; exact small1000 (by omega)) (fun H' s => ⟨s.seq (slo.seq hT), s.seq (.inl (.inl ((s6.trans slo) _ _ hline5)))⟩) ?_ ?_
      · rintro k o H0 x H'' hk ho s0 hH ⟨T1, x1, y1, rfl, nT, rfl, e1, e2⟩ Qt qt
        have st := same_upd (o := .tup [x1, y1]) nT
        dsimp only at e1
        rw [List.getElem?_map] at e1
        obtain ⟨t1, et1, rfl⟩ := Option.map_eq_some_iff.mp e1
        obtain ⟨n2, en2, rfl⟩ := int_at e2
        have hks : k < (spanG (2 ^ bitsS ss) bs c.2).length := by rw [← htl]; exact (List.getElem?_eq_some_iff.mp et1).1
        have es : (spanG (2 ^ bitsS ss) bs c.2)[k]? = some (spanG (2 ^ bitsS ss) bs c.2)[k] := List.getElem?_eq_getElem hks
        have ht := hta k t1 _ et1 es
        generalize (spanG (2 ^ bitsS ss) bs c.2)[k] = z at es ht
        have eo : o = some (PyData.int (if 0 ≤ n2 then z.2 else z.1)) := by
          unfold highG at ho
          rw [List.getElem?_map, List.getElem?_zipWith, es, en2] at ho
          exact (Option.some.inj ho).symm
        subst eo
        refine ⟨T1, _, rfl, .inl (.inl upd_same), rfl, ?_⟩
        have hT1 := Same.tup ((slo).trans (s0.trans st)) ht
        generalize upd H0 T1 (.tup [V.ref t1, V.int n2]) = H8 at st hT1
        refine ⟨_, _, rfl, _, _, rfl, rfl, ⟨rfl, ?_⟩⟩
        walk_at "go"
        by_cases cn : 0 ≤ n2
        · rw [if_pos cn] at qt
          rw [if_pos (decide_eq_true cn)]
          refine ⟨t1, _, _, _, rfl, rfl, hT1, rfl, ?_⟩
          exact qt _ _ st (.int _)
        · rw [if_neg cn] at qt
          rw [if_neg (fun z => cn (of_decide_eq_true z))]
          refine ⟨t1, _, _, _, rfl, rfl, hT1, rfl, ?_⟩
          exact qt _ _ st (.int _)
      intro H8' shi _ dhi
      have elhi : ((highG (spanG (2 ^ bitsS ss) bs c.2) ((numF n ss).getD i [])).map fun x => some (PyData.int x)).filterMap id = (highG (spanG (2 ^ bitsS ss) bs c.2) ((numF n ss).getD i [])).map PyData.int := sel_map _ _
      rw [elhi, rs_nil] at dhi
      obtain ⟨_, ehi, hhi⟩ := Dt.intsE (ns := highG (spanG (2 ^ bitsS ss) bs c.2) ((numF n ss).getD i [])) dhi
      cases ehi
      walk_at "go"
      obtain ⟨iB1, iB2⟩ := low_in (line := (numF n ss).getD i []) hm (rs := c.2) (by rw [lc, hbn]) (by rw [lnum, hbn]) e
      have s7 := s6.trans (slo.trans shi)
      have hlo8 := shi _ _ hlo
      refine ⟨r, D1, us, ss, _, rfl, (s05.trans s7) _ _ hr0, hv.imp fun v s => RowV.same (s05.trans s7), hlo8, by rw [llo]; exact hO, by omega, fun H9 p9 s9 h9 => ?_⟩
      walk_at "go"
      refine ⟨p9, _, _, _, rfl, rfl, .inl (.inl h9), at_getD (by rw [play_len, llo]; exact hin), ?_⟩
      walk_at "go"
      refine ⟨done, outF ss i, ev, (D1, lowG (spanG (2 ^ bitsS ss) bs c.2) ((numF n ss).getD i [])), rfl, hE.same (s7.trans s9), fun H10 v10' s10 hE10 => ?_⟩
      have s710 := s7.trans (s9.trans s10)
      have hhi10 := (s9.trans s10) _ _ hhi
      walk_at "go"
      refine ⟨r, D2, us, ss, _, rfl, (s05.trans s710) _ _ hr0, hv.imp fun v s => RowV.same (s05.trans s710), hhi10, by rw [lhi]; exact hO, by omega, fun H11 p11 s11 h11 => ?_⟩
      walk_at "go"
      refine ⟨p11, _, _, _, rfl, rfl, .inl (.inl h11), at_getD (by rw [play_len, lhi]; exact hin), ?_⟩
      walk_at "go"
      refine ⟨_, outF ss i, v10', (D2, highG (spanG (2 ^ bitsS ss) bs c.2) ((numF n ss).getD i [])), rfl, hE10.same s11, fun H12 v12 s12 hE12 => ?_⟩
      have s712 := s710.trans (s11.trans s12)
      have hlo12 := ((s9.trans s10).trans (s11.trans s12)) _ _ hlo8
      have hhi12 := (s11.trans s12) _ _ hhi10
      walk_at "go"
      refine ⟨_, _, _, _, _, _, rfl, s5.trans s712, hE12, fun x hx => ?_, hset.more hm er (by rw [lc, hbn]) (by rw [lnum, hbn]) e⟩
      rcases List.mem_append.mp hx with hx | hx
      · rcases List.mem_append.mp hx with hx | hx
        · exact ⟨(hdone x hx).1, s712 _ _ (hdone x hx).2⟩
        · rw [List.mem_singleton.mp hx]
          exact ⟨(s05.trans s6).free nD1, hlo12⟩
      · rw [List.mem_singleton.mp hx]
        exact ⟨((s05.trans s6).trans slo).free nD2, hhi12⟩
  · rintro σ H5 ⟨v4, v8, v9, v10, done, ev, rfl, s5, hE, hdone, hset⟩
    have le : (refsL ps).length = (listsF (rngI 0 (2 ^ bitsS ss)) n).length := by
      unfold refsL
      rw [← eps, List.length_map, List.length_map]
    rw [le] at hset
    rcases hE with ⟨rfl, _⟩ | ⟨t, c, d, rfl, ht, hc, hd, hall⟩
    · obtain ⟨⟨e, he, _⟩, _⟩ := hset.all hO hin hbn hx0
      cases he
    · walk_at "go"
      refine q H5 t c.1 d.1 c.2 d.2 (s04.trans s5) ht (hdone c hc).2 (hdone d hd).2 (hdone c hc).1 (hdone d hd).1 ⟨hset.1 c hc, hset.1 d hd, fun x hx => ?_⟩
      obtain ⟨⟨e, he, h1⟩, ⟨f, hf, h2⟩⟩ := hset.all hO hin hbn hx
      exact ⟨Int.le_trans (hall e he).1 h1, Int.le_trans h2 (hall f hf).2⟩
end
end My

namespace My
open PySem PySem.Spec PyProof.Rows L2 Pre
local macro_rules | `(tactic| walk_at "go") => `(tactic| repeat (first | (with_reducible first | refine iteT ?_ | refine iteF ?_ | refine iteNtt ?_ | refine iteNff ?_ | refine iteET (by omega) ?_ | refine iteEF (by omega) ?_ | refine iteENT (by omega) ?_ | refine iteENF (by omega) ?_ | refine iteDT (by omega) ?_ | refine iteDF (by omega) ?_ | refine iteNT (by omega) ?_ | refine iteNF (by omega) ?_) | refine ⟨_, rfl, ?_⟩ | refine ⟨_, _, rfl, rfl, ?_⟩ | refine ⟨_, _, rfl, ?_⟩ | refine ⟨rfl, ?_⟩ | refine .inl ⟨_, rfl, ?_⟩ | refine .inr ⟨_, rfl, ?_⟩))
local macro_rules | `(tactic| walk_at "b") => `(tactic| try dsimp (config := { proj := false, iota := false, eta := false, zeta := false }) only)
section
variable {P : Program} {w : World} {K : PySem.W.Frag} {mg : Str → Option Value} {base : Heap}
def sp_are_boxes (C : Addr) : Sp := fun vs H Q _ => ∃ (H0 : Hp) (a r p : Addr) (n : Nat) (ss : List Step) (bs : List (Int × Int)), vs = [.ref a, .ref p] ∧ MixAt C H a r n ss ∧ FrRow H0 H p bs ∧ bs.length = n ∧ n ≤ 4 ∧ (∀ z ∈ bs, z.1 ≤ z.2) ∧ ∀ H', Same H H' → Q (.bl true) H'
structure RangeE where
  t : Addr
  l1 : Addr
  l2 : Addr
  lo : List Int
  hi : List Int
def RangeE.at_ (f : List Int → Int) (H : Hp) (e : RangeE) : Prop := H e.t = some (.tup [.int (f e.lo), .ref e.l1, .int (f e.hi), .ref e.l2]) ∧ H e.l1 = some (.lst (e.lo.map V.int)) ∧ H e.l2 = some (.lst (e.hi.map V.int))
def rangeLs (es : List RangeE) : List Addr := es.flatMap fun e => [e.l1, e.l2]
structure RangeAt (H0 H : Hp) (p : Addr) (m : Nat) (bs : List (Int × Int)) (ss : List Step) (es : List RangeE) : Prop where
  lst : H p = some (.lst (es.map fun e => V.ref e.t))
  new : H0 p = none
  len : es.length = m
  at_ : ∀ (i : Nat) (e : RangeE), es[i]? = some e → e.at_ (outF ss i) H ∧ EndB bs (outF ss i) e.lo e.hi ∧ H0 e.l1 = none ∧ H0 e.l2 = none
  nd : (rangeLs es).Nodup
  np : ∀ a ∈ rangeLs es, a ≠ p
theorem RangeE.at_.same {f : List Int → Int} {H H' : Hp} {e : RangeE} (h : e.at_ f H) (s : Same H H') : e.at_ f H' := ⟨s _ _ h.1, s _ _ h.2.1, s _ _ h.2.2⟩
theorem RangeE.at_.but {f : List Int → Int} {D : Addr} {H H' : Hp} {e : RangeE} (h : e.at_ f H) (k : But D H H') (hD : ∃ vs, H D = some (.lst vs)) (n1 : e.l1 ≠ D) (n2 : e.l2 ≠ D) : e.at_ f H' := by
  obtain ⟨vs, hD⟩ := hD
  have ne : ∀ {a : Addr} {xs : List V}, H a = some (.tup xs) → a ≠ D := fun {a xs} h z => by rw [z, hD] at h; cases h
  exact ⟨k _ _ (ne h.1) h.1, k _ _ n1 h.2.1, k _ _ n2 h.2.2⟩
theorem RangeAt.same {H0 H H' : Hp} {p : Addr} {m : Nat} {bs : List (Int × Int)} {ss : List Step} {es : List RangeE} (h : RangeAt H0 H p m bs ss es) (s : Same H H') : RangeAt H0 H' p m bs ss es :=
  ⟨s _ _ h.lst, h.new, h.len, fun i e he => ⟨(h.at_ i e he).1.same s, (h.at_ i e he).2⟩, h.nd, h.np⟩
theorem RangeAt.older {H0 H1 H : Hp} {p : Addr} {m : Nat} {bs : List (Int × Int)} {ss : List Step} {es : List RangeE} (h : RangeAt H1 H p m bs ss es) (s : Same H0 H1) : RangeAt H0 H p m bs ss es :=
  ⟨h.lst, s.free h.new, h.len, fun i e he => ⟨(h.at_ i e he).1, (h.at_ i e he).2.1, s.free (h.at_ i e he).2.2.1, s.free (h.at_ i e he).2.2.2⟩, h.nd, h.np⟩
theorem rangeLs_snoc (es : List RangeE) (e : RangeE) : rangeLs (es ++ [e]) = rangeLs es ++ [e.l1, e.l2] := by
  simp [rangeLs]
theorem RangeAt.held {H0 H : Hp} {p : Addr} {m : Nat} {bs : List (Int × Int)} {ss : List Step} {es : List RangeE} (h : RangeAt H0 H p m bs ss es) {a : Addr} (ha : a ∈ rangeLs es) : H0 a = none ∧ ∃ xs, H a = some (.lst xs) := by
  obtain ⟨e, he, hm⟩ := List.mem_flatMap.mp ha
  obtain ⟨i, hi⟩ := List.getElem?_of_mem he
  obtain ⟨k, _, k1, k2⟩ := h.at_ i e hi
  rcases List.mem_cons.mp hm with rfl | hm
  · exact ⟨k1, _, k.2.1⟩
  · rw [List.mem_singleton.mp hm]
    exact ⟨k2, _, k.2.2⟩
theorem RangeAt.snoc {H0 H H' : Hp} {D : Addr} {m : Nat} {bs : List (Int × Int)} {ss : List Step} {es : List RangeE} {e : RangeE} (h : RangeAt H0 H D m bs ss es) (s : Same H H') (k : e.at_ (outF ss m) H') (ok : EndB bs (outF ss m) e.lo e.hi) (n1 : H e.l1 = none) (n2 : H e.l2 = none) (n12 : e.l1 ≠ e.l2) (z1 : H0 e.l1 = none) (z2 : H0 e.l2 = none) : RangeAt H0 (upd H' D (.lst ((es.map fun e => V.ref e.t) ++ [.ref e.t]))) D (m + 1) bs ss (es ++ [e]) := by
  have hD : H' D = _ := s _ _ h.lst
  have d1 : e.l1 ≠ D := fun z => by rw [z, h.lst] at n1; cases n1
  have d2 : e.l2 ≠ D := fun z => by rw [z, h.lst] at n2; cases n2
  refine ⟨by rw [List.map_append]; exact upd_same, h.new, by rw [List.length_append, h.len]; rfl, fun i x hx => ?_, ?_, ?_⟩
  · rcases Nat.lt_or_ge i es.length with hi | hi
    · rw [List.getElem?_append_left hi] at hx
      have q := h.at_ i x hx
      have m1 : ∀ a ∈ [x.l1, x.l2], a ∈ rangeLs es := fun a ha => List.mem_flatMap.mpr ⟨x, List.mem_of_getElem? hx, ha⟩
      exact ⟨(q.1.same s).but But.refl.upd ⟨_, hD⟩ (h.np _ (m1 _ List.mem_cons_self)) (h.np _ (m1 _ (List.mem_cons_of_mem _ List.mem_cons_self))), q.2⟩
    · rw [List.getElem?_append_right hi] at hx
      have e0 : i - es.length = 0 := by
        have := (List.getElem?_eq_some_iff.mp hx).1
        rw [List.length_singleton] at this
        omega
      rw [e0] at hx
      cases hx
      have ei : i = m := by have := h.len; omega
      subst ei
      exact ⟨k.but But.refl.upd ⟨_, hD⟩ d1 d2, ok, z1, z2⟩
  · rw [rangeLs_snoc]
    refine List.nodup_append.mpr ⟨h.nd, by simp [n12], fun a ha b hb z => ?_⟩
    subst z
    obtain ⟨_, xs, q⟩ := h.held ha
    rcases List.mem_cons.mp hb with rfl | hb
    · rw [q] at n1; cases n1
    · rw [List.mem_singleton.mp hb] at q
      rw [q] at n2; cases n2
  · intro a ha
    rw [rangeLs_snoc] at ha
    rcases List.mem_append.mp ha with ha | ha
    · exact h.np a ha
    · rcases List.mem_cons.mp ha with rfl | ha
      · exact d1
      · rw [List.mem_singleton.mp ha]
        exact d2
theorem in_some {bs : List (Int × Int)} (h : ∀ z ∈ bs, z.1 ≤ z.2) : ∃ x, InB bs x := by
  refine ⟨bs.map Prod.fst, List.length_map .., fun k hk => ?_⟩
  have := h bs[k] (List.getElem_mem hk)
  rw [getD_lt (l := bs) hk, getD_lt (l := bs.map Prod.fst) (by rw [List.length_map]; exact hk), List.getElem_map]
  exact ⟨Int.le_refl _, this⟩
def EndV (D : Addr) (bs : List (Int × Int)) (ss : List Step) (i : Nat) (y : V) (H : Hp) : Prop := ∃ (t lo hi : Addr) (c d : List Int), y = .ref t ∧ t ≠ D ∧ lo ≠ D ∧ hi ≠ D ∧ H t = some (.tup [.int (outF ss i c), .ref lo, .int (outF ss i d), .ref hi]) ∧ H lo = some (.lst (c.map V.int)) ∧ H hi = some (.lst (d.map V.int)) ∧ EndB bs (outF ss i) c d
def sp_ranges (C : Addr) (K : PySem.W.Frag) : Sp := fun vs H Q _ => ∃ (H0 : Hp) (a r p : Addr) (n : Nat) (ss : List Step) (bs : List (Int × Int)), vs = [.ref a, .ref p] ∧ MixAt C H a r n ss ∧ FrRow H0 H p bs ∧ bs.length = n ∧ (∀ s ∈ ss, s.ok n) ∧ 1 ≤ n ∧ n ≤ 4 ∧ ss.length ≤ 16 ∧ bitsS ss ≤ 15 ∧ (2 ^ bitsS ss) ^ n ≤ 1000 ∧ (∀ z ∈ bs, z.1 ≤ z.2) ∧ ∀ H' D es, Same H H' → RangeAt H H' D n bs ss es → Q (.ref D) H'
end
end My

namespace My
open PySem PySem.Spec PyProof.Rows L2 Pre
/-! ### the least depths of what comes out of all samples of a depth -/
def nnV (v : Int) : Int := if 0 ≤ v then v else 0 - v - 1
def depthP (p : Int × Int) : Nat := 1 + Builtin.Int.intBits (max (nnV p.1) (nnV p.2))
theorem nn_nonneg (v : Int) : 0 ≤ nnV v := by
  unfold nnV
  split <;> omega
theorem bits_le_iff {v : Int} (h : 0 ≤ v) (e : Nat) : Builtin.Int.intBits v ≤ e ↔ v < 2 ^ e := by
  have c : ((2 ^ e : Nat) : Int) = 2 ^ e := by rw [Int.natCast_pow]; rfl
  constructor
  · intro k
    have a := natAbs_lt_pow_bits v
    have b := Nat.lt_of_lt_of_le a (Nat.pow_le_pow_right (by decide) k)
    omega
  · intro k
    exact intBits_le (by omega)
theorem depth_le {p : Int × Int} {e : Nat} : depthP p ≤ e + 1 ↔ (-(2 ^ e) ≤ p.1 ∧ p.1 < 2 ^ e) ∧ -(2 ^ e) ≤ p.2 ∧ p.2 < 2 ^ e := by
  have a := nn_nonneg p.1
  have b := nn_nonneg p.2
  have q := bits_le_iff (v := max (nnV p.1) (nnV p.2)) (by omega) e
  unfold depthP
  rw [show (1 + Builtin.Int.intBits (max (nnV p.1) (nnV p.2)) ≤ e + 1) ↔ Builtin.Int.intBits (max (nnV p.1) (nnV p.2)) ≤ e by omega, q]
  unfold nnV
  constructor
  · intro h
    split at h <;> split at h <;> omega
  · intro h
    split <;> split <;> omega
theorem depth_pos (p : Int × Int) : 1 ≤ depthP p := by unfold depthP; omega
def hN (d : Nat) : Int := ((2 ^ (d - 1) : Nat) : Int)
theorem hN_pos (d : Nat) : 0 < hN d := Int.natCast_pos.mpr (Nat.two_pow_pos _)
theorem hN_eq (d : Nat) : hN d = 2 ^ (d - 1) := by unfold hN; rw [Int.natCast_pow]; rfl
def boxN (n d : Nat) : List (Int × Int) := List.replicate n (-hN d, hN d - 1)
theorem boxN_len (n d : Nat) : (boxN n d).length = n := List.length_replicate
theorem boxN_getD {n d k : Nat} (hk : k < n) : (boxN n d).getD k (0, 0) = (-hN d, hN d - 1) := by
  rw [getD_lt (by rw [boxN_len]; exact hk)]
  exact List.getElem_replicate _
theorem boxN_le {n d : Nat} : ∀ z ∈ boxN n d, z.1 ≤ z.2 := fun z hz => by
  have := hN_pos d
  rw [(List.mem_replicate.mp hz).2]
  show -hN d ≤ hN d - 1
  omega
theorem in_boxN {n d : Nat} {x : List Int} : InB (boxN n d) x ↔ x.length = n ∧ ∀ k, k < n → -hN d ≤ x.getD k 0 ∧ x.getD k 0 < hN d := by
  constructor
  · rintro ⟨h1, h2⟩
    rw [boxN_len] at h1 h2
    refine ⟨h1, fun k hk => ?_⟩
    have := h2 k hk
    rw [boxN_getD hk] at this
    dsimp only at this
    omega
  · rintro ⟨h1, h2⟩
    refine ⟨by rw [boxN_len]; exact h1, fun k hk => ?_⟩
    rw [boxN_len] at hk
    rw [boxN_getD hk]
    have := h2 k hk
    dsimp only
    omega
theorem boxN_bx {n d : Nat} {x : List Int} (h : InB (boxN n d) x) : ∀ v ∈ x, -hN d ≤ v ∧ v < hN d := fun v hv => by
  obtain ⟨h1, h2⟩ := in_boxN.mp h
  obtain ⟨k, hk⟩ := List.getElem?_of_mem hv
  have hl := (List.getElem?_eq_some_iff.mp hk).1
  have := h2 k (by omega)
  rw [List.getD_eq_getElem?_getD, hk] at this
  exact this
/-- the ends by all rests -/
def restsV (n : Nat) (bs : List (Int × Int)) (ss : List Step) : List (List Int) := (listsF (rngI 0 (2 ^ bitsS ss)) n).filter fun r => letG (spanG (2 ^ bitsS ss) bs r)
def endV (n : Nat) (bs : List (Int × Int)) (ss : List Step) (i : Nat) : Int × Int :=
  (((restsV n bs ss).map fun r => outF ss i (lowG (spanG (2 ^ bitsS ss) bs r) ((numF n ss).getD i []))).min?.getD 0, ((restsV n bs ss).map fun r => outF ss i (highG (spanG (2 ^ bitsS ss) bs r) ((numF n ss).getD i []))).max?.getD 0)
section
variable {n : Nat} {ss tt : List Step} {i j : Nat} {bs : List (Int × Int)}
theorem endV_ok (ok : ∀ s ∈ ss, s.ok n) (hi : i < n) (hb : bs.length = n) (hne : ∃ x, InB bs x) : ∃ c d, endV n bs ss i = (outF ss i c, outF ss i d) ∧ EndB bs (outF ss i) c d := by
  obtain ⟨x0, hx0⟩ := hne
  have hm := p2_pos (bitsS ss)
  have ln := num_row_len ok hi
  have mem : ∀ {x}, InB bs x → (x.map fun v => v % 2 ^ bitsS ss) ∈ restsV n bs ss := fun {x} hx => by
    obtain ⟨_, m⟩ := rest_split (m := bitsS ss) (n := n) (x := x) (by rw [hx.1, hb])
    exact List.mem_filter.mpr ⟨m, span_let hm hx⟩
  have inn : ∀ {r}, r ∈ restsV n bs ss → InB bs (lowG (spanG (2 ^ bitsS ss) bs r) ((numF n ss).getD i [])) ∧ InB bs (highG (spanG (2 ^ bitsS ss) bs r) ((numF n ss).getD i [])) := fun {r} hr => by
    obtain ⟨m, l⟩ := List.mem_filter.mp hr
    exact low_in hm (by rw [(mem_listsF.mp m).1, hb]) (by rw [ln, hb]) l
  unfold endV
  cases hmin : ((restsV n bs ss).map fun r => outF ss i (lowG (spanG (2 ^ bitsS ss) bs r) ((numF n ss).getD i []))).min? with
  | none =>
    have := mem hx0
    rw [List.map_eq_nil_iff.mp (List.min?_eq_none_iff.mp hmin)] at this
    cases this
  | some a =>
    cases hmax : ((restsV n bs ss).map fun r => outF ss i (highG (spanG (2 ^ bitsS ss) bs r) ((numF n ss).getD i []))).max? with
    | none =>
      have := mem hx0
      rw [List.map_eq_nil_iff.mp (List.max?_eq_none_iff.mp hmax)] at this
      cases this
    | some b =>
      obtain ⟨m1, m2⟩ := List.min?_eq_some_iff.mp hmin
      obtain ⟨m3, m4⟩ := List.max?_eq_some_iff.mp hmax
      obtain ⟨r, hr, er⟩ := List.mem_map.mp m1
      obtain ⟨q, hq, eq⟩ := List.mem_map.mp m3
      refine ⟨lowG (spanG (2 ^ bitsS ss) bs r) ((numF n ss).getD i []), highG (spanG (2 ^ bitsS ss) bs q) ((numF n ss).getD i []), by rw [er, eq]; rfl, (inn hr).1, (inn hq).2, fun x hx => ?_⟩
      obtain ⟨s1, s2⟩ := span_ends ok hi hb hx
      have k1 := m2 _ (List.mem_map_of_mem (f := fun r => outF ss i (lowG (spanG (2 ^ bitsS ss) bs r) ((numF n ss).getD i []))) (mem hx))
      have k2 := m4 _ (List.mem_map_of_mem (f := fun r => outF ss i (highG (spanG (2 ^ bitsS ss) bs r) ((numF n ss).getD i []))) (mem hx))
      rw [er, eq]
      omega
theorem endB_uni {f g : List Int → Int} {c d c' d' : List Int} (e : ∀ x, InB bs x → f x = g x) (h : EndB bs f c d) (k : EndB bs g c' d') : f c = g c' ∧ f d = g d' := by
  have a1 := (h.2.2 c' k.1).1
  have a2 := (k.2.2 c h.1).1
  have a3 := (h.2.2 d' k.2.1).2
  have a4 := (k.2.2 d h.2.1).2
  have e1 := e c h.1
  have e2 := e c' k.1
  have e3 := e d h.2.1
  have e4 := e d' k.2.1
  omega
theorem endV_eq (ok : ∀ s ∈ ss, s.ok n) (hi : i < n) (hb : bs.length = n) {c d : List Int} (h : EndB bs (outF ss i) c d) : endV n bs ss i = (outF ss i c, outF ss i d) := by
  obtain ⟨c', d', e, k⟩ := endV_ok ok hi hb ⟨c, h.1⟩
  obtain ⟨e1, e2⟩ := endB_uni (fun _ _ => rfl) k h
  rw [e, e1, e2]
theorem endV_ext (ok : ∀ s ∈ ss, s.ok n) (ok' : ∀ s ∈ tt, s.ok n) (hi : i < n) (hj : j < n) (hb : bs.length = n) (hne : ∃ x, InB bs x) (h : ∀ x, InB bs x → outF ss i x = outF tt j x) : endV n bs ss i = endV n bs tt j := by
  obtain ⟨c, d, e, k⟩ := endV_ok ok hi hb hne
  obtain ⟨c', d', e', k'⟩ := endV_ok ok' hj hb hne
  obtain ⟨e1, e2⟩ := endB_uni h k k'
  rw [e, e', e1, e2]
theorem endV_in (ok : ∀ s ∈ ss, s.ok n) (hi : i < n) (hb : bs.length = n) {x : List Int} (hx : InB bs x) : (endV n bs ss i).1 ≤ outF ss i x ∧ outF ss i x ≤ (endV n bs ss i).2 := by
  obtain ⟨c, d, e, k⟩ := endV_ok ok hi hb ⟨x, hx⟩
  rw [e]
  exact k.2.2 x hx
theorem endV_le (ok : ∀ s ∈ ss, s.ok n) (hi : i < n) (hb : bs.length = n) (hne : ∃ x, InB bs x) : (endV n bs ss i).1 ≤ (endV n bs ss i).2 := by
  obtain ⟨x, hx⟩ := hne
  have := endV_in ok hi hb hx
  omega
end
/-! ### depths on the way -/
def wayP (n d : Nat) (ss : List Step) : Nat → Nat
  | 0 => d
  | k + 1 => match ss[k]? with
    | some (.turn i) => max (wayP n d ss k) (depthP (endV n (boxN n d) (ss.take (k + 1)) i))
    | some (.lift i _ _) => max (wayP n d ss k) (depthP (endV n (boxN n d) (ss.take (k + 1)) i))
    | _ => wayP n d ss k
theorem boxN_some (n d : Nat) : ∃ x, InB (boxN n d) x := in_some boxN_le
theorem take_ok {n : Nat} {ss : List Step} (ok : ∀ s ∈ ss, s.ok n) (k : Nat) : ∀ s ∈ ss.take k, s.ok n := fun s hs => ok s (List.mem_of_mem_take hs)
theorem way_mono {n d : Nat} {ss : List Step} {k : Nat} : wayP n d ss k ≤ wayP n d ss (k + 1) := by
  show _ ≤ (match ss[k]? with
    | some (.turn i) => max (wayP n d ss k) (depthP (endV n (boxN n d) (ss.take (k + 1)) i))
    | some (.lift i _ _) => max (wayP n d ss k) (depthP (endV n (boxN n d) (ss.take (k + 1)) i))
    | _ => wayP n d ss k)
  split <;> first | exact Nat.le_max_left _ _ | exact Nat.le_refl _
theorem way_le {n d : Nat} {ss : List Step} {k m : Nat} (h : k ≤ m) : wayP n d ss k ≤ wayP n d ss m := by
  induction m with
  | zero => rw [Nat.le_zero.mp h]; exact Nat.le_refl _
  | succ m ih =>
    rcases Nat.lt_or_ge m k with c | c
    · rw [show k = m + 1 by omega]; exact Nat.le_refl _
    · exact Nat.le_trans (ih c) way_mono
/-- a way that a step leaves as it is has the ends that it had, a way that is exchanged those of the other one -/
theorem out_step {n : Nat} {ss : List Step} {k : Nat} {s : Step} (hs : ss[k]? = some s) (i : Nat) (x : List Int) : outF (ss.take (k + 1)) i x = (stepF 1 s (playF (ss.take k) x)).getD i 0 := by
  unfold outF
  rw [play_take hs]
theorem way_step {n d : Nat} {ss : List Step} (ok : ∀ s ∈ ss, s.ok n) {k : Nat} {s : Step} (hs : ss[k]? = some s) {i : Nat} (hi : i < n) (hd : 1 ≤ d) (ih : ∀ i, i < n → depthP (endV n (boxN n d) (ss.take k) i) ≤ wayP n d ss k) : depthP (endV n (boxN n d) (ss.take (k + 1)) i) ≤ wayP n d ss (k + 1) := by
  have o := ok s (List.mem_of_getElem? hs)
  have same : ∀ j, j < n → (∀ x, InB (boxN n d) x → outF (ss.take (k + 1)) i x = outF (ss.take k) j x) → depthP (endV n (boxN n d) (ss.take (k + 1)) i) ≤ wayP n d ss (k + 1) := fun j hj h => by
    rw [endV_ext (take_ok ok _) (take_ok ok _) hi hj (boxN_len n d) (boxN_some n d) h]
    exact Nat.le_trans (ih j hj) way_mono
  have len : ∀ x, InB (boxN n d) x → (playF (ss.take k) x).length = n := fun x hx => by rw [play_len, hx.1, boxN_len]
  cases s with
  | turn t =>
    by_cases e : i = t
    · subst e
      show _ ≤ (match ss[k]? with
        | some (.turn i) => max (wayP n d ss k) (depthP (endV n (boxN n d) (ss.take (k + 1)) i))
        | some (.lift i _ _) => max (wayP n d ss k) (depthP (endV n (boxN n d) (ss.take (k + 1)) i))
        | _ => wayP n d ss k)
      rw [hs]
      exact Nat.le_max_right _ _
    · refine same i hi fun x hx => ?_
      rw [out_step (n := n) hs]
      show ((playF (ss.take k) x).set t _).getD i 0 = _
      rw [List.getD_eq_getElem?_getD, List.getElem?_set_ne (by omega)]
      unfold outF
      rw [List.getD_eq_getElem?_getD]
  | lift t ws sh =>
    by_cases e : i = t
    · subst e
      show _ ≤ (match ss[k]? with
        | some (.turn i) => max (wayP n d ss k) (depthP (endV n (boxN n d) (ss.take (k + 1)) i))
        | some (.lift i _ _) => max (wayP n d ss k) (depthP (endV n (boxN n d) (ss.take (k + 1)) i))
        | _ => wayP n d ss k)
      rw [hs]
      exact Nat.le_max_right _ _
    · refine same i hi fun x hx => ?_
      rw [out_step (n := n) hs]
      show ((playF (ss.take k) x).set t _).getD i 0 = _
      rw [List.getD_eq_getElem?_getD, List.getElem?_set_ne (by omega)]
      unfold outF
      rw [List.getD_eq_getElem?_getD]
  | swap a b =>
    obtain ⟨oa, ob, ab⟩ := o
    by_cases e : i = b
    · subst e
      refine same a oa fun x hx => ?_
      rw [out_step (n := n) hs]
      show (((playF (ss.take k) x).set a _).set i _).getD i 0 = _
      rw [List.getD_eq_getElem?_getD, List.getElem?_set_self (by rw [List.length_set, len x hx]; exact hi)]
      rfl
    · by_cases f : i = a
      · subst f
        refine same b ob fun x hx => ?_
        rw [out_step (n := n) hs]
        show (((playF (ss.take k) x).set i _).set b _).getD i 0 = _
        rw [List.getD_eq_getElem?_getD, List.getElem?_set_ne (by omega), List.getElem?_set_self (by rw [len x hx]; exact hi)]
        rfl
      · refine same i hi fun x hx => ?_
        rw [out_step (n := n) hs]
        show (((playF (ss.take k) x).set a _).set b _).getD i 0 = _
        rw [List.getD_eq_getElem?_getD, List.getElem?_set_ne (by omega), List.getElem?_set_ne (by omega)]
        unfold outF
        rw [List.getD_eq_getElem?_getD]
theorem way_none {n d : Nat} (hd : 1 ≤ d) {i : Nat} (hi : i < n) : depthP (endV n (boxN n d) [] i) = d := by
  have k : EndB (boxN n d) (outF [] i) (List.replicate n (-hN d)) (List.replicate n (hN d - 1)) := by
    have h0 := hN_pos d
    have r : ∀ (v : Int) (k : Nat), k < n → (List.replicate n v).getD k 0 = v := fun v k hk => by
      rw [getD_lt (by rw [List.length_replicate]; exact hk)]
      exact List.getElem_replicate _
    refine ⟨in_boxN.mpr ⟨List.length_replicate, fun k hk => by rw [r _ k hk]; omega⟩, in_boxN.mpr ⟨List.length_replicate, fun k hk => by rw [r _ k hk]; omega⟩, fun x hx => ?_⟩
    have := (in_boxN.mp hx).2 i hi
    show (List.replicate n (-hN d)).getD i 0 ≤ x.getD i 0 ∧ x.getD i 0 ≤ (List.replicate n (hN d - 1)).getD i 0
    rw [r _ i hi, r _ i hi]
    omega
  rw [endV_eq (fun s h => absurd h List.not_mem_nil) hi (boxN_len n d) k]
  have e1 : outF [] i (List.replicate n (-hN d)) = -hN d := by
    show (List.replicate n (-hN d)).getD i 0 = -hN d
    rw [getD_lt (by rw [List.length_replicate]; exact hi)]
    exact List.getElem_replicate _
  have e2 : outF [] i (List.replicate n (hN d - 1)) = hN d - 1 := by
    show (List.replicate n (hN d - 1)).getD i 0 = hN d - 1
    rw [getD_lt (by rw [List.length_replicate]; exact hi)]
    exact List.getElem_replicate _
  rw [e1, e2]
  have h0 := hN_pos d
  have up : depthP (-hN d, hN d - 1) ≤ d := by
    have := (depth_le (p := (-hN d, hN d - 1)) (e := d - 1)).mpr (by rw [← hN_eq]; dsimp only; omega)
    omega
  refine Nat.le_antisymm up ?_
  rcases Nat.lt_or_ge (depthP (-hN d, hN d - 1)) d with c | c
  · exfalso
    have q := depth_pos (-hN d, hN d - 1)
    have := (depth_le (p := (-hN d, hN d - 1)) (e := d - 2)).mp (by omega)
    dsimp only at this
    have p2 : hN d = 2 * 2 ^ (d - 2) := by
      rw [hN_eq, show d - 1 = (d - 2) + 1 by omega, Int.pow_succ]
      omega
    have := p2_pos (d - 2)
    omega
  · exact c
theorem way_all {n d : Nat} {ss : List Step} (ok : ∀ s ∈ ss, s.ok n) (hd : 1 ≤ d) : ∀ k, k ≤ ss.length → ∀ i, i < n → depthP (endV n (boxN n d) (ss.take k) i) ≤ wayP n d ss k
  | 0, _, i, hi => by
    rw [List.take_zero, way_none hd hi]
    exact Nat.le_refl _
  | k + 1, hk, i, hi => way_step ok (List.getElem?_eq_getElem (by omega)) hi hd (way_all ok hd k (by omega))
theorem way_at {n d : Nat} {ss : List Step} {m : Nat} (ok : ∀ s ∈ ss, s.ok n) : ∀ k, k ≤ ss.length → d ≤ m → (∀ q, q < k → ∀ i, i < n → depthP (endV n (boxN n d) (ss.take (q + 1)) i) ≤ m) → wayP n d ss k ≤ m
  | 0, _, h, _ => h
  | k + 1, hk, h, hq => by
    have ih := way_at ok k (by omega) h fun q hq' => hq q (by omega)
    have hs : ss[k]? = some ss[k] := List.getElem?_eq_getElem (by omega)
    have o := ok _ (List.getElem_mem (show k < ss.length by omega))
    show (match ss[k]? with
      | some (.turn i) => max (wayP n d ss k) (depthP (endV n (boxN n d) (ss.take (k + 1)) i))
      | some (.lift i _ _) => max (wayP n d ss k) (depthP (endV n (boxN n d) (ss.take (k + 1)) i))
      | _ => wayP n d ss k) ≤ m
    rw [hs]
    generalize ss[k] = s at o
    cases s with
    | turn t => exact Nat.max_le.mpr ⟨ih, hq k (by omega) t o⟩
    | lift t ws sh => exact Nat.max_le.mpr ⟨ih, hq k (by omega) t o.1⟩
    | swap a b => exact ih
/-- the greatest depth behind all steps is that of the ways that they change -/
theorem way_due {n d m : Nat} {ss : List Step} (ok : ∀ s ∈ ss, s.ok n) (hd : 1 ≤ d) (h1 : m = d ∨ ∃ k, k < ss.length ∧ ∃ i, i < n ∧ m = depthP (endV n (boxN n d) (ss.take (k + 1)) i)) (h2 : d ≤ m) (h3 : ∀ k, k < ss.length → ∀ i, i < n → depthP (endV n (boxN n d) (ss.take (k + 1)) i) ≤ m) : m = wayP n d ss ss.length := by
  refine Nat.le_antisymm ?_ (way_at ok _ (Nat.le_refl _) h2 h3)
  rcases h1 with rfl | ⟨k, hk, i, hi, rfl⟩
  · exact way_le (k := 0) (Nat.zero_le _)
  · exact Nat.le_trans (way_all ok hd (k + 1) hk i hi) (way_le hk)
/-- nothing is more at a lesser depth -/
theorem depth_mono {n d d' : Nat} {ss : List Step} (ok : ∀ s ∈ ss, s.ok n) {i : Nat} (hi : i < n) (h : d' ≤ d) : depthP (endV n (boxN n d') ss i) ≤ depthP (endV n (boxN n d) ss i) := by
  obtain ⟨c', e', h1, k1⟩ := endV_ok ok hi (boxN_len n d') (boxN_some n d')
  have hh : hN d' ≤ hN d := by
    unfold hN
    exact Int.ofNat_le.mpr (Nat.pow_le_pow_right (by decide) (by omega))
  have inn : ∀ {x}, InB (boxN n d') x → InB (boxN n d) x := fun {x} hx => by
    obtain ⟨a, b⟩ := in_boxN.mp hx
    exact in_boxN.mpr ⟨a, fun k hk => by have := b k hk; omega⟩
  have a1 := endV_in ok hi (boxN_len n d) (inn k1.1)
  have a2 := endV_in ok hi (boxN_len n d) (inn k1.2.1)
  have q := depth_pos (endV n (boxN n d) ss i)
  obtain ⟨e, he⟩ : ∃ e, depthP (endV n (boxN n d) ss i) = e + 1 := ⟨depthP (endV n (boxN n d) ss i) - 1, by omega⟩
  have b := depth_le.mp (Nat.le_of_eq he)
  rw [he]
  refine depth_le.mpr ?_
  rw [h1]
  dsimp only
  omega
/-- what comes out keeps within its depth -/
theorem depth_keeps {n d : Nat} {ss : List Step} (ok : ∀ s ∈ ss, s.ok n) {i : Nat} (hi : i < n) {x : List Int} (hx : InB (boxN n d) x) : -(2 ^ (depthP (endV n (boxN n d) ss i) - 1)) ≤ outF ss i x ∧ outF ss i x < 2 ^ (depthP (endV n (boxN n d) ss i) - 1) := by
  have a := endV_in ok hi (boxN_len n d) hx
  have q := depth_pos (endV n (boxN n d) ss i)
  have b := (depth_le (p := endV n (boxN n d) ss i) (e := depthP (endV n (boxN n d) ss i) - 1)).mp (by omega)
  omega
end My

namespace My
/-! ### within a depth: each step's numbers led back among the samples -/
def wrapN (h x : Int) : Int := (x + h) % (2 * h) - h
def wrapS (h way : Int) (s : Step) (x : List Int) : List Int := (stepF way s x).map (wrapN h)
def inS (h : Int) (ss : List Step) (x : List Int) : List Int := ss.foldl (fun x s => wrapS h 1 s x) x
def outS (h : Int) (ss : List Step) (x : List Int) : List Int := ss.reverse.foldl (fun x s => wrapS h (-1) s x) x
def Bx (h : Int) (x : List Int) : Prop := ∀ v ∈ x, -h ≤ v ∧ v < h
theorem wrap_id {h x : Int} (h0 : 0 < h) (a : -h ≤ x) (b : x < h) : wrapN h x = x := by
  unfold wrapN
  rw [Int.emod_eq_of_lt (by omega) (by omega)]
  omega
theorem wrap_in {h : Int} (h0 : 0 < h) (x : Int) : -h ≤ wrapN h x ∧ wrapN h x < h := by
  have a := Int.emod_nonneg (x + h) (show 2 * h ≠ 0 by omega)
  have b := Int.emod_lt_of_pos (x + h) (show 0 < 2 * h by omega)
  unfold wrapN
  omega
theorem wrap_far (h x k : Int) : wrapN h (x + 2 * h * k) = wrapN h x := by
  unfold wrapN
  rw [show x + 2 * h * k + h = x + h + 2 * h * k by omega, Int.add_mul_emod_self_left]
theorem wrap_part (h x : Int) : wrapN h x = x + 2 * h * (-((x + h) / (2 * h))) := by
  unfold wrapN
  have := Int.emod_add_mul_ediv (x + h) (2 * h)
  rw [Int.mul_neg]
  omega
theorem wrap_add (h a b : Int) : wrapN h (wrapN h a + b) = wrapN h (a + b) := by
  rw [wrap_part h a, show a + 2 * h * (-((a + h) / (2 * h))) + b = a + b + 2 * h * (-((a + h) / (2 * h))) by omega, wrap_far]
theorem wrap_neg (h a : Int) : wrapN h (0 - wrapN h (0 - a)) = wrapN h a := by
  rw [wrap_part h (0 - a)]
  have e : ∀ k, 0 - (0 - a + 2 * h * -k) = a + 2 * h * k := fun k => by
    rw [Int.mul_neg]
    omega
  rw [e, wrap_far]
theorem Bx.map {h : Int} (h0 : 0 < h) (x : List Int) : Bx h (x.map (wrapN h)) := fun v hv => by
  obtain ⟨w, _, rfl⟩ := List.mem_map.mp hv
  exact wrap_in h0 w
theorem Bx.id {h : Int} (h0 : 0 < h) {x : List Int} (b : Bx h x) : x.map (wrapN h) = x := by
  conv => rhs; rw [← List.map_id x]
  exact List.map_congr_left fun v hv => wrap_id h0 (b v hv).1 (b v hv).2
theorem Bx.at {h : Int} {x : List Int} (b : Bx h x) {i : Nat} (hi : i < x.length) : -h ≤ x.getD i 0 ∧ x.getD i 0 < h := by
  refine b _ ?_
  rw [List.getD_eq_getElem?_getD, List.getElem?_eq_getElem hi]
  exact List.getElem_mem hi
theorem wrapS_len (h way : Int) (s : Step) (x : List Int) : (wrapS h way s x).length = x.length := by
  unfold wrapS
  rw [List.length_map, stepF_len]
theorem wrapS_bx {h : Int} (h0 : 0 < h) (way : Int) (s : Step) (x : List Int) : Bx h (wrapS h way s x) := Bx.map h0 _
theorem wrapS_lift {h : Int} (h0 : 0 < h) (way : Int) {t : Nat} {ws : List Int} {sh : Nat} {x : List Int} (b : Bx h x) : wrapS h way (.lift t ws sh) x = x.set t (wrapN h (x.getD t 0 + way * (dotP ws x / 2 ^ sh))) := by
  unfold wrapS stepF
  rw [List.map_set, Bx.id h0 b]
theorem wrapS_turn {h : Int} (h0 : 0 < h) (way : Int) {i : Nat} {x : List Int} (b : Bx h x) : wrapS h way (.turn i) x = x.set i (wrapN h (0 - x.getD i 0)) := by
  unfold wrapS stepF
  rw [List.map_set, Bx.id h0 b]
theorem wrapS_swap {h : Int} (h0 : 0 < h) (way : Int) {i j : Nat} {x : List Int} (b : Bx h x) (hi : i < x.length) (hj : j < x.length) : wrapS h way (.swap i j) x = (x.set i (x.getD j 0)).set j (x.getD i 0) := by
  unfold wrapS stepF
  rw [List.map_set, List.map_set, Bx.id h0 b, wrap_id h0 (b.at hi).1 (b.at hi).2, wrap_id h0 (b.at hj).1 (b.at hj).2]
theorem set_id {x : List Int} {i : Nat} : (x.set i (x.getD i 0)) = x := by
  by_cases hi : i < x.length
  · refine ext_getD (by rw [List.length_set]) fun k _ => ?_
    rw [getD_set hi]
    by_cases c : i = k
    · rw [if_pos c, c]
    · rw [if_neg c]
  · exact List.set_eq_of_length_le (by omega)
theorem wrap_step_back {h : Int} (h0 : 0 < h) (way : Int) {s : Step} {x : List Int} (ok : s.ok x.length) (b : Bx h x) : wrapS h (-way) s (wrapS h way s x) = x := by
  cases s with
  | turn i =>
    have hi : i < x.length := ok
    rw [wrapS_turn h0 (-way) (wrapS_bx h0 way _ x), wrapS_turn h0 way b, getD_set hi, if_pos rfl, wrap_neg, wrap_id h0 (b.at hi).1 (b.at hi).2, List.set_set, set_id]
  | swap i j =>
    have e := step_back way (s := .swap i j) ok
    obtain ⟨hi, hj, hij⟩ : i < x.length ∧ j < x.length ∧ i ≠ j := ok
    rw [wrapS_swap h0 (-way) (wrapS_bx h0 way _ x) (by rw [wrapS_len]; exact hi) (by rw [wrapS_len]; exact hj), wrapS_swap h0 way b hi hj]
    exact e
  | lift t ws sh =>
    obtain ⟨ht, hl, hz, _, _⟩ : t < x.length ∧ ws.length = x.length ∧ ws.getD t 0 = 0 ∧ sh ≤ 15 ∧ _ := ok
    rw [wrapS_lift h0 (-way) (wrapS_bx h0 way _ x), wrapS_lift h0 way b, getD_set ht, if_pos rfl, dot_set _ _ _ _ hz, List.set_set, wrap_add, Int.neg_mul]
    have e : x.getD t 0 + way * (dotP ws x / 2 ^ sh) + -(way * (dotP ws x / 2 ^ sh)) = x.getD t 0 := by omega
    rw [e, wrap_id h0 (b.at ht).1 (b.at ht).2, set_id]
theorem outS_cons (h : Int) (s : Step) (ss : List Step) (x : List Int) : outS h (s :: ss) x = wrapS h (-1) s (outS h ss x) := by
  unfold outS
  rw [List.reverse_cons, List.foldl_append]
  rfl
theorem inS_len (h : Int) : ∀ (ss : List Step) (x : List Int), (inS h ss x).length = x.length
  | [], _ => rfl
  | s :: ss, x => by
    show (inS h ss (wrapS h 1 s x)).length = _
    rw [inS_len h ss, wrapS_len]
theorem outS_len (h : Int) : ∀ (ss : List Step) (x : List Int), (outS h ss x).length = x.length
  | [], _ => rfl
  | s :: ss, x => by rw [outS_cons, wrapS_len, outS_len h ss]
theorem inS_bx {h : Int} (h0 : 0 < h) : ∀ (ss : List Step) (x : List Int), Bx h x → Bx h (inS h ss x)
  | [], _, b => b
  | s :: ss, x, _ => inS_bx h0 ss (wrapS h 1 s x) (wrapS_bx h0 1 s x)
theorem outS_bx {h : Int} (h0 : 0 < h) : ∀ (ss : List Step) (x : List Int), Bx h x → Bx h (outS h ss x)
  | [], _, b => b
  | s :: ss, x, _ => by rw [outS_cons]; exact wrapS_bx h0 (-1) s _
theorem out_in {h : Int} (h0 : 0 < h) {n : Nat} : ∀ {ss : List Step} {x : List Int}, (∀ s ∈ ss, s.ok n) → x.length = n → Bx h x → outS h ss (inS h ss x) = x
  | [], _, _, _, _ => rfl
  | s :: ss, x, ok, hx, b => by
    rw [outS_cons]
    show wrapS h (-1) s (outS h ss (inS h ss (wrapS h 1 s x))) = x
    rw [out_in h0 (fun t ht => ok t (List.mem_cons_of_mem _ ht)) (by rw [wrapS_len, hx]) (wrapS_bx h0 1 s x)]
    exact wrap_step_back h0 1 (hx ▸ ok s List.mem_cons_self) b
theorem in_out {h : Int} (h0 : 0 < h) {n : Nat} : ∀ {ss : List Step} {x : List Int}, (∀ s ∈ ss, s.ok n) → x.length = n → Bx h x → inS h ss (outS h ss x) = x
  | [], _, _, _, _ => rfl
  | s :: ss, x, ok, hx, b => by
    rw [outS_cons]
    show inS h ss (wrapS h 1 s (wrapS h (-1) s (outS h ss x))) = x
    have e := wrap_step_back h0 (-1) (s := s) (x := outS h ss x) (by rw [outS_len, hx]; exact ok s List.mem_cons_self) (outS_bx h0 ss x b)
    rw [Int.neg_neg] at e
    rw [e, in_out h0 (fun t ht => ok t (List.mem_cons_of_mem _ ht)) hx b]
/-! #### all rows, in order -/
theorem rng_pair (lo : Int) (n : Nat) : (rngI lo n).Pairwise (· < ·) := by
  unfold rngI
  rw [List.pairwise_map]
  exact List.pairwise_lt_range.imp fun h => by omega
theorem snoc_lt : ∀ {r q : List Int} (a b : Int), r < q → r.length = q.length → r ++ [a] < q ++ [b]
  | [], [], _, _, h, _ => absurd h (List.lt_irrefl _)
  | [], _ :: _, _, _, _, h => by simp at h
  | _ :: _, [], _, _, _, h => by simp at h
  | x :: r, y :: q, a, b, h, hl => by
    rcases List.cons_lt_cons_iff.mp h with h | ⟨h, k⟩
    · exact List.cons_lt_cons_iff.mpr (.inl h)
    · exact List.cons_lt_cons_iff.mpr (.inr ⟨h, snoc_lt a b k (by simpa using hl)⟩)
theorem snoc_lt2 : ∀ (r : List Int) {a b : Int}, a < b → r ++ [a] < r ++ [b]
  | [], _, _, h => List.cons_lt_cons_iff.mpr (.inl h)
  | _ :: r, _, _, h => List.cons_lt_cons_iff.mpr (.inr ⟨rfl, snoc_lt2 r h⟩)
theorem lists_pair {vals : List Int} (hv : vals.Pairwise (· < ·)) : ∀ n : Nat, (listsF vals n).Pairwise (· < ·)
  | 0 => List.pairwise_singleton _ _
  | n + 1 => by
    show ((listsF vals n).flatMap fun row => vals.map fun v => row ++ [v]).Pairwise _
    rw [List.pairwise_flatMap]
    refine ⟨fun r _ => ?_, ?_⟩
    · rw [List.pairwise_map]
      exact hv.imp fun h => snoc_lt2 r h
    · refine (List.Pairwise.imp_of_mem (fun {r q} hr hq h x hx y hy => ?_) (lists_pair hv n))
      obtain ⟨a, _, rfl⟩ := List.mem_map.mp hx
      obtain ⟨b, _, rfl⟩ := List.mem_map.mp hy
      exact snoc_lt a b h (by rw [(mem_listsF.mp hr).1, (mem_listsF.mp hq).1])
theorem lists_nodup {vals : List Int} (hv : vals.Pairwise (· < ·)) (n : Nat) : (listsF vals n).Nodup :=
  List.Pairwise.imp (fun {a b} (h : a < b) (e : a = b) => List.lt_irrefl b (by rw [e] at h; exact h)) (lists_pair hv n)
theorem box_mem {h n : Nat} {x : List Int} : x ∈ listsF (rngI (-(h : Int)) (2 * h)) n ↔ x.length = n ∧ Bx h x := by
  rw [mem_listsF]
  refine ⟨fun ⟨a, b⟩ => ⟨a, fun v hv => by have := mem_rngI.mp (b v hv); omega⟩, fun ⟨a, b⟩ => ⟨a, fun v hv => mem_rngI.mpr (by have := b v hv; omega)⟩⟩
/-- mixed within the depth all samples come out once -/
theorem all_perm {h n : Nat} (h0 : 0 < h) {ss : List Step} (ok : ∀ s ∈ ss, s.ok n) : ((listsF (rngI (-(h : Int)) (2 * h)) n).map (inS h ss)).Perm (listsF (rngI (-(h : Int)) (2 * h)) n) := by
  have h0' : (0 : Int) < (h : Int) := Int.natCast_pos.mpr h0
  have nd := lists_nodup (rng_pair (-(h : Int)) (2 * h)) n
  have nd2 : ((listsF (rngI (-(h : Int)) (2 * h)) n).map (inS h ss)).Nodup := by
    unfold List.Nodup
    rw [List.pairwise_map]
    refine List.Pairwise.imp_of_mem (fun {r q} hr hq hne e => hne ?_) nd
    obtain ⟨a1, a2⟩ := box_mem.mp hr
    obtain ⟨b1, b2⟩ := box_mem.mp hq
    rw [← out_in h0' ok a1 a2, ← out_in h0' ok b1 b2, e]
  refine (List.perm_ext_iff_of_nodup nd2 nd).mpr fun x => ⟨fun hx => ?_, fun hx => ?_⟩
  · obtain ⟨y, hy, rfl⟩ := List.mem_map.mp hx
    obtain ⟨a1, a2⟩ := box_mem.mp hy
    exact box_mem.mpr ⟨by rw [inS_len, a1], inS_bx h0' ss y a2⟩
  · obtain ⟨a1, a2⟩ := box_mem.mp hx
    exact List.mem_map.mpr ⟨outS h ss x, box_mem.mpr ⟨by rw [outS_len, a1], outS_bx h0' ss x a2⟩, in_out h0' ok a1 a2⟩
theorem sorted_all {h n : Nat} (h0 : 0 < h) {ss : List Step} (ok : ∀ s ∈ ss, s.ok n) {rows : List (List Int)} (p : rows.Perm ((listsF (rngI (-(h : Int)) (2 * h)) n).map (inS h ss))) (s : rows.Pairwise (· ≤ ·)) : rows = listsF (rngI (-(h : Int)) (2 * h)) n :=
  List.Perm.eq_of_pairwise (fun a b _ _ h1 h2 => List.le_antisymm h1 h2) s ((lists_pair (rng_pair (-(h : Int)) (2 * h)) n).imp fun h => List.le_of_lt h) (p.trans (all_perm h0 ok))
/-! ### what undoes -/
def backR : Step → List Step
  | .turn i => [.turn i]
  | .swap i j => [.swap i j]
  | .lift t ws sh => if sh = 0 then [.lift t (ws.map fun w => 0 - w) 0] else [.turn t, .lift t ws sh, .turn t]
theorem backR_lift (t : Nat) (ws : List Int) (sh : Nat) : backR (.lift t ws sh) = if sh = 0 then [.lift t (ws.map fun w => 0 - w) 0] else [.turn t, .lift t ws sh, .turn t] := rfl
def undoF (ss : List Step) : List Step := ss.reverse.flatMap backR
theorem play_app (A B : List Step) (x : List Int) : playF (A ++ B) x = playF B (playF A x) := by
  unfold playF
  rw [List.foldl_append]
theorem dot_neg2 (ws x : List Int) : dotP (ws.map fun w => 0 - w) x = 0 - dotP ws x := dot_neg ws x
theorem play_backR {s : Step} {x : List Int} (ok : s.ok x.length) : playF (backR s) x = stepF (-1) s x := by
  cases s with
  | turn i => rfl
  | swap i j => rfl
  | lift t ws sh =>
    obtain ⟨ht, hl, hz, _, _⟩ : t < x.length ∧ ws.length = x.length ∧ ws.getD t 0 = 0 ∧ sh ≤ 15 ∧ _ := ok
    rw [backR_lift]
    by_cases c : sh = 0
    · rw [if_pos c, c]
      show x.set t (x.getD t 0 + 1 * (dotP (ws.map fun w => 0 - w) x / 2 ^ 0)) = x.set t (x.getD t 0 + -1 * (dotP ws x / 2 ^ 0))
      rw [dot_neg2, Int.pow_zero, Int.ediv_one, Int.ediv_one]
      congr 1
      omega
    · rw [if_neg c]
      show (((x.set t (0 - x.getD t 0)).set t ((x.set t (0 - x.getD t 0)).getD t 0 + 1 * (dotP ws (x.set t (0 - x.getD t 0)) / 2 ^ sh))).set t (0 - ((x.set t (0 - x.getD t 0)).set t ((x.set t (0 - x.getD t 0)).getD t 0 + 1 * (dotP ws (x.set t (0 - x.getD t 0)) / 2 ^ sh))).getD t 0)) = x.set t (x.getD t 0 + -1 * (dotP ws x / 2 ^ sh))
      rw [List.set_set, List.set_set, getD_set (by rw [List.length_set]; exact ht), if_pos rfl, getD_set ht, if_pos rfl, dot_set _ _ _ _ hz]
      congr 1
      omega
theorem play_undo {n : Nat} : ∀ {ss : List Step} {x : List Int}, (∀ s ∈ ss, s.ok n) → x.length = n → playF (undoF ss) x = backF ss x
  | [], _, _, _ => rfl
  | s :: ss, x, ok, hx => by
    rw [back_cons]
    unfold undoF
    rw [List.reverse_cons, List.flatMap_append, play_app]
    have ih := play_undo (ss := ss) (x := x) (fun t ht => ok t (List.mem_cons_of_mem _ ht)) hx
    unfold undoF at ih
    rw [ih, List.flatMap_cons, List.flatMap_nil, List.append_nil]
    exact play_backR (by rw [back_len, hx]; exact ok s List.mem_cons_self)
theorem backR_ok {n : Nat} {s : Step} (ok : s.ok n) : ∀ r ∈ backR s, r.ok n := by
  cases s with
  | turn i => intro r hr; rw [List.mem_singleton.mp hr]; exact ok
  | swap i j => intro r hr; rw [List.mem_singleton.mp hr]; exact ok
  | lift t ws sh =>
    obtain ⟨ht, hl, hz, hs, hw⟩ := id ok
    intro r hr
    rw [backR_lift] at hr
    by_cases c : sh = 0
    · rw [if_pos c] at hr
      rw [List.mem_singleton.mp hr]
      refine ⟨ht, by rw [List.length_map, hl], ?_, by decide, fun w hw' => ?_⟩
      · rw [List.getD_eq_getElem?_getD] at hz ⊢
        rw [List.getElem?_map]
        rw [List.getElem?_eq_getElem (show t < ws.length by omega)] at hz ⊢
        simp only [Option.map_some, Option.getD_some] at hz ⊢
        omega
      · obtain ⟨y, hy, rfl⟩ := List.mem_map.mp hw'
        have := hw y hy
        omega
    · rw [if_neg c] at hr
      rcases List.mem_cons.mp hr with rfl | hr
      · exact ht
      · rcases List.mem_cons.mp hr with rfl | hr
        · exact ok
        · rw [List.mem_singleton.mp hr]
          exact ht
theorem undo_ok {n : Nat} {ss : List Step} (ok : ∀ s ∈ ss, s.ok n) : ∀ r ∈ undoF ss, r.ok n := fun r hr => by
  obtain ⟨s, hs, h⟩ := List.mem_flatMap.mp hr
  exact backR_ok (ok s (List.mem_reverse.mp hs)) r h
theorem backR_bits (s : Step) : bitsS (backR s) = shS s := by
  cases s with
  | turn i => rfl
  | swap i j => rfl
  | lift t ws sh =>
    rw [backR_lift]
    by_cases c : sh = 0
    · rw [if_pos c, c]
      rfl
    · rw [if_neg c]
      show 0 + (sh + (0 + 0)) = sh
      omega
theorem backR_len (s : Step) : (backR s).length ≤ 3 := by
  cases s with
  | turn i => exact (by decide : 1 ≤ 3)
  | swap i j => exact (by decide : 1 ≤ 3)
  | lift t ws sh =>
    rw [backR_lift]
    split <;> simp
theorem undo_len (ss : List Step) : (undoF ss).length ≤ 3 * ss.length := by
  have k : ∀ l : List Step, (l.flatMap backR).length ≤ 3 * l.length := fun l => by
    induction l with
    | nil => simp
    | cons s l ih =>
      rw [List.flatMap_cons, List.length_append, List.length_cons]
      have := backR_len s
      omega
  have := k ss.reverse
  rw [List.length_reverse] at this
  exact this
theorem undo_bits0 {ss : List Step} (h : ∀ s ∈ ss, shS s = 0) : ∀ s ∈ undoF ss, shS s = 0 := fun r hr => by
  obtain ⟨s, hs, k⟩ := List.mem_flatMap.mp hr
  have h1 := h s (List.mem_reverse.mp hs)
  cases s with
  | turn i => rw [List.mem_singleton.mp k]; rfl
  | swap i j => rw [List.mem_singleton.mp k]; rfl
  | lift t ws sh =>
    have h2 : sh = 0 := h1
    rw [backR_lift, if_pos h2] at k
    rw [List.mem_singleton.mp k]
    rfl
theorem bits_zero {ss : List Step} (h : ∀ s ∈ ss, shS s = 0) : bitsS ss = 0 := by
  induction ss with
  | nil => rfl
  | cons s ss ih =>
    show shS s + bitsS ss = 0
    rw [h s List.mem_cons_self, ih fun t ht => h t (List.mem_cons_of_mem _ ht)]
/-! ### how often until all comes back -/
def itF (ss : List Step) : Nat → List Int → List Int
  | 0, x => x
  | k + 1, x => playF ss (itF ss k x)
def mulM (n : Nat) (A B : List (List Int)) : List (List Int) := A.map fun l => (List.range n).map fun k => dotP l (colM B k)
def powM (n : Nat) (ss : List Step) : Nat → List (List Int)
  | 0 => unitM n
  | k + 1 => mulM n (numF n ss) (powM n ss k)
theorem itF_len (ss : List Step) : ∀ (k : Nat) (x : List Int), (itF ss k x).length = x.length
  | 0, _ => rfl
  | k + 1, x => by
    show (playF ss (itF ss k x)).length = _
    rw [play_len, itF_len ss k]
theorem itF_comm (ss : List Step) : ∀ (k : Nat) (x : List Int), itF ss k (playF ss x) = playF ss (itF ss k x)
  | 0, _ => rfl
  | k + 1, x => by
    show playF ss (itF ss k (playF ss x)) = _
    rw [itF_comm ss k x]
    rfl
theorem zero_play {n : Nat} : ∀ {ss : List Step}, (∀ s ∈ ss, s.ok n) → playF ss (List.replicate n 0) = List.replicate n 0
  | [], _ => rfl
  | s :: ss, ok => by
    show playF ss (stepF 1 s (List.replicate n 0)) = _
    have z : ∀ k, (List.replicate n (0 : Int)).getD k 0 = 0 := fun k => by
      rw [List.getD_eq_getElem?_getD, List.getElem?_replicate]
      split <;> rfl
    have d : ∀ (ws : List Int) (m : Nat), dotP ws (List.replicate m 0) = 0 := fun ws => by
      induction ws with
      | nil => intro m; cases m <;> rfl
      | cons w ws ih =>
        intro m
        cases m with
        | zero => rfl
        | succ m =>
          rw [List.replicate_succ]
          show w * 0 + dotP ws (List.replicate m 0) = 0
          rw [ih, Int.mul_zero]
          rfl
    have st : ∀ (i : Nat), (List.replicate n (0 : Int)).set i 0 = List.replicate n 0 := fun i => by
      have := set_id (x := List.replicate n 0) (i := i)
      rw [z] at this
      exact this
    have e : stepF 1 s (List.replicate n 0) = List.replicate n 0 := by
      cases s with
      | turn i =>
        show (List.replicate n (0 : Int)).set i (0 - (List.replicate n (0 : Int)).getD i 0) = _
        rw [z, Int.sub_zero, st]
      | swap i j =>
        show ((List.replicate n (0 : Int)).set i ((List.replicate n (0 : Int)).getD j 0)).set j ((List.replicate n (0 : Int)).getD i 0) = _
        rw [z, z, st, st]
      | lift t ws sh =>
        show (List.replicate n (0 : Int)).set t ((List.replicate n (0 : Int)).getD t 0 + 1 * (dotP ws (List.replicate n 0) / 2 ^ sh)) = _
        rw [z, d, Int.zero_ediv, Int.mul_zero, Int.add_zero, st]
    rw [e]
    exact zero_play fun t ht => ok t (List.mem_cons_of_mem _ ht)
theorem addM_zero {n : Nat} {x : List Int} (hx : x.length = n) : addM (List.replicate n 0) 1 x = x := by
  refine ext_getD (by rw [addM_len (by rw [List.length_replicate, hx]), List.length_replicate, hx]) fun i hi => ?_
  rw [addM_getD (by rw [List.length_replicate, hx])]
  have z : (List.replicate n (0 : Int)).getD i 0 = 0 := by
    rw [List.getD_eq_getElem?_getD, List.getElem?_replicate]
    split <;> rfl
  rw [z, Int.one_mul, Int.zero_add]
/-- without halvings a mixer does what its rows tell -/
theorem play_num {n : Nat} {ss : List Step} (ok : ∀ s ∈ ss, s.ok n) (hb : bitsS ss = 0) {x : List Int} (hx : x.length = n) : playF ss x = mulV (numF n ss) x := by
  have e := play_add (c := 1) ok (List.length_replicate (n := n) (a := (0 : Int))) hx
  rw [hb, Int.pow_zero, Int.one_mul, addM_zero hx, zero_play ok, addM_zero (by rw [mulV_len, (num_len ok).1])] at e
  exact e
theorem mulM_sq {n : Nat} {A B : List (List Int)} (hA : Sq n A) : Sq n (mulM n A B) := ⟨by unfold mulM; rw [List.length_map, hA.1], fun l hl => by
  obtain ⟨r, _, rfl⟩ := List.mem_map.mp hl
  rw [List.length_map, List.length_range]⟩
theorem mulM_mulV {n : Nat} {A B : List (List Int)} {x : List Int} (hB : Sq n B) (hx : x.length = n) : mulV (mulM n A B) x = mulV A (mulV B x) := by
  unfold mulM mulV
  rw [List.map_map]
  apply List.map_congr_left
  intro l _
  exact dot_cols l B x hB.2 hx
theorem pow_sq {n : Nat} {ss : List Step} (ok : ∀ s ∈ ss, s.ok n) : ∀ k, Sq n (powM n ss k)
  | 0 => unit_sq n
  | _ + 1 => mulM_sq (num_len ok)
theorem it_pow {n : Nat} {ss : List Step} (ok : ∀ s ∈ ss, s.ok n) (hb : bitsS ss = 0) {x : List Int} (hx : x.length = n) : ∀ k, itF ss k x = mulV (powM n ss k) x
  | 0 => (mul_unit hx).symm
  | k + 1 => by
    show playF ss (itF ss k x) = mulV (mulM n (numF n ss) (powM n ss k)) x
    rw [it_pow ok hb hx k, mulM_mulV (pow_sq ok k) hx, play_num ok hb (by rw [mulV_len, (pow_sq ok k).1])]
theorem unit_row {n j : Nat} (hj : j < n) : (unitM n).getD j [] = unitC 1 n j := by
  unfold unitM unitC
  rw [List.getD_eq_getElem?_getD, List.getElem?_map, List.getElem?_range hj, ← List.range_eq_range']
  rfl
theorem unit_mem {n : Nat} {r : List Int} : r ∈ unitM n ↔ ∃ j, j < n ∧ r = unitC 1 n j := by
  unfold unitM unitC
  rw [List.mem_map]
  constructor
  · rintro ⟨j, hj, rfl⟩
    exact ⟨j, List.mem_range.mp hj, by rw [List.range_eq_range']⟩
  · rintro ⟨j, hj, rfl⟩
    exact ⟨j, List.mem_range.mpr hj, by rw [List.range_eq_range']⟩
theorem pow_unit_iff {n : Nat} {ss : List Step} (ok : ∀ s ∈ ss, s.ok n) (hb : bitsS ss = 0) (k : Nat) : powM n ss k = unitM n ↔ ∀ x, x.length = n → itF ss k x = x := by
  constructor
  · intro e x hx
    rw [it_pow ok hb hx, e, mul_unit hx]
  · intro h
    have sq := pow_sq ok k
    apply List.ext_getElem
    · rw [sq.1, (unit_sq n).1]
    · intro i h1 h2
      have hi : i < n := by rw [← sq.1]; exact h1
      have l1 := sq.2 _ (List.getElem_mem h1)
      have l2 := (unit_sq n).2 _ (List.getElem_mem h2)
      refine ext_getD (by rw [l1, l2]) fun j hj => ?_
      have hj' : j < n := by rw [← l1]; exact hj
      have e := h (unitC 1 n j) (unitC_len 1 n j)
      rw [it_pow ok hb (unitC_len 1 n j)] at e
      have e2 : (mulV (powM n ss k) (unitC 1 n j)).getD i 0 = (unitC 1 n j).getD i 0 := by rw [e]
      have g1 : (powM n ss k).getD i [] = (powM n ss k)[i] := by rw [List.getD_eq_getElem?_getD, List.getElem?_eq_getElem h1]; rfl
      have g2 : (unitM n)[i] = unitC 1 n i := by
        rw [← unit_row hi, List.getD_eq_getElem?_getD, List.getElem?_eq_getElem h2]
        rfl
      rw [mul_getD, g1, dot_unitC 1 l1 j hj', unitC_getD hi, Int.one_mul] at e2
      rw [e2, g2, unitC_getD hj']
      by_cases c : j = i
      · rw [if_pos c, if_pos c.symm]
      · rw [if_neg c, if_neg fun z => c z.symm]
theorem rows_unit_iff {n : Nat} {ss : List Step} (ok : ∀ s ∈ ss, s.ok n) (hb : bitsS ss = 0) (k : Nat) : (unitM n).map (itF ss k) = unitM n ↔ ∀ x, x.length = n → itF ss k x = x := by
  constructor
  · intro e
    have each : ∀ j, j < n → itF ss k (unitC 1 n j) = unitC 1 n j := fun j hj => by
      have e2 : ((unitM n).map (itF ss k))[j]? = (unitM n)[j]? := by rw [e]
      have g : (unitM n)[j]? = some (unitC 1 n j) := by
        have lt : j < (unitM n).length := by rw [(unit_sq n).1]; exact hj
        rw [List.getElem?_eq_getElem lt, ← unit_row hj, List.getD_eq_getElem?_getD, List.getElem?_eq_getElem lt]
        rfl
      rw [List.getElem?_map, g] at e2
      exact Option.some.inj e2
    rw [← pow_unit_iff ok hb k]
    have sq := pow_sq ok k
    apply List.ext_getElem
    · rw [sq.1, (unit_sq n).1]
    · intro i h1 h2
      have hi : i < n := by rw [← sq.1]; exact h1
      have l1 := sq.2 _ (List.getElem_mem h1)
      have l2 := (unit_sq n).2 _ (List.getElem_mem h2)
      refine ext_getD (by rw [l1, l2]) fun j hj => ?_
      have hj' : j < n := by rw [← l1]; exact hj
      have e := each j hj'
      rw [it_pow ok hb (unitC_len 1 n j)] at e
      have e2 : (mulV (powM n ss k) (unitC 1 n j)).getD i 0 = (unitC 1 n j).getD i 0 := by rw [e]
      have g1 : (powM n ss k).getD i [] = (powM n ss k)[i] := by rw [List.getD_eq_getElem?_getD, List.getElem?_eq_getElem h1]; rfl
      have g2 : (unitM n)[i] = unitC 1 n i := by
        rw [← unit_row hi, List.getD_eq_getElem?_getD, List.getElem?_eq_getElem h2]
        rfl
      rw [mul_getD, g1, dot_unitC 1 l1 j hj', unitC_getD hi, Int.one_mul] at e2
      rw [e2, g2, unitC_getD hj']
      by_cases c : j = i
      · rw [if_pos c, if_pos c.symm]
      · rw [if_neg c, if_neg fun z => c z.symm]
  · intro h
    conv => rhs; rw [← List.map_id (unitM n)]
    apply List.map_congr_left
    intro r hr
    exact h r ((unit_sq n).2 r hr)
/-- the first number of times up to 12, or none -/
def ringN (n : Nat) (ss : List Step) : Option Nat := ((List.range 12).map (· + 1)).find? fun k => decide (powM n ss k = unitM n)
theorem ring_some {n k : Nat} {ss : List Step} (h : ringN n ss = some k) : powM n ss k = unitM n ∧ 1 ≤ k ∧ k ≤ 12 := by
  unfold ringN at h
  have h1 := List.find?_some h
  rw [decide_eq_true_eq] at h1
  have h2 := List.mem_of_find?_eq_some h
  obtain ⟨j, hj, rfl⟩ := List.mem_map.mp h2
  have := List.mem_range.mp hj
  exact ⟨h1, by omega, by omega⟩
/-- nothing ahead of k: the k-th is the one -/
theorem ring_first {n k : Nat} {ss : List Step} (hk : k < 12) (ahead : ∀ j, j < k → powM n ss (j + 1) ≠ unitM n) (h : powM n ss (k + 1) = unitM n) : ringN n ss = some (k + 1) := by
  have e : (List.range 12).map (· + 1) = (List.range k).map (· + 1) ++ (k + 1) :: ((List.range' (k + 1) (12 - (k + 1))).map (· + 1)) := by
    have : List.range 12 = List.range k ++ k :: List.range' (k + 1) (12 - (k + 1)) := by
      rw [List.range_eq_range', List.range_eq_range', show (12 : Nat) = k + (1 + (12 - (k + 1))) by omega]
      rw [← List.range'_append_1 (s := 0) (m := k)]
      congr 1
      rw [Nat.zero_add, Nat.add_comm 1, List.range'_succ]
      congr 2
      omega
    rw [this, List.map_append, List.map_cons]
  unfold ringN
  rw [e, List.find?_append]
  have z : ((List.range k).map (· + 1)).find? (fun k => decide (powM n ss k = unitM n)) = none := by
    rw [List.find?_eq_none]
    intro x hx
    obtain ⟨j, hj, rfl⟩ := List.mem_map.mp hx
    rw [decide_eq_true_eq]
    exact ahead j (List.mem_range.mp hj)
  rw [z, Option.none_or, List.find?_cons_of_pos (by exact decide_eq_true h)]
theorem ring_none {n : Nat} {ss : List Step} (h : ∀ j, j < 12 → powM n ss (j + 1) ≠ unitM n) : ringN n ss = none := by
  unfold ringN
  rw [List.find?_eq_none]
  intro x hx
  obtain ⟨j, hj, rfl⟩ := List.mem_map.mp hx
  rw [decide_eq_true_eq]
  exact h j (List.mem_range.mp hj)
theorem it_undo {n : Nat} {ss : List Step} (ok : ∀ s ∈ ss, s.ok n) : ∀ (k : Nat) {x : List Int}, x.length = n → itF (undoF ss) k (itF ss k x) = x
  | 0, _, _ => rfl
  | k + 1, x, hx => by
    show playF (undoF ss) (itF (undoF ss) k (playF ss (itF ss k x))) = x
    rw [← itF_comm (undoF ss), show playF (undoF ss) (playF ss (itF ss k x)) = itF ss k x from by rw [play_undo ok (by rw [play_len, itF_len, hx]), play_back ok (by rw [itF_len, hx])], it_undo ok k hx]
theorem it_undo2 {n : Nat} {ss : List Step} (ok : ∀ s ∈ ss, s.ok n) : ∀ (k : Nat) {x : List Int}, x.length = n → itF ss k (itF (undoF ss) k x) = x
  | 0, _, _ => rfl
  | k + 1, x, hx => by
    show playF ss (itF ss k (playF (undoF ss) (itF (undoF ss) k x))) = x
    rw [← itF_comm ss, show playF ss (playF (undoF ss) (itF (undoF ss) k x)) = itF (undoF ss) k x from by rw [play_undo ok (by rw [itF_len, hx]), back_play ok (by rw [itF_len, hx])], it_undo2 ok k hx]
theorem ring_undo {n : Nat} {ss : List Step} (ok : ∀ s ∈ ss, s.ok n) (h0 : ∀ s ∈ ss, shS s = 0) : ringN n (undoF ss) = ringN n ss := by
  unfold ringN
  congr 1
  funext k
  apply decide_eq_decide.mpr
  rw [pow_unit_iff (undo_ok ok) (bits_zero (undo_bits0 h0)), pow_unit_iff ok (bits_zero h0)]
  constructor
  · intro h x hx
    have := it_undo ok k hx
    rw [h _ (by rw [itF_len, hx])] at this
    exact this
  · intro h x hx
    have := it_undo2 ok k hx
    rw [h _ (by rw [itF_len, hx])] at this
    exact this
/-! #### how great the numbers are -/
theorem dot_bd2 {a b : Nat} : ∀ (ws xs : List Int), (∀ w ∈ ws, w.natAbs < 2 ^ a) → (∀ x ∈ xs, x.natAbs < 2 ^ b) → (dotP ws xs).natAbs ≤ ws.length * (2 ^ a * 2 ^ b)
  | [], xs, _, _ => by cases xs <;> simp [dotP]
  | _ :: _, [], _, _ => by simp [dotP]
  | w :: ws, x :: xs, hw, hx => by
    have ih := dot_bd2 ws xs (fun y hy => hw y (List.mem_cons_of_mem _ hy)) fun y hy => hx y (List.mem_cons_of_mem _ hy)
    show (w * x + dotP ws xs).natAbs ≤ (ws.length + 1) * (2 ^ a * 2 ^ b)
    have h1 : (w * x).natAbs ≤ 2 ^ a * 2 ^ b := by
      rw [Int.natAbs_mul]
      exact Nat.mul_le_mul (Nat.le_of_lt (hw w List.mem_cons_self)) (Nat.le_of_lt (hx x List.mem_cons_self))
    have h2 := Int.natAbs_add_le (w * x) (dotP ws xs)
    rw [Nat.add_mul, Nat.one_mul]
    omega
theorem mulM_bd {n a b : Nat} {A B : List (List Int)} (hn : n ≤ 4) (hA : Sq n A) (h1 : Bd a A) (h2 : Bd b B) : Bd (a + b + 3) (mulM n A B) := fun l hl x hx => by
  obtain ⟨r, hr, rfl⟩ := List.mem_map.mp hl
  obtain ⟨k, _, rfl⟩ := List.mem_map.mp hx
  have hc : ∀ y ∈ colM B k, y.natAbs < 2 ^ b := fun y hy => by
    obtain ⟨q, hq, rfl⟩ := List.mem_map.mp hy
    rw [List.getD_eq_getElem?_getD]
    cases e : q[k]? with
    | none => exact Nat.two_pow_pos b
    | some v => exact h2 q hq v (List.mem_of_getElem? e)
  have := dot_bd2 r (colM B k) (h1 r hr) hc
  rw [hA.2 r hr] at this
  have p : 2 ^ (a + b + 3) = 8 * (2 ^ a * 2 ^ b) := by
    rw [Nat.pow_add, Nat.pow_add, Nat.mul_comm]
  have q : 0 < 2 ^ a * 2 ^ b := Nat.mul_pos (Nat.two_pow_pos a) (Nat.two_pow_pos b)
  have m : n * (2 ^ a * 2 ^ b) ≤ 4 * (2 ^ a * 2 ^ b) := Nat.mul_le_mul_right _ hn
  rw [p]
  omega
theorem pow_bd {n : Nat} (hn : n ≤ 4) {ss : List Step} (ok : ∀ s ∈ ss, s.ok n) : ∀ k, Bd (1 + k * (4 + 18 * ss.length)) (powM n ss k)
  | 0 => by
    rw [Nat.zero_mul]
    exact unit_bd n
  | k + 1 => by
    have := mulM_bd hn (num_len ok) (num_bd hn ok (unit_sq n) (unit_bd n)) (pow_bd hn ok k)
    rw [show 1 + (k + 1) * (4 + 18 * ss.length) = 1 + 18 * ss.length + (1 + k * (4 + 18 * ss.length)) + 3 by rw [Nat.add_mul]; omega]
    exact this
end My

namespace My
open PySem PySem.Spec PyProof.Rows L2 Pre
theorem half_pow {d : Nat} (h : 1 ≤ d) : (1 : Int) * 2 ^ ((d : Int) - 1).toNat = ((2 ^ (d - 1) : Nat) : Int) := by
  rw [Int.one_mul, show ((d : Int) - 1).toNat = d - 1 by omega, Int.natCast_pow]
  rfl
theorem half_pos (d : Nat) : (0 : Int) < ((2 ^ (d - 1) : Nat) : Int) := Int.natCast_pos.mpr (Nat.two_pow_pos _)
theorem inS_take {h : Int} {ss : List Step} {i : Nat} {s : Step} (k : ss[i]? = some s) (x : List Int) : inS h (ss.take (i + 1)) x = wrapS h 1 s (inS h (ss.take i) x) := by
  unfold inS
  rw [take_snoc k, List.foldl_append]
  rfl
theorem outS_take {h : Int} {ss : List Step} {i : Nat} {s : Step} (k : ss.reverse[i]? = some s) (x : List Int) : (ss.reverse.take (i + 1)).foldl (fun x s => wrapS h (-1) s x) x = wrapS h (-1) s ((ss.reverse.take i).foldl (fun x s => wrapS h (-1) s x) x) := by
  rw [take_snoc k, List.foldl_append]
  rfl
theorem foldW_len (h way : Int) : ∀ (ss : List Step) (xs : List Int), (ss.foldl (fun x s => wrapS h way s x) xs).length = xs.length
  | [], _ => rfl
  | s :: ss, xs => by rw [List.foldl_cons, foldW_len h way ss, wrapS_len]
local macro_rules | `(tactic| walk_at "go") => `(tactic| repeat (first | (with_reducible first | refine iteT ?_ | refine iteF ?_ | refine iteNtt ?_ | refine iteNff ?_ | refine iteET (by omega) ?_ | refine iteEF (by omega) ?_ | refine iteENT (by omega) ?_ | refine iteENF (by omega) ?_ | refine iteDT (by omega) ?_ | refine iteDF (by omega) ?_ | refine iteNT (by omega) ?_ | refine iteNF (by omega) ?_) | refine ⟨_, rfl, ?_⟩ | refine ⟨_, _, rfl, rfl, ?_⟩ | refine ⟨_, _, rfl, ?_⟩ | refine ⟨rfl, ?_⟩ | refine .inl ⟨_, rfl, ?_⟩ | refine .inr ⟨_, rfl, ?_⟩))
local macro_rules | `(tactic| walk_at "b") => `(tactic| try dsimp (config := { proj := false, iota := false, eta := false, zeta := false }) only)
section
variable {P : Program} {w : World} {K : PySem.W.Frag} {mg : Str → Option Value} {base : Heap}
def sp_check_depth : Sp := fun vs H Q _ => ∃ (d m : Nat), vs = [.int d, .int m] ∧ 1 ≤ d ∧ d ≤ m ∧ Q .non H
theorem G_check_depth (T : Top K mg) : FnOk P w K mg base CX0 3 T.f_check_depth T.fd_check_depth ["depth", "most"] sp_check_depth := by
  refine T.F_check_depth.ok sc_check_depth (fun vs H Q E h => by obtain ⟨d, m, rfl, _⟩ := h; rfl) (fun cdv A outer s H vs Q E hr h => ?_)
  obtain ⟨d, m, rfl, h1, h2, q⟩ := h
  refine ⟨_, PSs.nox (pss_one (ps_if (pt_not (pt_val (pe_call (G_is_between T) (hr.mono (by decide)) (by rfl) T.g_is_between T.F_is_between.kp T.b_is_between .nil pass0 (pa_cons (pv 0) (pa_cons pe_int (pa_cons (pv 1) pa_nil))))))
    (pss_one ps_never)
    pss_nil)), ?_⟩
  refine ⟨_, rfl, _, rfl, d, 1, some (m : Int), rfl, ?_⟩
  rw [decide_eq_true ⟨by omega, fun j h => by cases h; omega⟩]
  refine ⟨true, rfl, iteF ?_⟩
  exact q
def sp_is_sample : Sp := fun vs H Q _ => ∃ (x : Int) (d : Nat), vs = [.int x, .int d] ∧ 1 ≤ d ∧ d ≤ 100 ∧ -((2 ^ (d - 1) : Nat) : Int) ≤ x ∧ x < ((2 ^ (d - 1) : Nat) : Int) ∧ Q (.bl true) H
theorem G_is_sample (T : Top K mg) : FnOk P w K mg base CX0 3 T.f_is_sample T.fd_is_sample ["value", "depth"] sp_is_sample := by
  refine T.F_is_sample.ok sc_is_sample (fun vs H Q E h => by obtain ⟨x, d, rfl, _⟩ := h; rfl) (fun cdv A outer s H vs Q E hr h => ?_)
  obtain ⟨x, d, rfl, hd1, hd, h1, h2, q⟩ := h
  refine ⟨_, PSs.nox (pss_one (ps_ret (pe_call (G_is_between T) (hr.mono (by decide)) (by rfl) T.g_is_between T.F_is_between.kp T.b_is_between .nil pass0 (pa_cons (pv 0) (pa_cons (pe_op op_sub pe_int (pe_op op_shl pe_int (pe_op op_sub (pv 1) pe_int))) (pa_cons (pe_op op_sub (pe_op op_shl pe_int (pe_op op_sub (pv 1) pe_int)) pe_int) pa_nil)))))), ?_⟩
  have e := half_pow hd1
  walk_at "go"
  refine ⟨⟨by omega, by omega, by decide⟩, ?_⟩
  walk_at "go"
  refine ⟨⟨by omega, by omega, by decide⟩, ?_⟩
  walk_at "b"
  rw [e]
  walk_at "go"
  refine ⟨x, 0 - ((2 ^ (d - 1) : Nat) : Int), some (((2 ^ (d - 1) : Nat) : Int) - 1), rfl, ?_⟩
  rw [decide_eq_true ⟨by omega, fun j h => by cases h; omega⟩]
  exact q
def sp_are_samples : Sp := fun vs H Q _ => ∃ (a : Addr) (ns : List Int) (d : Nat), vs = [.ref a, .int d] ∧ H a = some (.lst (ns.map V.int)) ∧ ns.length ≤ 1000 ∧ 1 ≤ d ∧ d ≤ 100 ∧ Bx ((2 ^ (d - 1) : Nat) : Int) ns ∧ ∀ H', Same H H' → Q (.bl true) H'
theorem G_are_samples (T : Top K mg) : FnOk P w K mg base CX0 4 T.f_are_samples T.fd_are_samples ["value", "depth"] sp_are_samples := by
  refine T.F_are_samples.ok sc_are_samples (fun vs H Q E h => by obtain ⟨a, ns, d, rfl, _⟩ := h; rfl) (fun cdv A outer s H vs Q E hr h => ?_)
  obtain ⟨a, ns, d, rfl, hA, hn, hd1, hd, hB, q⟩ := h
  refine ⟨_, PSs.nox (pss_one (ps_ret (pe_and (pe_callB (k_isi K rfl) (by rfl) T.n_isinstance (by decide +kernel) (pa_cons (pv 0) (pa_cons (pe_bltn (v := .ty "list") (by rfl) T.n_list (by decide +kernel) rfl) pa_nil))) (pe_one (pe_cmpR (k_eqD K rfl hr.units) (pe_lc (own := [("item", 2)]) (g := gName 2) (by rfl) sc_are_samples.nd (k_piL K rfl (pv 0)) (blkOk_by (own := [("item", 2)]) (N := N_are_samples) (sc := defScope s_are_samples) (by decide +kernel)) (fun _ _ _ _ _ => (pg_name (i := 2) sc_are_samples.nd rfl (by first | exact Or.inl rfl | exact Or.inr rfl))) (fun _ _ _ _ _ => (pts_one (pt_not (pt_val (pe_call (G_is_sample T) (hr.mono (by decide)) (by rfl) T.g_is_sample T.F_is_sample.kp T.b_is_sample .nil pass0 (pa_cons (pv 2) (pa_cons (pv 1) pa_nil))))))) (fun _ _ _ _ _ => (pv 2))) (pe_lst pa_nil) (nomark _)))))), ?_⟩
  have hS : SqL K H a (ns.map V.int) := .inl (.inl hA)
  walk_at "go"
  refine ⟨_, _, _, _, true, rfl, .ty _, ty_list hA, kit_ty (by decide +kernel), true, rfl, ?_⟩
  walk_at "go"
  refine ⟨⟨_, hS⟩, fun D nD => ?_⟩
  refine lc_selL (K := K) (xs := ns.map V.int) (ns.map fun _ => none) nD hS (by rw [List.length_map, List.length_map]) (by rw [List.length_map]; exact small1000 hn) (fun x => rfl) ?_ ?_
  · intro i x o H' hx ho s Qt qt
    obtain ⟨m, hm, rfl⟩ := int_at hx
    rw [List.getElem?_map, hm] at ho
    cases ho
    obtain ⟨b1, b2⟩ := hB m (List.mem_of_getElem? hm)
    walk_at "go"
    refine ⟨hd1, hd, b1, b2, ?_⟩
    walk_at "go"
    exact qt _ (Same.refl _)
  · intro H' s hD
    rw [fm_non0] at hD
    walk_at "go"
    refine ⟨Nat.zero_le _, fun p np => ?_⟩
    refine eq_lst (ns := []) (.inl (.inl (same_upd np _ _ hD))) (.inl (.inl upd_same)) ?_
    exact q _ (s.trans (same_upd np))
def sp_wrapped : Sp := fun vs H Q _ => ∃ (x : Int) (d : Nat), vs = [.int x, .int d] ∧ 1 ≤ d ∧ d ≤ 100 ∧ Q (.int (wrapN ((2 ^ (d - 1) : Nat) : Int) x)) H
theorem G_wrapped (T : Top K mg) : FnOk P w K mg base CX0 1 T.f_wrapped T.fd_wrapped ["number", "depth"] sp_wrapped := by
  refine T.F_wrapped.ok sc_wrapped (fun vs H Q E h => by obtain ⟨x, d, rfl, _⟩ := h; rfl) (fun cdv A outer s H vs Q E hr h => ?_)
  obtain ⟨x, d, rfl, hd1, hd, q⟩ := h
  refine ⟨_, PSs.nox (pss_cons (ps_set (i := 2) sc_wrapped.nd rfl (by first | exact Or.inl rfl | exact Or.inr rfl) (pe_op op_shl pe_int (pe_op op_sub (pv 1) pe_int)))
  (pss_one (ps_ret (pe_op op_sub (pe_op op_mod (pe_op op_add (pv 0) (pv 2)) (pe_op op_mul pe_int (pv 2))) (pv 2))))), ?_⟩
  have e := half_pow hd1
  have h0 := half_pos d
  walk_at "go"
  refine ⟨⟨by omega, by omega, by decide⟩, ?_⟩
  walk_at "b"
  rw [e]
  walk_at "go"
  refine ⟨.inl ⟨by decide, by decide⟩, ?_⟩
  walk_at "go"
  refine ⟨by omega, ?_⟩
  walk_at "go"
  exact q
def sp_law_wrapped : Sp := fun vs H Q _ => ∃ (x : Int) (d : Nat), vs = [.int x, .int d] ∧ 1 ≤ d ∧ d ≤ 100 ∧ Q (.int (wrapN ((2 ^ (d - 1) : Nat) : Int) x)) H
def sp_check_moment_within (C : Addr) : Sp := fun vs H Q _ => ∃ (a r p : Addr) (n d : Nat) (ss : List Step) (xs : List Int), vs = [.ref a, .int d, .ref p] ∧ MixAt C H a r n ss ∧ n ≤ 4 ∧ H p = some (.lst (xs.map V.int)) ∧ xs.length = n ∧ 1 ≤ d ∧ d ≤ 100 ∧ Bx ((2 ^ (d - 1) : Nat) : Int) xs ∧ ∀ H', Same H H' → Q .non H'
theorem G_check_moment_within (T : Top K mg) : FnOk P w K mg base CX0 5 T.f_check_moment_within T.fd_check_moment_within ["mixer", "depth", "samples"] (sp_check_moment_within T.C_Mixer) := by
  refine T.F_check_moment_within.ok sc_check_moment_within (fun vs H Q E h => by obtain ⟨a, r, p, n, d, ss, xs, rfl, _⟩ := h; rfl) (fun cdv A outer s H vs Q E hr h => ?_)
  obtain ⟨a, r, p, n, d, ss, xs, rfl, hM, hn, hp, hx, hd1, hd, hB, q⟩ := h
  refine ⟨_, PSs.nox (pss_one (ps_if (PW.pt (pw_or (pt_not (pt_val (pe_call (G_are_samples T) (hr.mono (by decide)) (by rfl) T.g_are_samples T.F_are_samples.kp T.b_are_samples .nil pass0 (pa_cons (pv 2) (pa_cons (pv 1) pa_nil))))) (pw_or1 (pt_cmpR op_ne (pe_callB (k_len K rfl) (by rfl) T.n_len (by decide +kernel) (pa_cons (pv 2) pa_nil)) (pe_fld (pv 0) rfl) (nomark _)))))
    (pss_one ps_never)
    pss_nil)), ?_⟩
  refine ⟨_, rfl, _, rfl, p, xs, d, rfl, hp, by omega, hd1, hd, hB, fun H1 s1 => ?_⟩
  obtain ⟨dx, vs, ha, hr0, hv⟩ := hM.same s1
  walk_at "go"
  refine ⟨p, _, rfl, .inl (.inl (.inl (s1 _ _ hp))), ?_⟩
  rw [List.length_map, hx]
  walk_at "go"
  refine ⟨a, T.C_Mixer, dx, _, _, rfl, ha, T.cl_Mixer, T.na_Mixer_many, rfl, rfl, _, rfl, iteENF rfl ?_⟩
  exact q _ s1
def sp_mixed_within (C : Addr) (K : PySem.W.Frag) : Sp := fun vs H Q _ => ∃ (a r p : Addr) (n d : Nat) (ss : List Step) (xs : List Int), vs = [.ref a, .int d, .ref p] ∧ MixAt C H a r n ss ∧ n ≤ 4 ∧ H p = some (.lst (xs.map V.int)) ∧ xs.length = n ∧ (∀ s ∈ ss, s.ok n) ∧ 1 ≤ d ∧ d ≤ 32 ∧ Bx ((2 ^ (d - 1) : Nat) : Int) xs ∧
  ∀ H' p', Same H H' → H p' = none → H' p' = some (.lst ((inS ((2 ^ (d - 1) : Nat) : Int) ss xs).map V.int)) → Q (.ref p') H'
theorem G_mixed_within (T : Top K mg) : FnOk P w K mg base CX0 6 T.f_mixed_within T.fd_mixed_within ["mixer", "depth", "samples"] (sp_mixed_within T.C_Mixer K) := by
  refine T.F_mixed_within.ok sc_mixed_within (fun vs H Q E h => by obtain ⟨a, r, p, n, d, ss, xs, rfl, _⟩ := h; rfl) (fun cdv A outer s H vs Q E hr h => ?_)
  obtain ⟨a, r, p, n, d, ss, xs, rfl, hM, hn, hp, hx, hO, hd1, hd, hB, q⟩ := h
  refine ⟨_, PSs.nox (pss_cons (ps_expr (pe_call (G_check_mixer T) (hr.mono (by decide)) (by rfl) T.g_check_mixer T.F_check_mixer.kp T.b_check_mixer .nil pass0 (pa_cons (pv 0) pa_nil)))
  (pss_cons (ps_expr (pe_call (G_check_depth T) (hr.mono (by decide)) (by rfl) T.g_check_depth T.F_check_depth.kp T.b_check_depth .nil pass0 (pa_cons (pv 1) (pa_cons (pe_glob (v := .int 32) rfl T.m_MOST_DEPTH_mixers ⟨_, rfl⟩) pa_nil))))
  (pss_cons (ps_expr (pe_call (G_check_moment_within T) (hr.mono (by decide)) (by rfl) T.g_check_moment_within T.F_check_moment_within.kp T.b_check_moment_within .nil pass0 (pa_cons (pv 0) (pa_cons (pv 1) (pa_cons (pv 2) pa_nil)))))
  (pss_cons (ps_set (i := 3) sc_mixed_within.nd rfl (by first | exact Or.inl rfl | exact Or.inr rfl) (pe_callTy (k_listOf K rfl) (by rfl) T.n_list (by decide +kernel) (pa_cons (pv 2) pa_nil)))
  (pss_cons (ps_for PassesOwn.never rfl (k_piL K rfl (pe_fld (pv 0) rfl)) (pg_name (i := 4) sc_mixed_within.nd rfl (by first | exact Or.inl rfl | exact Or.inr rfl))
    (pss_one (ps_setLc (i := 3) (own := [("number", 5)]) (g := gName 5) (tt := tYes) (by rfl) sc_mixed_within.nd rfl rfl (sw_true rfl rfl rfl (by decide +kernel)) (k_piL K rfl (pe_call (G_stepped T) (hr.mono (by decide)) (by rfl) T.g_stepped T.F_stepped.kp T.b0_stepped T.v0_stepped pass0 (pa_cons (pv 4) (pa_cons (pv 3) pa_nil)))) (blkOk_by (own := [("number", 5)]) (N := N_mixed_within) (sc := defScope s_mixed_within) (by decide +kernel)) (fun _ _ _ _ _ => (pg_name (i := 5) sc_mixed_within.nd rfl (by first | exact Or.inl rfl | exact Or.inr rfl))) (fun _ _ _ _ _ => pts_nil) (fun _ _ _ _ _ => (pe_call (G_wrapped T) (hr.mono (by decide)) (by rfl) T.g_wrapped T.F_wrapped.kp T.b_wrapped .nil pass0 (pa_cons (pv 5) (pa_cons (pv 1) pa_nil)))))))
  (pss_one (ps_ret (pv 3)))))))), ?_⟩
  walk_at "go"
  refine ⟨a, r, n, ss, rfl, hM, ?_⟩
  walk_at "go"
  refine ⟨hd1, hd, ?_⟩
  walk_at "go"
  refine ⟨a, r, p, n, d, ss, xs, rfl, hM, hn, hp, hx, hd1, by omega, hB, fun H1 s1 => ?_⟩
  obtain ⟨dx, us, ha, hr0, hv⟩ := hM.same s1
  walk_at "go"
  refine ⟨p, _, rfl, .inl (.inl (.inl (s1 _ _ hp))), fun l nl => ?_⟩
  obtain ⟨H2, e2, s2, h2⟩ := fresh (.lst (xs.map V.int)) nl
  rw [e2]
  have hr2 := s2 _ _ hr0
  have hv2 : AllV (RowV H2) us ss := hv.imp fun v s => RowV.same s2
  walk_at "go"
  refine ⟨a, T.C_Mixer, dx, _, _, rfl, s2 _ _ ha, T.cl_Mixer, T.na_Mixer_rows, rfl, ?_⟩
  generalize hh : ((2 ^ (d - 1) : Nat) : Int) = h at *
  refine ⟨r, rfl, ⟨_, .inl (.inl hr2)⟩, for_list (K := K) (a := r) (xs := us) (fun i σ H4 => ∃ (v4 : Option V) (p' : Addr), σ = [some (.ref a), some (.int d), some (.ref p), some (.ref p'), v4, none] ∧ Same H2 H4 ∧ H p' = none ∧ H4 p' = some (.lst ((inS h (ss.take i) xs).map V.int))) ⟨none, l, rfl, Same.refl _, s1.free nl, h2⟩ (fun i σ H4 _ ⟨_, _, _, s, _⟩ => .inl (.inl (s _ _ hr2))) ?_ ?_⟩
  · rintro i v σ H4 hi ⟨v4, p', rfl, s4, np', h4⟩
    obtain ⟨s, hs, hvs⟩ := hv2.get hi
    have pl := inS_len h (ss.take i) xs
    walk_at "go"
    refine ⟨v, p', 1, s, inS h (ss.take i) xs, rfl, hvs.same s4, h4, by rw [pl, hx]; exact hO s (List.mem_of_getElem? hs), by omega, by decide, by decide, fun H5 p5 s5 np5 h5 => ?_⟩
    walk_at "b"
    refine ⟨p5, rfl, ⟨_, .inl (.inl h5)⟩, fun D nD => ?_⟩
    refine lc_mapL (K := K) (xs := (stepF 1 s (inS h (ss.take i) xs)).map V.int) ((wrapS h 1 s (inS h (ss.take i) xs)).map V.int) nD (.inl (.inl h5)) (by rw [List.length_map, List.length_map, wrapS_len, stepF_len]) (by rw [List.length_map, stepF_len]; exact small1000 (by omega)) (fun x => rfl) ?_ ?_
    · intro k x y H' hk hy s' Qt qt
      obtain ⟨m, hm, rfl⟩ := int_at hk
      rw [show wrapS h 1 s (inS h (ss.take i) xs) = (stepF 1 s (inS h (ss.take i) xs)).map (wrapN h) from rfl] at hy
      rw [List.getElem?_map, List.getElem?_map, hm] at hy
      cases hy
      walk_at "go"
      refine ⟨hd1, by omega, ?_⟩
      rw [hh]
      exact qt _ (Same.refl _)
    intro H6 s6 hD
    refine ⟨_, D, rfl, s4.trans (s5.trans s6), (s1.trans (s2.trans (s4.trans s5))).free nD, ?_⟩
    rw [inS_take hs]
    exact hD
  · rintro σ H4 ⟨v4, p', rfl, s4, np', h4⟩
    rw [hv2.len, List.take_length] at h4
    walk_at "go"
    exact q _ p' (s1.trans (s2.trans s4)) np' h4
def sp_unmixed_within (C : Addr) (K : PySem.W.Frag) : Sp := fun vs H Q _ => ∃ (a r p : Addr) (n d : Nat) (ss : List Step) (xs : List Int), vs = [.ref a, .int d, .ref p] ∧ MixAt C H a r n ss ∧ n ≤ 4 ∧ H p = some (.lst (xs.map V.int)) ∧ xs.length = n ∧ (∀ s ∈ ss, s.ok n) ∧ 1 ≤ d ∧ d ≤ 32 ∧ Bx ((2 ^ (d - 1) : Nat) : Int) xs ∧
  ∀ H' p', Same H H' → H p' = none → H' p' = some (.lst ((outS ((2 ^ (d - 1) : Nat) : Int) ss xs).map V.int)) → Q (.ref p') H'
end
end My

namespace My
open PySem PySem.Spec PyProof.Rows L2 Pre
/-! ### comprehensions over tuples -/
theorem lc_selT {K : PySem.W.Frag} {a : Addr} {xs : List V} {j : Nat} {tt : TT} {te : TE} {vs : List Nat} {σ : L2.St} {H1 : Hp} {D : Addr} {Qd : Hp → Prop} (sel : List (Option V)) (nD : H1 D = none) (hS : SqT K H1 a xs) (hlen : sel.length = xs.length) (hz : xs.length < sizeLine)
    (hw : ∀ x, wipe ((wipe σ vs).set j (some x)) vs = wipe σ vs)
    (hs : ∀ (i : Nat) (x : V) (o : Option V) (H' : Hp), xs[i]? = some x → sel[i]? = some o → Same H1 H' → ∀ Qt : Option V → Hp → Prop, (∀ H'', Same H' H'' → Qt o H'') →
      tt ((wipe σ vs).set j (some x)) H' fun b H3 => if b = true then te ((wipe σ vs).set j (some x)) H3 fun y H4 => Qt (some y) H4 else Qt none H3)
    (hd : ∀ H', Same H1 H' → H' D = some (.lst (sel.filterMap id)) → Qd H') :
    ∃ W : Nat → Nat → Hp → Prop, (∃ m, W 0 m (upd H1 D (.lst []))) ∧ ∀ i m H, W i m H →
      ((Itt K a).stop i H ∧ Qd H) ∨ ((Itt K a).go i H ∧ ∃ Nx : Hp → Prop, (∀ H', Nx H' → ∃ m', m' < m ∧ W (i + 1) m' H') ∧ ∀ x H', (Itt K a).yld i H x H' → gName j x (wipe σ vs) H' fun σ2 H2 => wipe σ2 vs = wipe σ vs ∧ tt σ2 H2 fun b H3 =>
        if b = true then te σ2 H3 fun y H4 => ∃ acc, H4 D = some (.lst acc) ∧ acc.length < sizeLine ∧ Nx (upd H4 D (.lst (acc ++ [y]))) else Nx H3) := by
  refine lc_tup (K := K) (a := a) (xs := xs) (fun i H => Same H1 H ∧ H D = some (.lst ((sel.take i).filterMap id))) ⟨same_upd nD, upd_same⟩ (fun i H _ p => Same.tup p.1 hS) ?_ ?_
  · rintro i x H hx ⟨s, hD⟩
    refine ⟨hw x, ?_⟩
    have hi : i < sel.length := by rw [hlen]; exact (List.getElem?_eq_some_iff.mp hx).1
    have ho : sel[i]? = some sel[i] := List.getElem?_eq_getElem hi
    have hl : ((sel.take i).filterMap id).length < sizeLine := Nat.lt_of_le_of_lt (fm_len sel i) (by omega)
    refine hs i x sel[i] H hx ho s (fun o H4 => match o with
      | some y => ∃ acc, H4 D = some (.lst acc) ∧ acc.length < sizeLine ∧ (Same H1 (upd H4 D (.lst (acc ++ [y]))) ∧ (upd H4 D (.lst (acc ++ [y]))) D = some (.lst ((sel.take (i + 1)).filterMap id)))
      | none => Same H1 H4 ∧ H4 D = some (.lst ((sel.take (i + 1)).filterMap id))) fun H4 s4 => ?_
    generalize sel[i] = o at ho ⊢
    cases o with
    | some y =>
      refine ⟨_, s4 _ _ hD, hl, same_over nD (s.trans s4), ?_⟩
      rw [upd_same, take_fm ho]
      rfl
    | none =>
      refine ⟨s.trans s4, ?_⟩
      rw [take_fm ho, s4 _ _ hD]
      simp
  · rintro H ⟨s, hD⟩
    refine hd H s ?_
    rw [hD, ← hlen, List.take_length]
theorem lc_mapT {K : PySem.W.Frag} {a : Addr} {xs : List V} {j : Nat} {te : TE} {vs : List Nat} {σ : L2.St} {H1 : Hp} {D : Addr} {Qd : Hp → Prop} (ys : List V) (nD : H1 D = none) (hS : SqT K H1 a xs) (hlen : ys.length = xs.length) (hz : xs.length < sizeLine)
    (hw : ∀ x, wipe ((wipe σ vs).set j (some x)) vs = wipe σ vs)
    (hs : ∀ (i : Nat) (x y : V) (H' : Hp), xs[i]? = some x → ys[i]? = some y → Same H1 H' → ∀ Qt : V → Hp → Prop, (∀ H'', Same H' H'' → Qt y H'') → te ((wipe σ vs).set j (some x)) H' Qt)
    (hd : ∀ H', Same H1 H' → H' D = some (.lst ys) → Qd H') :
    ∃ W : Nat → Nat → Hp → Prop, (∃ m, W 0 m (upd H1 D (.lst []))) ∧ ∀ i m H, W i m H →
      ((Itt K a).stop i H ∧ Qd H) ∨ ((Itt K a).go i H ∧ ∃ Nx : Hp → Prop, (∀ H', Nx H' → ∃ m', m' < m ∧ W (i + 1) m' H') ∧ ∀ x H', (Itt K a).yld i H x H' → gName j x (wipe σ vs) H' fun σ2 H2 => wipe σ2 vs = wipe σ vs ∧ tYes σ2 H2 fun b H3 =>
        if b = true then te σ2 H3 fun y H4 => ∃ acc, H4 D = some (.lst acc) ∧ acc.length < sizeLine ∧ Nx (upd H4 D (.lst (acc ++ [y]))) else Nx H3) := by
  refine lc_selT (K := K) (a := a) (xs := xs) (tt := tYes) (ys.map some) nD hS (by rw [List.length_map]; exact hlen) hz hw ?_ ?_
  · intro i x o H' hx ho s Qt qt
    rw [List.getElem?_map] at ho
    obtain ⟨y, hy, rfl⟩ := Option.map_eq_some_iff.mp ho
    show if true = true then te ((wipe σ vs).set j (some x)) H' (fun y H4 => Qt (some y) H4) else Qt none H'
    exact iteT (hs i x y H' hx hy s (fun y H4 => Qt (some y) H4) qt)
  · intro H' s hD
    rw [fm_some] at hD
    exact hd H' s hD
end My

namespace My
open PySem PySem.Spec PyProof.Rows L2 Pre
theorem AllV.take {R : V → Step → Prop} : ∀ {vs : List V} {ss : List Step} (i : Nat), AllV R vs ss → AllV R (vs.take i) (ss.take i)
  | _, _, 0, _ => trivial
  | [], [], _ + 1, _ => trivial
  | _ :: _, [], _ + 1, h => h.elim
  | [], _ :: _, _ + 1, h => h.elim
  | _ :: _, _ :: _, i + 1, h => ⟨h.1, AllV.take i h.2⟩
local macro_rules | `(tactic| walk_at "go") => `(tactic| repeat (first | (with_reducible first | refine iteT ?_ | refine iteF ?_ | refine iteNtt ?_ | refine iteNff ?_ | refine iteET (by omega) ?_ | refine iteEF (by omega) ?_ | refine iteENT (by omega) ?_ | refine iteENF (by omega) ?_ | refine iteDT (by omega) ?_ | refine iteDF (by omega) ?_ | refine iteNT (by omega) ?_ | refine iteNF (by omega) ?_) | refine ⟨_, rfl, ?_⟩ | refine ⟨_, _, rfl, rfl, ?_⟩ | refine ⟨_, _, rfl, ?_⟩ | refine ⟨rfl, ?_⟩ | refine .inl ⟨_, rfl, ?_⟩ | refine .inr ⟨_, rfl, ?_⟩))
local macro_rules | `(tactic| walk_at "b") => `(tactic| try dsimp (config := { proj := false, iota := false, eta := false, zeta := false }) only)
section
variable {P : Program} {w : World} {K : PySem.W.Frag} {mg : Str → Option Value} {base : Heap}
def sp_depth_of : Sp := fun vs H Q _ => ∃ (t lo hi : Addr) (x y : Int), vs = [.ref t] ∧ H t = some (.tup [.int x, .ref lo, .int y, .ref hi]) ∧ ∀ H', Same H H' → Q (.int (depthP (x, y) : Nat)) H'
theorem G_depth_of (T : Top K mg) : FnOk P w K mg base CX0 1 T.f_depth_of T.fd_depth_of ["end"] sp_depth_of := by
  refine T.F_depth_of.ok sc_depth_of (fun vs H Q E h => by obtain ⟨t, lo, hi, x, y, rfl, _⟩ := h; rfl) (fun cdv A outer s H vs Q E hr h => ?_)
  obtain ⟨t, lo, hi, x, y, rfl, ht, q⟩ := h
  refine ⟨_, PSs.nox (pss_cons (ps_asg (pe_lc (own := [("number", 3)]) (g := gName 3) (tt := tYes) (by rfl) sc_depth_of.nd (k_piT K rfl (pe_tup (pa_cons (pe_ix (k_ixT K rfl) (pv 0) pe_int (fun _ _ => rfl)) (pa_cons (pe_ix (k_ixT K rfl) (pv 0) pe_int (fun _ _ => rfl)) pa_nil)))) (blkOk_by (own := [("number", 3)]) (N := N_depth_of) (sc := defScope s_depth_of) (by decide +kernel)) (fun _ _ _ _ _ => (pg_name (i := 3) sc_depth_of.nd rfl (by first | exact Or.inl rfl | exact Or.inr rfl))) (fun _ _ _ _ _ => pts_nil) (fun _ _ _ _ _ => (pe_ifExp (pt_cmpR op_ge (pv 3) pe_int (nomark _)) (pv 3) (pe_op op_sub (pe_op op_sub pe_int (pv 3)) pe_int)))) (k_pgL K rfl (by rfl) (pgs_cons (pg_name (i := 1) sc_depth_of.nd rfl (by first | exact Or.inl rfl | exact Or.inr rfl)) (pgs_cons (pg_name (i := 2) sc_depth_of.nd rfl (by first | exact Or.inl rfl | exact Or.inr rfl)) pgs_nil))))
  (pss_one (ps_ret (pe_op op_add pe_int (pe_bits (pe_callB (call_max2 rfl) (by rfl) T.n_max (by decide +kernel) (pa_cons (pv 1) (pa_cons (pv 2) pa_nil)))))))), ?_⟩
  walk_at "go"
  refine ⟨t, _, _, _, rfl, rfl, .inl (.inl ht), rfl, ?_⟩
  walk_at "go"
  refine ⟨t, _, _, _, rfl, rfl, .inl (.inl ht), rfl, ?_⟩
  walk_at "go"
  refine ⟨(show 2 ≤ sizeLine by decide), fun p np => ?_⟩
  obtain ⟨H1, e1, s1, h1⟩ := fresh (.tup [V.int x, V.int y]) np
  rw [e1]
  refine ⟨p, rfl, ⟨_, .inl (.inl h1)⟩, fun D nD => ?_⟩
  refine lc_mapT (K := K) (xs := [V.int x, V.int y]) [V.int (nnV x), V.int (nnV y)] nD (.inl (.inl h1)) rfl (small1000 (show 2 ≤ 1000 by decide)) (fun x => rfl) ?_ ?_
  · intro i v u H' hv hu s' Qt qt
    obtain ⟨z, rfl, rfl⟩ : ∃ z, v = .int z ∧ u = .int (nnV z) := by
      match i, hv, hu with
      | 0, hv, hu => cases hv; cases hu; exact ⟨x, rfl, rfl⟩
      | 1, hv, hu => cases hv; cases hu; exact ⟨y, rfl, rfl⟩
    walk_at "go"
    by_cases c : 0 ≤ z
    · refine iteDT c ?_
      rw [show nnV z = z from if_pos c] at qt
      walk_at "go"
      exact qt _ (Same.refl _)
    · refine iteDF c ?_
      rw [show nnV z = 0 - z - 1 from if_neg c] at qt
      walk_at "go"
      exact qt _ (Same.refl _)
  intro H2 s2 hD
  refine ⟨D, _, rfl, .inl (.inl hD), rfl, ?_⟩
  walk_at "go"
  rw [show (if nnV y > nnV x then nnV y else nnV x) = max (nnV x) (nnV y) by split <;> omega]
  have e : (fun (i j : Int) => V.int (i + j)) 1 ((Builtin.Int.intBits (max (nnV x) (nnV y)) : Nat) : Int) = .int (depthP (x, y) : Nat) := by
    unfold depthP
    simp
  rw [e]
  exact q H2 (s1.trans s2)
theorem rep_box (n : Nat) (z : Int × Int) : (List.replicate n (some (pairD z))).filterMap id = (List.replicate n z).map pairD := by
  induction n with
  | zero => rfl
  | succ n ih =>
    rw [List.replicate_succ, List.replicate_succ]
    show pairD z :: (List.replicate n (some (pairD z))).filterMap id = pairD z :: (List.replicate n z).map pairD
    rw [ih]
def sp_enough (C : Addr) (K : PySem.W.Frag) : Sp := fun vs H Q _ => ∃ (a r : Addr) (n d : Nat) (ss : List Step), vs = [.ref a, .int d] ∧ MixAt C H a r n ss ∧ (∀ s ∈ ss, s.ok n) ∧ 1 ≤ n ∧ n ≤ 4 ∧ ss.length ≤ 16 ∧ bitsS ss ≤ 15 ∧ (2 ^ bitsS ss) ^ n ≤ 1000 ∧ 1 ≤ d ∧ d ≤ 32 ∧
  ∀ H' D, Same H H' → H D = none → H' D = some (.lst (((List.range n).map fun i => ((depthP (endV n (boxN n d) ss i) : Nat) : Int)).map V.int)) → Q (.ref D) H'
theorem G_enough (T : Top K mg) : FnOk P w K mg base CX0 5 T.f_enough T.fd_enough ["mixer", "depth"] (sp_enough T.C_Mixer K) := by
  refine T.F_enough.ok sc_enough (fun vs H Q E h => by obtain ⟨a, r, n, d, ss, rfl, _⟩ := h; rfl) (fun cdv A outer s H vs Q E hr h => ?_)
  obtain ⟨a, r, n, d, ss, rfl, hM, hO, hn1, hn4, hl, hb, hpow, hd1, hd, q⟩ := h
  refine ⟨_, PSs.nox (pss_cons (ps_expr (pe_call (G_check_mixer T) (hr.mono (by decide)) (by rfl) T.g_check_mixer T.F_check_mixer.kp T.b_check_mixer .nil pass0 (pa_cons (pv 0) pa_nil)))
  (pss_cons (ps_expr (pe_call (G_check_depth T) (hr.mono (by decide)) (by rfl) T.g_check_depth T.F_check_depth.kp T.b_check_depth .nil pass0 (pa_cons (pv 1) (pa_cons (pe_glob (v := .int 32) rfl T.m_MOST_DEPTH_mixers ⟨_, rfl⟩) pa_nil))))
  (pss_cons (ps_set (i := 2) sc_enough.nd rfl (Or.inr rfl) (pe_lc (own := [("at", 3)]) (g := gName 3) (tt := tYes) (by rfl) sc_enough.nd (pi_range1 (by rfl) T.n_range (pa_cons (pe_fld (pv 0) rfl) pa_nil)) (blkOk_by (own := [("at", 3)]) (N := N_enough) (sc := defScope s_enough) (by decide +kernel)) (fun _ _ _ _ _ => (pg_name (i := 3) sc_enough.nd rfl (by first | exact Or.inl rfl | exact Or.inr rfl))) (fun _ _ _ _ _ => pts_nil) (fun _ _ _ _ _ => (pe_call (G_box_of T) (hr.mono (by decide)) (by rfl) T.g_box_of T.F_box_of.kp T.b_box_of .nil pass0 (pa_cons (pv 1) pa_nil)))))
  (pss_one (ps_ret (pe_lc (own := [("at", 3)]) (g := gName 3) (tt := tYes) (by rfl) sc_enough.nd (pi_range1 (by rfl) T.n_range (pa_cons (pe_fld (pv 0) rfl) pa_nil)) (blkOk_by (own := [("at", 3)]) (N := N_enough) (sc := defScope s_enough) (by decide +kernel)) (fun _ _ _ _ _ => (pg_name (i := 3) sc_enough.nd rfl (by first | exact Or.inl rfl | exact Or.inr rfl))) (fun _ _ _ _ _ => pts_nil) (fun _ _ _ _ _ => (pe_call (G_depth_of T) (hr.mono (by decide)) (by rfl) T.g_depth_of T.F_depth_of.kp T.b_depth_of .nil pass0 (pa_cons (pe_call (G_end_of T) (hr.mono (by decide)) (by rfl) T.g_end_of T.F_end_of.kp T.b_end_of .nil pass0 (pa_cons (k_fld K rfl (pv 0) rfl) (pa_cons (pv 2) (pa_cons (pv 3) pa_nil)))) pa_nil))))))))), ?_⟩
  obtain ⟨dx, us, ha, hr0, hv⟩ := id hM
  walk_at "go"
  refine ⟨a, r, n, ss, rfl, hM, ?_⟩
  walk_at "go"
  refine ⟨hd1, hd, ?_⟩
  walk_at "go"
  refine ⟨a, T.C_Mixer, dx, _, _, rfl, ha, T.cl_Mixer, T.na_Mixer_many, rfl, ?_⟩
  walk_at "go"
  refine ⟨by omega, by omega, fun D nD => ?_⟩
  rw [Int.toNat_natCast]
  refine lc_dR (lo := 0) (n := n) (S := []) Has.nil (List.replicate n (some (pairD (-hN d, hN d - 1)))) nD (by rw [List.length_replicate]) (small1000 (by omega)) ?_ ?_ ?_
  · exact fun x => rfl
  · intro i o H' hi ho s' hH Qt qt
    rw [List.getElem?_replicate, if_pos hi] at ho
    cases ho
    refine iteT (B := Qt none H') ?_
    walk_at "go"
    exact ⟨[D], d, rfl, hH, hd1, by omega, fun H4 v s4 d4 => qt _ _ s4 d4⟩
  · intro H4 s4 nD4 dD
    rw [rep_box, rs_nil] at dD
    walk_at "go"
    refine ⟨a, T.C_Mixer, dx, _, _, rfl, s4 _ _ ha, T.cl_Mixer, T.na_Mixer_many, rfl, ?_⟩
    walk_at "go"
    refine ⟨by omega, by omega, fun D2 nD2 => ?_⟩
    rw [Int.toNat_natCast]
    refine lc_mapR (lo := 0) (n := n) (((List.range n).map fun i => ((depthP (endV n (boxN n d) ss i) : Nat) : Int)).map V.int) nD2 (by rw [List.length_map, List.length_map, List.length_range]) (small1000 (by omega)) (fun x => rfl) ?_ ?_
    · intro i y H' hi hy s' Qt qt
      rw [List.getElem?_map, List.getElem?_map, List.getElem?_range hi] at hy
      cases hy
      have s04 := s4.trans s'
      rw [Int.zero_add]
      walk_at "go"
      refine ⟨a, T.C_Mixer, dx, _, _, rfl, s04 _ _ ha, T.cl_Mixer, T.na_Mixer_rows, rfl, ?_⟩
      walk_at "go"
      refine ⟨r, D, us, ss, boxN n d, n, i, rfl, s04 _ _ hr0, hv.imp fun v s => RowV.same s04, dD.same s', boxN_len n d, hO, hn1, hn4, hi, hl, hb, hpow, boxN_some n d, fun H5 t lo hi' c e s5 ht _ _ _ _ hE => ?_⟩
      walk_at "go"
      refine ⟨t, lo, hi', _, _, rfl, ht, fun H6 s6 => ?_⟩
      dsimp only at qt
      rw [endV_eq hO hi (boxN_len n d) hE] at qt
      exact qt _ (s5.trans s6)
    · intro H5 s5 hD2
      exact q H5 D2 (s4.trans s5) (s4.free nD2) hD2
def sp_on_the_way (C : Addr) (K : PySem.W.Frag) : Sp := fun vs H Q _ => ∃ (a r : Addr) (n d : Nat) (ss : List Step), vs = [.ref a, .int d] ∧ MixAt C H a r n ss ∧ (∀ s ∈ ss, s.ok n) ∧ 1 ≤ n ∧ n ≤ 4 ∧ ss.length ≤ 16 ∧ bitsS ss ≤ 15 ∧ (2 ^ bitsS ss) ^ n ≤ 1000 ∧ 1 ≤ d ∧ d ≤ 32 ∧
  ∀ H', Same H H' → Q (.int (wayP n d ss ss.length : Nat)) H'
theorem G_on_the_way (T : Top K mg) : FnOk P w K mg base CX0 5 T.f_on_the_way T.fd_on_the_way ["mixer", "depth"] (sp_on_the_way T.C_Mixer K) := by
  refine T.F_on_the_way.ok sc_on_the_way (fun vs H Q E h => by obtain ⟨a, r, n, d, ss, rfl, _⟩ := h; rfl) (fun cdv A outer s H vs Q E hr h => ?_)
  obtain ⟨a, r, n, d, ss, rfl, hM, hO, hn1, hn4, hl, hb, hpow, hd1, hd, q⟩ := h
  refine ⟨_, PSs.nox (pss_cons (ps_expr (pe_call (G_check_mixer T) (hr.mono (by decide)) (by rfl) T.g_check_mixer T.F_check_mixer.kp T.b_check_mixer .nil pass0 (pa_cons (pv 0) pa_nil)))
  (pss_cons (ps_expr (pe_call (G_check_depth T) (hr.mono (by decide)) (by rfl) T.g_check_depth T.F_check_depth.kp T.b_check_depth .nil pass0 (pa_cons (pv 1) (pa_cons (pe_glob (v := .int 32) rfl T.m_MOST_DEPTH_mixers ⟨_, rfl⟩) pa_nil))))
  (pss_cons (ps_par (by rfl) sc_on_the_way.nd (i := 2) (j := 3) rfl rfl (by decide) rfl rfl (pa_cons (pe_lc (own := [("at", 6)]) (g := gName 6) (tt := tYes) (by rfl) sc_on_the_way.nd (pi_range1 (by rfl) T.n_range (pa_cons (pe_fld (pv 0) rfl) pa_nil)) (blkOk_by (own := [("at", 6)]) (N := N_on_the_way) (sc := defScope s_on_the_way) (by decide +kernel)) (fun _ _ _ _ _ => (pg_name (i := 6) sc_on_the_way.nd rfl (by first | exact Or.inl rfl | exact Or.inr rfl))) (fun _ _ _ _ _ => pts_nil) (fun _ _ _ _ _ => (pe_call (G_box_of T) (hr.mono (by decide)) (by rfl) T.g_box_of T.F_box_of.kp T.b_box_of .nil pass0 (pa_cons (pv 1) pa_nil)))) (pa_cons (pv 1) pa_nil)) (by rfl))
  (pss_cons (ps_for PassesOwn.never rfl (k_piE K rfl (by rfl) T.n_enumerate (pa_cons (pe_fld (pv 0) rfl) pa_nil)) (k_pgT K rfl (by rfl) (pgs_cons (pg_name (i := 4) sc_on_the_way.nd rfl (by first | exact Or.inl rfl | exact Or.inr rfl)) (pgs_cons (pg_name (i := 5) sc_on_the_way.nd rfl (by first | exact Or.inl rfl | exact Or.inr rfl)) pgs_nil)))
    (pss_one (ps_if (pt_cmpR op_ne (pe_ix (k_ixT K rfl) (pv 5) pe_int (fun _ _ => rfl)) pe_str (nomark _))
    (pss_one (ps_set (i := 3) sc_on_the_way.nd rfl (by first | exact Or.inl rfl | exact Or.inr rfl) (pe_callB (call_max2 rfl) (by rfl) T.n_max (by decide +kernel) (pa_cons (pv 3) (pa_cons (pe_call (G_depth_of T) (hr.mono (by decide)) (by rfl) T.g_depth_of T.F_depth_of.kp T.b_depth_of .nil pass0 (pa_cons (pe_call (G_end_of T) (hr.mono (by decide)) (by rfl) T.g_end_of T.F_end_of.kp T.b_end_of .nil pass0 (pa_cons (pe_slice (k_slL K rfl) (pe_fld (pv 0) rfl) po_none (po_some (pe_op op_add (pv 4) pe_int))) (pa_cons (pv 2) (pa_cons (pe_ix (k_ixT K rfl) (pv 5) pe_int (fun _ _ => rfl)) pa_nil)))) pa_nil)) pa_nil)))))
    pss_nil)))
  (pss_one (ps_ret (pv 3))))))), ?_⟩
  obtain ⟨dx, us, ha, hr0, hv⟩ := id hM
  have ul := hv.len
  walk_at "go"
  refine ⟨a, r, n, ss, rfl, hM, ?_⟩
  walk_at "go"
  refine ⟨hd1, hd, ?_⟩
  walk_at "go"
  refine ⟨a, T.C_Mixer, dx, _, _, rfl, ha, T.cl_Mixer, T.na_Mixer_many, rfl, ?_⟩
  walk_at "go"
  refine ⟨by omega, by omega, fun D nD => ?_⟩
  rw [Int.toNat_natCast]
  refine lc_dR (lo := 0) (n := n) (S := []) Has.nil (List.replicate n (some (pairD (-hN d, hN d - 1)))) nD (by rw [List.length_replicate]) (small1000 (by omega)) ?_ ?_ ?_
  · exact fun x => rfl
  · intro i o H' hi ho s' hH Qt qt
    rw [List.getElem?_replicate, if_pos hi] at ho
    cases ho
    refine iteT (B := Qt none H') ?_
    walk_at "go"
    exact ⟨[D], d, rfl, hH, hd1, by omega, fun H4 v s4 d4 => qt _ _ s4 d4⟩
  · intro H4 s4 nD4 dD
    rw [rep_box, rs_nil] at dD
    walk_at "go"
    refine ⟨a, T.C_Mixer, dx, _, _, rfl, s4 _ _ ha, T.cl_Mixer, T.na_Mixer_rows, rfl, ?_⟩
    walk_at "go"
    refine ⟨r, _, rfl, .inl (.inl (s4 _ _ hr0)), ?_⟩
    refine for_it (walk_enum (K := K) (a := r) (xs := us)) (fun i σ H5 => ∃ (v4 v5 : Option V), σ = [some (.ref a), some (.int d), some (.ref D), some (.int (wayP n d ss i : Nat)), v4, v5, none] ∧ Same H4 H5) ⟨none, none, rfl, Same.refl _⟩ (fun i σ H5 _ ⟨_, _, _, s⟩ => .inl (.inl ((s4.trans s) _ _ hr0))) ?_ ?_
    · rintro i x σ H5 H6 hi ⟨v4, v5, rfl, s5⟩ ⟨T1, y1, z1, rfl, nT, rfl, e1, ez1⟩
      have st := same_upd (o := .tup [y1, z1]) nT
      cases e1
      dsimp only at ez1
      obtain ⟨s, hs, hvs⟩ := hv.get ez1
      have il : i < ss.length := (List.getElem?_eq_some_iff.mp hs).1
      have os := hO s (List.mem_of_getElem? hs)
      refine ⟨T1, _, rfl, .inl (.inl upd_same), rfl, _, _, rfl, _, _, rfl, rfl, ?_⟩
      generalize upd H5 T1 (.tup [V.int (i : Nat), z1]) = H6 at *
      have s46 := s5.trans st
      have s06 := s4.trans s46
      have hvs := RowV.same s06 hvs
      have a6 := s06 _ _ ha
      have r6 := s06 _ _ hr0
      have ec : cutV us none (some ((i : Int) + 1)) = us.take (i + 1) := cut_take us (i + 1)
      have bt := bits_take_le ss (i + 1)
      cases s with
      | turn tg =>
        obtain ⟨t0, rfl, ht0⟩ := hvs
        walk_at "go"
        refine ⟨t0, _, _, _, rfl, rfl, .inl (.inl ht0), rfl, ?_⟩
        walk_at "go"
        refine ⟨a, T.C_Mixer, dx, _, _, rfl, a6, T.cl_Mixer, T.na_Mixer_rows, rfl, ?_⟩
        walk_at "go"
        refine ⟨r, us, rfl, .inl (.inl r6), fun P2 nP2 => ?_⟩
        rw [ec]
        obtain ⟨H7, e7, s7, h7⟩ := fresh (.lst (us.take (i + 1))) nP2
        rw [e7]
        have s07 := s06.trans s7
        walk_at "go"
        refine ⟨t0, _, _, _, rfl, rfl, .inl (.inl (s7 _ _ ht0)), rfl, ?_⟩
        refine ⟨P2, D, us.take (i + 1), ss.take (i + 1), boxN n d, n, tg, rfl, h7, (hv.take (i + 1)).imp fun v s => RowV.same s07, dD.same (s46.trans s7), boxN_len n d, take_ok hO _, hn1, hn4, os, by rw [List.length_take]; omega, by omega, Nat.le_trans (Nat.pow_le_pow_left (Nat.pow_le_pow_right (by decide) bt) n) hpow, boxN_some n d, fun H8 t lo hi' c e s8 ht _ _ _ _ hE => ?_⟩
        walk_at "go"
        refine ⟨t, lo, hi', _, _, rfl, ht, fun H9 s9 => ?_⟩
        refine ⟨_, _, rfl, ?_⟩
        rw [max_int2, ← endV_eq (take_ok hO _) os (boxN_len n d) hE]
        have ew : wayP n d ss (i + 1) = max (wayP n d ss i) (depthP (endV n (boxN n d) (ss.take (i + 1)) tg)) := by simp only [wayP, hs]
        rw [← ew]
        exact ⟨_, _, rfl, s46.trans (s7.trans (s8.trans s9))⟩
      | swap tg tb =>
        obtain ⟨t0, rfl, ht0⟩ := hvs
        walk_at "go"
        refine ⟨t0, _, _, _, rfl, rfl, .inl (.inl ht0), rfl, ?_⟩
        walk_at "go"
        have ew : wayP n d ss (i + 1) = wayP n d ss i := by simp only [wayP, hs]
        refine iteNF rfl ?_
        rw [ew]
        exact ⟨_, _, rfl, s46⟩
      | lift tg ws sh =>
        obtain ⟨t0, l0, rfl, ht0, hl0⟩ := hvs
        walk_at "go"
        refine ⟨t0, _, _, _, rfl, rfl, .inl (.inl ht0), rfl, ?_⟩
        walk_at "go"
        refine ⟨a, T.C_Mixer, dx, _, _, rfl, a6, T.cl_Mixer, T.na_Mixer_rows, rfl, ?_⟩
        walk_at "go"
        refine ⟨r, us, rfl, .inl (.inl r6), fun P2 nP2 => ?_⟩
        rw [ec]
        obtain ⟨H7, e7, s7, h7⟩ := fresh (.lst (us.take (i + 1))) nP2
        rw [e7]
        have s07 := s06.trans s7
        walk_at "go"
        refine ⟨t0, _, _, _, rfl, rfl, .inl (.inl (s7 _ _ ht0)), rfl, ?_⟩
        refine ⟨P2, D, us.take (i + 1), ss.take (i + 1), boxN n d, n, tg, rfl, h7, (hv.take (i + 1)).imp fun v s => RowV.same s07, dD.same (s46.trans s7), boxN_len n d, take_ok hO _, hn1, hn4, os.1, by rw [List.length_take]; omega, by omega, Nat.le_trans (Nat.pow_le_pow_left (Nat.pow_le_pow_right (by decide) bt) n) hpow, boxN_some n d, fun H8 t lo hi' c e s8 ht _ _ _ _ hE => ?_⟩
        walk_at "go"
        refine ⟨t, lo, hi', _, _, rfl, ht, fun H9 s9 => ?_⟩
        refine ⟨_, _, rfl, ?_⟩
        rw [max_int2, ← endV_eq (take_ok hO _) os.1 (boxN_len n d) hE]
        have ew : wayP n d ss (i + 1) = max (wayP n d ss i) (depthP (endV n (boxN n d) (ss.take (i + 1)) tg)) := by simp only [wayP, hs]
        rw [← ew]
        exact ⟨_, _, rfl, s46.trans (s7.trans (s8.trans s9))⟩
    · rintro σ H5 ⟨v4, v5, rfl, s5⟩
      rw [ul]
      walk_at "go"
      exact q H5 (s4.trans s5)
end
end My

namespace My
open PySem PySem.Spec PyProof.Rows L2 Pre
/-! ### all lists within boxes, and the least and the greatest over them -/
def withinF (bs : List (Int × Int)) : List (List Int) := bs.foldl (fun acc z => acc.flatMap fun r => (rngI z.1 (z.2 + 1 - z.1).toNat).map fun v => r ++ [v]) [[]]
theorem within_snoc (bs : List (Int × Int)) (z : Int × Int) : withinF (bs ++ [z]) = (withinF bs).flatMap fun r => (rngI z.1 (z.2 + 1 - z.1).toNat).map fun v => r ++ [v] := by
  unfold withinF
  rw [List.foldl_append]
  rfl
theorem within_len : ∀ (bs : List (Int × Int)) (k : Nat), bs.length = k → ∀ r ∈ withinF bs, r.length = k := fun bs k h => by
  induction k generalizing bs with
  | zero =>
    rw [List.length_eq_zero_iff.mp h]
    intro r hr
    rw [List.mem_singleton.mp hr]
    rfl
  | succ k ih =>
    obtain ⟨cs, z, rfl⟩ : ∃ cs z, bs = cs ++ [z] := ⟨bs.dropLast, bs.getLast (fun e => by rw [e] at h; simp at h), (List.dropLast_concat_getLast _).symm⟩
    intro r hr
    rw [within_snoc] at hr
    obtain ⟨q, hq, hr⟩ := List.mem_flatMap.mp hr
    obtain ⟨v, _, rfl⟩ := List.mem_map.mp hr
    rw [List.length_append, ih cs (by simpa using h) q hq]
    rfl
theorem getD_snoc {α : Type} {l : List α} {x d : α} {k : Nat} : (l ++ [x]).getD k d = if k < l.length then l.getD k d else if k = l.length then x else d := by
  rw [List.getD_eq_getElem?_getD, List.getD_eq_getElem?_getD]
  by_cases h : k < l.length
  · rw [if_pos h, List.getElem?_append_left h]
  · rw [if_neg h, List.getElem?_append_right (by omega)]
    by_cases e : k = l.length
    · rw [if_pos e, e, Nat.sub_self]
      rfl
    · rw [if_neg e, List.getElem?_eq_none (by rw [List.length_singleton]; omega)]
      rfl
theorem in_snoc {bs : List (Int × Int)} {z : Int × Int} {x : List Int} {v : Int} : InB (bs ++ [z]) (x ++ [v]) ↔ InB bs x ∧ z.1 ≤ v ∧ v ≤ z.2 := by
  constructor
  · rintro ⟨h1, h2⟩
    have l : x.length = bs.length := by simpa using h1
    refine ⟨⟨l, fun k hk => ?_⟩, ?_⟩
    · have := h2 k (by rw [List.length_append]; omega)
      rw [getD_snoc, getD_snoc, if_pos hk, if_pos (by omega)] at this
      exact this
    · have := h2 bs.length (by rw [List.length_append, List.length_singleton]; omega)
      rw [getD_snoc, getD_snoc, if_neg (by omega), if_pos rfl, if_neg (by omega), if_pos l.symm] at this
      exact this
  · rintro ⟨⟨l, h2⟩, h3⟩
    refine ⟨by rw [List.length_append, List.length_append, l, List.length_singleton, List.length_singleton], fun k hk => ?_⟩
    rw [List.length_append, List.length_singleton] at hk
    rw [getD_snoc, getD_snoc]
    by_cases c : k < bs.length
    · rw [if_pos c, if_pos (by omega)]
      exact h2 k c
    · have e : k = bs.length := by omega
      subst e
      rw [if_neg c, if_pos rfl, if_neg (show ¬ bs.length < x.length by omega), if_pos l.symm]
      exact h3
theorem mem_within {bs : List (Int × Int)} {x : List Int} : x ∈ withinF bs ↔ InB bs x := by
  generalize hk : bs.length = k
  induction k generalizing bs x with
  | zero =>
    rw [List.length_eq_zero_iff.mp hk]
    constructor
    · intro h
      rw [List.mem_singleton.mp h]
      exact ⟨rfl, fun k hk => absurd hk (Nat.not_lt_zero k)⟩
    · rintro ⟨h, _⟩
      rw [List.length_eq_zero_iff.mp h]
      exact List.mem_singleton.mpr rfl
  | succ k ih =>
    obtain ⟨cs, z, rfl⟩ : ∃ cs z, bs = cs ++ [z] := ⟨bs.dropLast, bs.getLast (fun e => by rw [e] at hk; simp at hk), (List.dropLast_concat_getLast _).symm⟩
    have lc : cs.length = k := by simpa using hk
    rw [within_snoc]
    constructor
    · intro h
      obtain ⟨q, hq, h⟩ := List.mem_flatMap.mp h
      obtain ⟨v, hv, rfl⟩ := List.mem_map.mp h
      have := mem_rngI.mp hv
      exact in_snoc.mpr ⟨(ih lc).mp hq, by omega, by omega⟩
    · intro h
      have lx : x.length = k + 1 := by rw [h.1, hk]
      obtain ⟨y, v, rfl⟩ : ∃ y v, x = y ++ [v] := ⟨x.dropLast, x.getLast (fun e => by rw [e] at lx; simp at lx), (List.dropLast_concat_getLast _).symm⟩
      obtain ⟨h1, h2⟩ := in_snoc.mp h
      exact List.mem_flatMap.mpr ⟨y, (ih lc).mpr h1, List.mem_map.mpr ⟨v, mem_rngI.mpr (by omega), rfl⟩⟩
end My

namespace My
open PySem PySem.Spec PyProof.Rows L2 Pre
/-- the least and the greatest of what comes out over all lists within boxes -/
def endsF (bs : List (Int × Int)) (ss : List Step) (i : Nat) : Int × Int := (((withinF bs).map (outF ss i)).min?.getD 0, ((withinF bs).map (outF ss i)).max?.getD 0)
theorem ends_of {bs : List (Int × Int)} {ss : List Step} {i : Nat} (hne : ∃ x, InB bs x) : ∃ c d, endsF bs ss i = (outF ss i c, outF ss i d) ∧ EndB bs (outF ss i) c d := by
  obtain ⟨x0, hx0⟩ := hne
  have ne : (withinF bs).map (outF ss i) ≠ [] := fun z => by
    have := mem_within.mpr hx0
    rw [List.map_eq_nil_iff.mp z] at this
    cases this
  cases hmin : ((withinF bs).map (outF ss i)).min? with
  | none => exact absurd (List.min?_eq_none_iff.mp hmin) ne
  | some a =>
    cases hmax : ((withinF bs).map (outF ss i)).max? with
    | none => exact absurd (List.max?_eq_none_iff.mp hmax) ne
    | some b =>
      obtain ⟨m1, m2⟩ := List.min?_eq_some_iff.mp hmin
      obtain ⟨m3, m4⟩ := List.max?_eq_some_iff.mp hmax
      obtain ⟨c, hc, ec⟩ := List.mem_map.mp m1
      obtain ⟨d, hd, ed⟩ := List.mem_map.mp m3
      refine ⟨c, d, ?_, mem_within.mp hc, mem_within.mp hd, fun x hx => ⟨?_, ?_⟩⟩
      · unfold endsF
        rw [hmin, hmax, ec, ed]
        rfl
      · rw [ec]
        exact m2 _ (List.mem_map_of_mem (mem_within.mpr hx))
      · rw [ed]
        exact m4 _ (List.mem_map_of_mem (mem_within.mpr hx))
theorem fm_some {α β : Type} (f : α → β) : ∀ l : List α, (l.map fun x => some (f x)).filterMap id = l.map f
  | [] => rfl
  | x :: l => by
    show f x :: (l.map fun x => some (f x)).filterMap id = f x :: l.map f
    rw [fm_some f l]
theorem min_of {l : List Int} {m : Int} (h1 : m ∈ l) (h2 : ∀ y ∈ l, m ≤ y) : l.min?.getD 0 = m := by
  rw [List.min?_eq_some_iff.mpr ⟨h1, h2⟩]
  rfl
theorem max_of {l : List Int} {m : Int} (h1 : m ∈ l) (h2 : ∀ y ∈ l, y ≤ m) : l.max?.getD 0 = m := by
  rw [List.max?_eq_some_iff.mpr ⟨h1, h2⟩]
  rfl
local macro_rules | `(tactic| walk_at "go") => `(tactic| repeat (first | (with_reducible first | refine iteT ?_ | refine iteF ?_ | refine iteNtt ?_ | refine iteNff ?_ | refine iteET (by omega) ?_ | refine iteEF (by omega) ?_ | refine iteENT (by omega) ?_ | refine iteENF (by omega) ?_ | refine iteDT (by omega) ?_ | refine iteDF (by omega) ?_ | refine iteNT (by omega) ?_ | refine iteNF (by omega) ?_) | refine ⟨_, rfl, ?_⟩ | refine ⟨_, _, rfl, rfl, ?_⟩ | refine ⟨_, _, rfl, ?_⟩ | refine ⟨rfl, ?_⟩ | refine .inl ⟨_, rfl, ?_⟩ | refine .inr ⟨_, rfl, ?_⟩))
local macro_rules | `(tactic| walk_at "b") => `(tactic| try dsimp (config := { proj := false, iota := false, eta := false, zeta := false }) only)
section
variable {P : Program} {w : World} {K : PySem.W.Frag} {mg : Str → Option Value} {base : Heap}
def sp_law_ends (K : PySem.W.Frag) : Sp := fun vs H Q _ => ∃ (N : Addr → Prop) (H0 : Hp) (p b : Addr) (n : Nat) (ss : List Step) (bs : List (Int × Int)), vs = [.ref p, .ref b] ∧ StepsAt N H p ss ∧ FrRow H0 H b bs ∧ bs.length = n ∧ 1 ≤ n ∧ n ≤ 4 ∧ (∀ s ∈ ss, s.ok n) ∧ (∀ z ∈ bs, z.1 ≤ z.2) ∧ (withinF bs).length ≤ 1000 ∧ ∀ H' D, Same H H' → FrRow H H' D ((List.range n).map (endsF bs ss)) → Q (.ref D) H'
end
end My

namespace My
open PySem PySem.Spec PyProof.Rows L2 Pre
/-- so many pairs made one behind another at the end of a new list -/
def PairsTo (H : Hp) (D : Addr) (F : Nat → Int × Int) (i : Nat) : Prop := ∃ ts : List Addr, H D = some (.lst (ts.map V.ref)) ∧ ts.length = i ∧ ∀ (j : Nat) (t : Addr), ts[j]? = some t → H t = some (.tup [.int (F j).1, .int (F j).2])
theorem PairsTo.same {H H' : Hp} {D : Addr} {F : Nat → Int × Int} {i : Nat} (h : PairsTo H D F i) (s : Same H H') : PairsTo H' D F i := by
  obtain ⟨ts, h1, h2, h3⟩ := h
  exact ⟨ts, s _ _ h1, h2, fun j t ht => s _ _ (h3 j t ht)⟩
theorem PairsTo.snoc {H : Hp} {D u : Addr} {F : Nat → Int × Int} {i : Nat} {ts : List Addr} (h1 : H D = some (.lst (ts.map V.ref))) (h2 : ts.length = i) (h3 : ∀ (j : Nat) (t : Addr), ts[j]? = some t → H t = some (.tup [.int (F j).1, .int (F j).2])) (hu : H u = some (.tup [.int (F i).1, .int (F i).2])) : PairsTo (upd H D (.lst (ts.map V.ref ++ [.ref u]))) D F (i + 1) := by
  have ne : ∀ {t : Addr} {xs : List V}, H t = some (.tup xs) → t ≠ D := fun {t xs} h z => by rw [z, h1] at h; cases h
  refine ⟨ts ++ [u], by rw [upd_same, List.map_append]; rfl, by rw [List.length_append, h2]; rfl, fun j t ht => ?_⟩
  by_cases c : j < ts.length
  · rw [List.getElem?_append_left c] at ht
    rw [upd_ne (ne (h3 j t ht))]
    exact h3 j t ht
  · rw [List.getElem?_append_right (by omega)] at ht
    have e0 : j - ts.length = 0 := by
      have := (List.getElem?_eq_some_iff.mp ht).1
      rw [List.length_singleton] at this
      omega
    rw [e0] at ht
    cases ht
    have ej : j = i := by omega
    subst ej
    rw [upd_ne (ne hu)]
    exact hu
theorem PairsTo.row {H0 H : Hp} {D : Addr} {F : Nat → Int × Int} {n : Nat} (h : PairsTo H D F n) (nD : H0 D = none) : FrRow H0 H D ((List.range n).map F) := by
  obtain ⟨ts, h1, h2, h3⟩ := h
  refine ⟨nD, ts, h1, by rw [List.length_map, List.length_range, h2], fun i t p ht hp => ?_⟩
  have hi : i < n := by rw [← h2]; exact (List.getElem?_eq_some_iff.mp ht).1
  rw [List.getElem?_map, List.getElem?_range hi] at hp
  cases hp
  exact h3 i t ht
local macro_rules | `(tactic| walk_at "go") => `(tactic| repeat (first | (with_reducible first | refine iteT ?_ | refine iteF ?_ | refine iteNtt ?_ | refine iteNff ?_ | refine iteET (by omega) ?_ | refine iteEF (by omega) ?_ | refine iteENT (by omega) ?_ | refine iteENF (by omega) ?_ | refine iteDT (by omega) ?_ | refine iteDF (by omega) ?_ | refine iteNT (by omega) ?_ | refine iteNF (by omega) ?_) | refine ⟨_, rfl, ?_⟩ | refine ⟨_, _, rfl, rfl, ?_⟩ | refine ⟨_, _, rfl, ?_⟩ | refine ⟨rfl, ?_⟩ | refine .inl ⟨_, rfl, ?_⟩ | refine .inr ⟨_, rfl, ?_⟩))
local macro_rules | `(tactic| walk_at "b") => `(tactic| try dsimp (config := { proj := false, iota := false, eta := false, zeta := false }) only)
section
variable {P : Program} {w : World} {K : PySem.W.Frag} {mg : Str → Option Value} {base : Heap}
def sp_law_moved (K : PySem.W.Frag) : Sp := fun vs H Q _ => ∃ (H0 H1 : Hp) (a b c : Addr) (M : List (List Int)) (es : List (Int × Int)) (ys : List Int) (m n : Nat), vs = [.ref a, .ref b, .ref c] ∧ FrMat H0 H a (frM m M) ∧ Sq n M ∧ (∀ l ∈ M, ∀ w ∈ l, w.natAbs < 2 ^ 200) ∧ FrRow H1 H b es ∧ es.length = n ∧ H c = some (.lst ((ys.map fun y => 2 ^ m * y).map V.int)) ∧ ys.length = n ∧ (∀ y ∈ ys, y.natAbs < 2 ^ 100) ∧ 1 ≤ n ∧ n ≤ 4 ∧ m ≤ 15 ∧ ∀ H' D, Same H H' → FrRow H H' D ((List.range n).map fun i => ((es.getD i (0, 1)).1 + dotP (M.getD i []) ys, (es.getD i (0, 1)).2 + dotP (M.getD i []) ys)) → Q (.ref D) H'
end
end My

namespace My
open PySem PySem.Spec PyProof.Rows L2 Pre
theorem take_sum {ws ys : List Int} {k : Nat} (h : k < ws.length) : dotP (ws.take (k + 1)) ys = dotP (ws.take k) ys + ws.getD k 0 * ys.getD k 0 := dot_take ws ys k h
theorem plus_whole (x y : Int) : lowF (x * 1 + y * 1) (1 * 1) = (x + y, 1) := by
  rw [Int.mul_one, Int.mul_one, Int.mul_one, lowF_one]
theorem neg_bd {l : List Int} (h : ∀ w ∈ l, w.natAbs < 2 ^ 200) : ∀ w ∈ negW l, w.natAbs < 2 ^ 200 := fun w hw => by
  obtain ⟨v, hv, rfl⟩ := List.mem_map.mp hw
  have := h v hv
  split
  · exact this
  · exact Nat.two_pow_pos 200
theorem pos_bd {l : List Int} (h : ∀ w ∈ l, w.natAbs < 2 ^ 200) : ∀ w ∈ posW l, w.natAbs < 2 ^ 200 := fun w hw => by
  obtain ⟨v, hv, rfl⟩ := List.mem_map.mp hw
  have := h v hv
  split
  · exact Nat.two_pow_pos 200
  · exact this
theorem sum_bd {x : Int} {ws ys : List Int} {k : Nat} (hx : x.natAbs < 2 ^ 380) (hw : ∀ w ∈ ws, w.natAbs < 2 ^ 200) (hl : ws.length ≤ 4) (hy : ∀ y ∈ ys, y.natAbs < 2 ^ 100) : (x + dotP (ws.take k) ys).natAbs < 2 ^ 390 := by
  have d := dot_lt (ws := ws.take k) (a := 200) (c := 100) (fun w h => hw w (List.take_subset _ _ h)) hy (by rw [List.length_take]; omega)
  have e := Int.natAbs_add_le x (dotP (ws.take k) ys)
  have f : (2 : Nat) ^ (200 + 100 + 3) < 2 ^ 380 := Nat.pow_lt_pow_right (by decide) (by decide)
  have g : (2 : Nat) ^ 390 = 1024 * 2 ^ 380 := by rw [show (390 : Nat) = 10 + 380 from rfl, Nat.pow_add]
  omega
local macro_rules | `(tactic| walk_at "go") => `(tactic| repeat (first | (with_reducible first | refine iteT ?_ | refine iteF ?_ | refine iteNtt ?_ | refine iteNff ?_ | refine iteET (by omega) ?_ | refine iteEF (by omega) ?_ | refine iteENT (by omega) ?_ | refine iteENF (by omega) ?_ | refine iteDT (by omega) ?_ | refine iteDF (by omega) ?_ | refine iteNT (by omega) ?_ | refine iteNF (by omega) ?_) | refine ⟨_, rfl, ?_⟩ | refine ⟨_, _, rfl, rfl, ?_⟩ | refine ⟨_, _, rfl, ?_⟩ | refine ⟨rfl, ?_⟩ | refine .inl ⟨_, rfl, ?_⟩ | refine .inr ⟨_, rfl, ?_⟩))
local macro_rules | `(tactic| walk_at "b") => `(tactic| try dsimp (config := { proj := false, iota := false, eta := false, zeta := false }) only)
section
variable {P : Program} {w : World} {K : PySem.W.Frag} {mg : Str → Option Value} {base : Heap}
def sp_law_grown (K : PySem.W.Frag) : Sp := fun vs H Q _ => ∃ (H0 H1 : Hp) (a b c : Addr) (M : List (List Int)) (es : List (Int × Int)) (ys : List Int) (m n : Nat), vs = [.ref a, .ref b, .ref c] ∧ FrMat H0 H a (frM m M) ∧ Sq n M ∧ (∀ l ∈ M, ∀ w ∈ l, w.natAbs < 2 ^ 200) ∧ FrRow H1 H b es ∧ es.length = n ∧ (∀ z ∈ es, z.1.natAbs < 2 ^ 380 ∧ z.2.natAbs < 2 ^ 380) ∧ H c = some (.lst ((ys.map fun y => 2 ^ m * y).map V.int)) ∧ ys.length = n ∧ (∀ y ∈ ys, 0 ≤ y ∧ y.natAbs < 2 ^ 100) ∧ 1 ≤ n ∧ n ≤ 4 ∧ m ≤ 15 ∧ ∀ H' D, Same H H' → FrRow H H' D ((List.range n).map fun i => ((es.getD i (0, 1)).1 + dotP (negW (M.getD i [])) ys, (es.getD i (0, 1)).2 + dotP (posW (M.getD i [])) ys)) → Q (.ref D) H'
end
end My

namespace My
open PySem PySem.Spec PyProof.Rows L2 Pre
/-- the least and the greatest of all lists -/
theorem ends_lists {bs : List (Int × Int)} {f : List Int → Int} {L : List (List Int)} {m1 m2 : Int} (hL : ∀ x, x ∈ L ↔ InB bs x) (h1 : m1 ∈ L.map f) (h2 : ∀ y ∈ L.map f, m1 ≤ y) (h3 : m2 ∈ L.map f) (h4 : ∀ y ∈ L.map f, y ≤ m2) : ∃ c d, m1 = f c ∧ m2 = f d ∧ EndB bs f c d := by
  obtain ⟨c, hc, rfl⟩ := List.mem_map.mp h1
  obtain ⟨d, hd, rfl⟩ := List.mem_map.mp h3
  exact ⟨c, d, rfl, rfl, (hL c).mp hc, (hL d).mp hd, fun x hx => ⟨h2 _ (List.mem_map_of_mem ((hL x).mpr hx)), h4 _ (List.mem_map_of_mem ((hL x).mpr hx))⟩⟩
theorem in_rep {n : Nat} {lo hi : Int} {x : List Int} : InB (List.replicate n (lo, hi)) x ↔ x.length = n ∧ ∀ v ∈ x, lo ≤ v ∧ v ≤ hi := by
  have r : ∀ k, k < n → (List.replicate n (lo, hi)).getD k (0, 0) = (lo, hi) := fun k hk => by
    rw [getD_lt (by rw [List.length_replicate]; exact hk)]
    exact List.getElem_replicate _
  constructor
  · rintro ⟨h1, h2⟩
    rw [List.length_replicate] at h1 h2
    refine ⟨h1, fun v hv => ?_⟩
    obtain ⟨k, hk⟩ := List.getElem?_of_mem hv
    have hl := (List.getElem?_eq_some_iff.mp hk).1
    have := h2 k (by omega)
    rw [r k (by omega), List.getD_eq_getElem?_getD, hk] at this
    exact this
  · rintro ⟨h1, h2⟩
    refine ⟨by rw [List.length_replicate]; exact h1, fun k hk => ?_⟩
    rw [List.length_replicate] at hk
    rw [r k hk, getD_lt (by omega)]
    exact h2 _ (List.getElem_mem _)
theorem lists_in {n m : Nat} {lo hi : Int} (h : hi = lo + m - 1) (x : List Int) : x ∈ listsF (rngI lo m) n ↔ InB (List.replicate n (lo, hi)) x := by
  rw [mem_listsF, in_rep]
  constructor
  · rintro ⟨h1, h2⟩
    exact ⟨h1, fun v hv => by have := mem_rngI.mp (h2 v hv); omega⟩
  · rintro ⟨h1, h2⟩
    exact ⟨h1, fun v hv => mem_rngI.mpr (by have := h2 v hv; omega)⟩
theorem grown_rep {m a b y : Int} {n d : Nat} (h1 : a = -hN d) (h2 : b + m * y = hN d - 1) : grownB m (List.replicate n (a, b)) (List.replicate n y) = boxN n d := by
  unfold grownB boxN
  induction n with
  | zero => rfl
  | succ n ih =>
    rw [List.replicate_succ, List.replicate_succ, List.replicate_succ, List.zipWith_cons_cons, ih, ← h1, ← h2]
local macro_rules | `(tactic| walk_at "go") => `(tactic| repeat (first | (with_reducible first | refine iteT ?_ | refine iteF ?_ | refine iteNtt ?_ | refine iteNff ?_ | refine iteET (by omega) ?_ | refine iteEF (by omega) ?_ | refine iteENT (by omega) ?_ | refine iteENF (by omega) ?_ | refine iteDT (by omega) ?_ | refine iteDF (by omega) ?_ | refine iteNT (by omega) ?_ | refine iteNF (by omega) ?_) | refine ⟨_, rfl, ?_⟩ | refine ⟨_, _, rfl, rfl, ?_⟩ | refine ⟨_, _, rfl, ?_⟩ | refine ⟨rfl, ?_⟩ | refine .inl ⟨_, rfl, ?_⟩ | refine .inr ⟨_, rfl, ?_⟩))
local macro_rules | `(tactic| walk_at "b") => `(tactic| try dsimp (config := { proj := false, iota := false, eta := false, zeta := false }) only)
section
variable {P : Program} {w : World} {K : PySem.W.Frag} {mg : Str → Option Value} {base : Heap}
def sp_law_depth : Sp := fun vs H Q _ => ∃ lo hi : Int, vs = [.int lo, .int hi] ∧ lo ≤ hi ∧ depthP (lo, hi) ≤ 1000 ∧ Q (.int (depthP (lo, hi) : Nat)) H
theorem G_law_depth (T : Top K mg) : FnOk P w K mg base CX0 1 T.f_law_depth T.fd_law_depth ["_law_low", "_law_high"] sp_law_depth := by
  refine T.F_law_depth.ok sc_law_depth (fun vs H Q E h => by obtain ⟨lo, hi, rfl, _⟩ := h; rfl) (fun cdv A outer s H vs Q E hr h => ?_)
  obtain ⟨lo, hi, rfl, hle, hbd, q⟩ := h
  refine ⟨_, PSs.nox (pss_cons (ps_set (i := 2) sc_law_depth.nd rfl (by first | exact Or.inl rfl | exact Or.inr rfl) pe_int)
  (pss_cons (ps_while PassesOwn.never (PW.pt (pw_or (pt_cmpR op_lt (pv 0) (pe_op op_sub pe_int (pe_op op_shl pe_int (pe_op op_sub (pv 2) pe_int))) (nomark _)) (pw_or1 (pt_cmpR op_gt (pv 1) (pe_op op_sub (pe_op op_shl pe_int (pe_op op_sub (pv 2) pe_int)) pe_int) (nomark _)))))
    (pss_one (ps_set (i := 2) sc_law_depth.nd rfl (by first | exact Or.inl rfl | exact Or.inr rfl) (pe_op op_add (pv 2) pe_int))))
  (pss_one (ps_ret (pv 2))))), ?_⟩
  have hp := depth_pos (lo, hi)
  walk_at "go"
  refine ⟨fun m σ H2 => ∃ e : Nat, σ = [some (.int lo), some (.int hi), some (.int e)] ∧ 1 ≤ e ∧ e ≤ depthP (lo, hi) ∧ m = depthP (lo, hi) - e ∧ H2 = H, ⟨_, 1, rfl, Nat.le_refl _, hp, rfl, rfl⟩, ?_⟩
  rintro m σ H2 ⟨e, rfl, he1, he2, rfl, rfl⟩
  have sh : CPow 1 ((e : Int) - 1) := ⟨by omega, by omega, by decide⟩
  have ep : (1 : Int) * 2 ^ ((e : Int) - 1).toNat = 2 ^ (e - 1) := by rw [Int.one_mul, show ((e : Int) - 1).toNat = e - 1 by omega]
  have eq := depth_le (p := (lo, hi)) (e := e - 1)
  rw [show e - 1 + 1 = e by omega] at eq
  dsimp only at eq
  walk_at "go"
  refine ⟨sh, ?_⟩
  walk_at "b"
  rw [ep]
  have more : e < depthP (lo, hi) → ∃ N : L2.St → Hp → Prop, (∀ σ' H', N σ' H' → ∃ m', m' < depthP (lo, hi) - e ∧ ∃ e : Nat, σ' = [some (.int lo), some (.int hi), some (.int e)] ∧ 1 ≤ e ∧ e ≤ depthP (lo, hi) ∧ m' = depthP (lo, hi) - e ∧ H' = H2) ∧ N [some (.int lo), some (.int hi), some (.int ((e : Int) + 1))] H2 := fun he => ⟨fun σ' H' => σ' = [some (.int lo), some (.int hi), some (.int ((e : Int) + 1))] ∧ H' = H2, fun σ' H' h => ⟨depthP (lo, hi) - (e + 1), by omega, e + 1, h.1, by omega, by omega, rfl, h.2⟩, rfl, rfl⟩
  walk_at "go"
  by_cases c1 : lo < 0 - 2 ^ (e - 1)
  · have he : e < depthP (lo, hi) := by omega
    obtain ⟨N, hN1, hN2⟩ := more he
    refine iteDT c1 (iteT ⟨N, hN1, ?_⟩)
    walk_at "go"
    exact hN2
  · refine iteDF c1 ?_
    walk_at "go"
    refine ⟨sh, ?_⟩
    walk_at "b"
    rw [ep]
    walk_at "go"
    by_cases c2 : 2 ^ (e - 1) - 1 < hi
    · have he : e < depthP (lo, hi) := by omega
      obtain ⟨N, hN1, hN2⟩ := more he
      refine iteDT c2 ⟨N, hN1, ?_⟩
      walk_at "go"
      exact hN2
    · have he : depthP (lo, hi) = e := by omega
      refine iteDF c2 ?_
      walk_at "go"
      rw [he] at q
      exact q
def sp_law_all_ends (K : PySem.W.Frag) : Sp := fun vs H Q _ => ∃ (N : Addr → Prop) (p : Addr) (n d : Nat) (ss : List Step), vs = [.ref p, .int n, .int d] ∧ StepsAt N H p ss ∧ (∀ s ∈ ss, s.ok n) ∧ 1 ≤ n ∧ n ≤ 4 ∧ ss.length ≤ 6 ∧ bitsS ss ≤ 15 ∧ (2 ^ bitsS ss) ^ n ≤ 1000 ∧ 1 ≤ d ∧ d ≤ 32 ∧ ∀ H' D, Same H H' → FrRow H H' D ((List.range n).map (endV n (boxN n d) ss)) → Q (.ref D) H'
theorem G_law_all_ends (T : Top K mg) : FnOk P w K mg base CX0 4 T.f_law_all_ends T.fd_law_all_ends ["_law_steps_here", "_law_broad", "_law_depth_here"] (sp_law_all_ends K) := by
  refine T.F_law_all_ends.ok sc_law_all_ends (fun vs H Q E h => by obtain ⟨N, p, n, d, ss, rfl, _⟩ := h; rfl) (fun cdv A outer s H vs Q E hr h => ?_)
  obtain ⟨N, p, n, d, ss, rfl, hS, hO, hn1, hn4, hl, hb, hpow, hd1, hd, q⟩ := h
  refine ⟨_, PSs.nox (pss_cons (ps_set (i := 3) sc_law_all_ends.nd rfl (by first | exact Or.inl rfl | exact Or.inr rfl) (pe_call (G_law_bits T) (hr.mono (by decide)) (by rfl) T.g_law_bits T.F_law_bits.kp T.b_law_bits .nil pass0 (pa_cons (pv 0) pa_nil)))
  (pss_cons (ps_set (i := 4) sc_law_all_ends.nd rfl (by first | exact Or.inl rfl | exact Or.inr rfl) (pe_op op_sub pe_int (pe_op op_shl pe_int (pe_op op_sub (pv 2) pe_int))))
  (pss_cons (ps_if (pt_cmpR op_le (pv 2) (pv 3) (nomark _))
    (pss_cons (ps_set (i := 6) sc_law_all_ends.nd rfl (Or.inr rfl) (pe_lc (own := [("_law_row", 14)]) (g := gName 14) (tt := tYes) (by rfl) sc_law_all_ends.nd (k_piL K rfl (pe_call (G_law_lists T) (hr.mono (by decide)) (by rfl) T.g_law_lists T.F_law_lists.kp T.b_law_lists .nil pass0 (pa_cons (pv 1) (pa_cons (pv 4) (pa_cons (pe_op op_sub (pe_op op_sub pe_int (pv 4)) pe_int) pa_nil))))) (blkOk_by (own := [("_law_row", 14)]) (N := N_law_all_ends) (sc := defScope s_law_all_ends) (by decide +kernel)) (fun _ _ _ _ _ => (pg_name (i := 14) sc_law_all_ends.nd rfl (by first | exact Or.inl rfl | exact Or.inr rfl))) (fun _ _ _ _ _ => pts_nil) (fun _ _ _ _ _ => (pe_call (G_law_played T) (hr.mono (by decide)) (by rfl) T.g_law_played T.F_law_played.kp T.b_law_played .nil pass0 (pa_cons (pv 0) (pa_cons (pv 14) pa_nil))))))
  (pss_one (ps_ret (pe_lc (own := [("_law_at", 5)]) (g := gName 5) (tt := tYes) (by rfl) sc_law_all_ends.nd (pi_range1 (by rfl) T.n_range (pa_cons (pv 1) pa_nil)) (blkOk_by (own := [("_law_at", 5)]) (N := N_law_all_ends) (sc := defScope s_law_all_ends) (by decide +kernel)) (fun _ _ _ _ _ => (pg_name (i := 5) sc_law_all_ends.nd rfl (by first | exact Or.inl rfl | exact Or.inr rfl))) (fun _ _ _ _ _ => pts_nil) (fun _ _ _ _ _ => (pe_tup (pa_cons (pe_callB (k_min K rfl rfl) (by rfl) T.n_min (by decide +kernel) (pa_cons (pe_lc (own := [("_law_row", 14)]) (g := gName 14) (tt := tYes) (by rfl) sc_law_all_ends.nd (k_piL K rfl (pv 6)) (blkOk_by (own := [("_law_row", 14)]) (N := N_law_all_ends) (by kernel_rfl)) (fun _ _ _ _ _ => (pg_name (i := 14) sc_law_all_ends.nd rfl (by first | exact Or.inl rfl | exact Or.inr rfl))) (fun _ _ _ _ _ => pts_nil) (fun _ _ _ _ _ => (pe_ix (k_ixL K rfl) (pv 14) (pv 5) (fun _ _ => rfl)))) pa_nil)) (pa_cons (pe_callB (k_max K rfl rfl) (by rfl) T.n_max (by decide +kernel) (pa_cons (pe_lc (own := [("_law_row", 14)]) (g := gName 14) (tt := tYes) (by rfl) sc_law_all_ends.nd (k_piL K rfl (pv 6)) (blkOk_by (own := [("_law_row", 14)]) (N := N_law_all_ends) (by kernel_rfl)) (fun _ _ _ _ _ => (pg_name (i := 14) sc_law_all_ends.nd rfl (by first | exact Or.inl rfl | exact Or.inr rfl))) (fun _ _ _ _ _ => pts_nil) (fun _ _ _ _ _ => (pe_ix (k_ixL K rfl) (pv 14) (pv 5) (fun _ _ => rfl)))) pa_nil)) pa_nil))))))))
    pss_nil)
  (pss_cons (ps_par (by rfl) sc_law_all_ends.nd (i := 7) (j := 8) rfl rfl (by decide) rfl rfl (pa_cons (pe_op op_shl pe_int (pv 3)) (pa_cons (pe_call (G_law_matrix T) (hr.mono (by decide)) (by rfl) T.g_law_matrix T.F_law_matrix.kp T.b_law_matrix .nil pass0 (pa_cons (pv 0) (pa_cons (pv 1) pa_nil))) pa_nil)) (by rfl))
  (pss_cons (ps_asg (pe_tup (pa_cons (pe_lc (own := [("_law_row", 14)]) (g := gName 14) (tt := tYes) (by rfl) sc_law_all_ends.nd (k_piL K rfl (pe_call (G_law_lists T) (hr.mono (by decide)) (by rfl) T.g_law_lists T.F_law_lists.kp T.b_law_lists .nil pass0 (pa_cons (pv 1) (pa_cons (pv 4) (pa_cons (pe_op op_sub (pe_op op_add (pv 4) (pv 7)) pe_int) pa_nil))))) (blkOk_by (own := [("_law_row", 14)]) (N := N_law_all_ends) (sc := defScope s_law_all_ends) (by decide +kernel)) (fun _ _ _ _ _ => (pg_name (i := 14) sc_law_all_ends.nd rfl (by first | exact Or.inl rfl | exact Or.inr rfl))) (fun _ _ _ _ _ => pts_nil) (fun _ _ _ _ _ => (pe_call (G_law_played T) (hr.mono (by decide)) (by rfl) T.g_law_played T.F_law_played.kp T.b_law_played .nil pass0 (pa_cons (pv 0) (pa_cons (pv 14) pa_nil))))) (pa_cons (pe_lst pa_nil) pa_nil))) (k_pgT K rfl (by rfl) (pgs_cons (pg_name (i := 6) sc_law_all_ends.nd rfl (by first | exact Or.inl rfl | exact Or.inr rfl)) (pgs_cons (pg_name (i := 9) sc_law_all_ends.nd rfl (by first | exact Or.inl rfl | exact Or.inr rfl)) pgs_nil))))
  (pss_cons (ps_for PassesOwn.never rfl (pi_range1 (by rfl) T.n_range (pa_cons (pv 1) pa_nil)) (pg_name (i := 5) sc_law_all_ends.nd rfl (by first | exact Or.inl rfl | exact Or.inr rfl))
    (pss_cons (ps_par (by rfl) sc_law_all_ends.nd (i := 11) (j := 12) rfl rfl (by decide) rfl rfl (pa_cons (pe_callB (k_min K rfl rfl) (by rfl) T.n_min (by decide +kernel) (pa_cons (pe_lc (own := [("_law_row", 14)]) (g := gName 14) (tt := tYes) (by rfl) sc_law_all_ends.nd (k_piL K rfl (pv 6)) (blkOk_by (own := [("_law_row", 14)]) (N := N_law_all_ends) (sc := defScope s_law_all_ends) (by decide +kernel)) (fun _ _ _ _ _ => (pg_name (i := 14) sc_law_all_ends.nd rfl (by first | exact Or.inl rfl | exact Or.inr rfl))) (fun _ _ _ _ _ => pts_nil) (fun _ _ _ _ _ => (pe_ix (k_ixL K rfl) (pv 14) (pv 5) (fun _ _ => rfl)))) pa_nil)) (pa_cons (pe_callB (k_max K rfl rfl) (by rfl) T.n_max (by decide +kernel) (pa_cons (pe_lc (own := [("_law_row", 14)]) (g := gName 14) (tt := tYes) (by rfl) sc_law_all_ends.nd (k_piL K rfl (pv 6)) (blkOk_by (own := [("_law_row", 14)]) (N := N_law_all_ends) (sc := defScope s_law_all_ends) (by decide +kernel)) (fun _ _ _ _ _ => (pg_name (i := 14) sc_law_all_ends.nd rfl (by first | exact Or.inl rfl | exact Or.inr rfl))) (fun _ _ _ _ _ => pts_nil) (fun _ _ _ _ _ => (pe_ix (k_ixL K rfl) (pv 14) (pv 5) (fun _ _ => rfl)))) pa_nil)) pa_nil)) (by rfl))
  (pss_cons (ps_for PassesOwn.never rfl (pi_range1 (by rfl) T.n_range (pa_cons (pv 1) pa_nil)) (pg_name (i := 10) sc_law_all_ends.nd rfl (by first | exact Or.inl rfl | exact Or.inr rfl))
    (pss_cons (ps_set (i := 13) sc_law_all_ends.nd rfl (by first | exact Or.inl rfl | exact Or.inr rfl) (pe_call (G_law_times T) (hr.mono (by decide)) (by rfl) T.g_law_times T.F_law_times.kp T.b_law_times .nil pass0 (pa_cons (pe_ix (k_ixL K rfl) (pe_ix (k_ixL K rfl) (pv 8) (pv 5) (fun _ _ => rfl)) (pv 10) (fun _ _ => rfl)) (pa_cons (pe_tup (pa_cons (pe_op op_sub (pe_op op_shl pe_int (pv 2)) (pv 7)) (pa_cons pe_int pa_nil))) pa_nil))))
  (pss_one (ps_par (by rfl) sc_law_all_ends.nd (i := 11) (j := 12) rfl rfl (by decide) rfl rfl (pa_cons (pe_op op_add (pv 11) (pe_callB (call_min2 rfl) (by rfl) T.n_min (by decide +kernel) (pa_cons (pe_ix (k_ixT K rfl) (pv 13) pe_int (fun _ _ => rfl)) (pa_cons pe_int pa_nil)))) (pa_cons (pe_op op_add (pv 12) (pe_callB (call_max2 rfl) (by rfl) T.n_max (by decide +kernel) (pa_cons (pe_ix (k_ixT K rfl) (pv 13) pe_int (fun _ _ => rfl)) (pa_cons pe_int pa_nil)))) pa_nil)) (by rfl)))))
  (pss_one (ps_expr (pe_bm PySem.F.plainAttrs_list PySem.F.slot_list_append PySem.F.type_list_append mt_append (pv 9) (pa_cons (pe_tup (pa_cons (pv 11) (pa_cons (pv 12) pa_nil))) pa_nil)))))))
  (pss_one (ps_ret (pv 9))))))))), ?_⟩
  have h0 := hN_pos d
  have he := hN_eq d
  have ep : (1 : Int) * 2 ^ ((d : Int) - 1).toNat = hN d := by rw [Int.one_mul, show ((d : Int) - 1).toNat = d - 1 by omega, he]
  walk_at "go"
  refine ⟨_, p, ss, rfl, hS, by omega, fun H1 s1 => ?_⟩
  walk_at "go"
  refine ⟨⟨by omega, by omega, by decide⟩, ?_⟩
  walk_at "b"
  rw [ep]
  walk_at "go"
  by_cases cd : d ≤ bitsS ss
  · refine iteDT (by omega) ?_
    have e2 : ((2 ^ d : Nat) : Int) = 2 * hN d := by
      rw [he, Int.natCast_pow, show d = (d - 1) + 1 by omega, Int.pow_succ, Nat.add_sub_cancel]
      exact Int.mul_comm _ _
    have h31 : hN d ≤ 2 ^ 31 := by rw [he]; exact pow2_le (by omega)
    have lpow : (2 ^ d) ^ n ≤ 1000 := Nat.le_trans (Nat.pow_le_pow_left (Nat.pow_le_pow_right (by decide) cd) n) hpow
    walk_at "go"
    refine ⟨n, 2 ^ d, 0 - hN d, 0 - (0 - hN d) - 1, rfl, hn4, by omega, Nat.two_pow_pos d, by omega, by omega, lpow, fun H2 R s2 hR => ?_⟩
    obtain ⟨ps, hRp, hps, eps⟩ := hR.rows.prs
    have s02 := s1.trans s2
    obtain ⟨L, eL⟩ : ∃ L, L = listsF (rngI (0 - hN d) (2 ^ d)) n := ⟨_, rfl⟩
    have eB : List.replicate n (0 - hN d, 0 - (0 - hN d) - 1) = boxN n d := by unfold boxN; congr 2 <;> omega
    have Lin : ∀ x, x ∈ L ↔ InB (boxN n d) x := fun x => by rw [eL, ← eB]; exact lists_in (by omega) x
    have L1000 : L.length ≤ 1000 := by rw [eL, len_listsF, rng_len]; exact lpow
    have Lpos : 0 < L.length := by
      obtain ⟨x0, hx0⟩ := (boxN_some n d)
      exact List.length_pos_of_mem ((Lin x0).mpr hx0)
    have Ll : ∀ r ∈ L, r.length = n := fun r hr => by rw [eL] at hr; exact (mem_listsF.mp hr).1
    rw [← eL] at eps
    obtain ⟨sub⟩ : Nonempty Unit := ⟨()⟩
    walk_at "go"
    refine ⟨⟨_, .inl (.inl hRp)⟩, fun D nD => ?_⟩
    refine lc_rowsL (K := K) (xs := refsL ps) (L.map fun x => some (playF ss x)) nD (.inl (.inl hRp)) (by unfold refsL; rw [List.length_map, List.length_map, ← eps, List.length_map]) (by unfold refsL; rw [List.length_map, ← List.length_map (f := Prod.snd), eps]; exact small1000 L1000) (fun x => rfl) ?_ ?_
    · intro i x o H' hx ho s' Qt _ h2
      obtain ⟨c, hc, hcm, rfl⟩ := refsL_at hx
      rw [List.getElem?_map, ← eps, List.getElem?_map, hc] at ho
      cases ho
      have lc : c.2.length = n := Ll c.2 (by rw [← eps]; exact List.mem_map_of_mem hcm)
      unfold tYes
      dsimp only
      rw [if_pos (show true = true from rfl)]
      walk_at "go"
      exact ⟨N, p, c.1, ss, c.2, rfl, hS.same (s02.trans s'), s' _ _ (hps c hcm), by rw [lc]; exact hO, by omega, fun H3 p3 s3 np3 h3 => h2 _ rfl p3 H3 s3 np3 h3⟩
    intro HF as sF hDF hNF
    rw [fm_some] at hNF
    obtain ⟨las, hN2⟩ := hNF
    have s0F := s02.trans sF
    walk_at "go"
    refine ⟨by omega, by omega, fun D2 nD2 => ?_⟩
    rw [Int.toNat_natCast]
    refine lc_pairsR (lo := 0) (n := n) ((List.range n).map (endV n (boxN n d) ss)) nD2 (by rw [List.length_map, List.length_range]) (small1000 (by omega)) (fun x => rfl) ?_ ?_
    · intro k pp H' hk hpp s' Qt qt
      rw [List.getElem?_map, List.getElem?_range hk] at hpp
      cases hpp
      rw [Int.zero_add]
      walk_at "go"
      refine ⟨⟨_, .inl (.inl (s' _ _ hDF))⟩, fun D3 nD3 => ?_⟩
      refine lc_mapL (K := K) (xs := as.map V.ref) ((L.map (outF ss k)).map V.int) nD3 (.inl (.inl (s' _ _ hDF))) (by rw [List.length_map, List.length_map, List.length_map, las, List.length_map]) (by rw [List.length_map, las, List.length_map]; exact small1000 L1000) (fun x => rfl) ?_ ?_
      · intro j x y H5 hx hy s5 Qt2 qt2
        rw [List.getElem?_map] at hx hy
        obtain ⟨a, ea, rfl⟩ := Option.map_eq_some_iff.mp hx
        rw [List.getElem?_map] at hy
        obtain ⟨v, hv, rfl⟩ := Option.map_eq_some_iff.mp hy
        obtain ⟨r, er, rfl⟩ := Option.map_eq_some_iff.mp hv
        obtain ⟨_, _, ha⟩ := hN2 j a (playF ss r) ea (by rw [List.getElem?_map, er]; rfl)
        have lr := Ll r (List.mem_of_getElem? er)
        walk_at "go"
        refine ⟨a, _, _, _, rfl, rfl, .inl (.inl ((s'.trans s5) _ _ ha)), at_getD (by rw [play_len, lr]; exact hk), ?_⟩
        exact qt2 _ (Same.refl _)
      intro HD3 sD3 hD3
      walk_at "go"
      refine ⟨D3, _, rfl, .inl (.inl hD3), by rw [List.length_map]; exact Lpos, fun m1 h3 h4 => ?_⟩
      walk_at "go"
      refine ⟨⟨_, .inl (.inl ((s'.trans sD3) _ _ hDF))⟩, fun D4 nD4 => ?_⟩
      refine lc_mapL (K := K) (xs := as.map V.ref) ((L.map (outF ss k)).map V.int) nD4 (.inl (.inl ((s'.trans sD3) _ _ hDF))) (by rw [List.length_map, List.length_map, List.length_map, las, List.length_map]) (by rw [List.length_map, las, List.length_map]; exact small1000 L1000) (fun x => rfl) ?_ ?_
      · intro j x y H5 hx hy s5 Qt2 qt2
        rw [List.getElem?_map] at hx hy
        obtain ⟨a, ea, rfl⟩ := Option.map_eq_some_iff.mp hx
        rw [List.getElem?_map] at hy
        obtain ⟨v, hv, rfl⟩ := Option.map_eq_some_iff.mp hy
        obtain ⟨r, er, rfl⟩ := Option.map_eq_some_iff.mp hv
        obtain ⟨_, _, ha⟩ := hN2 j a (playF ss r) ea (by rw [List.getElem?_map, er]; rfl)
        have lr := Ll r (List.mem_of_getElem? er)
        walk_at "go"
        refine ⟨a, _, _, _, rfl, rfl, .inl (.inl (((s'.trans sD3).trans s5) _ _ ha)), at_getD (by rw [play_len, lr]; exact hk), ?_⟩
        exact qt2 _ (Same.refl _)
      intro HD4 sD4 hD4
      walk_at "go"
      refine ⟨D4, _, rfl, .inl (.inl hD4), by rw [List.length_map]; exact Lpos, fun m2 h5 h6 => ?_⟩
      obtain ⟨c, d', e3, e4, hE⟩ := ends_lists Lin h3 h4 h5 h6
      refine ⟨(show 2 ≤ sizeLine by decide), fun u nu => ?_⟩
      refine qt u _ ((sD3.trans sD4).trans (same_upd nu)) ?_
      rw [upd_same, endV_eq hO hk (boxN_len n d) hE, ← e3, ← e4]
    · intro H5 s5 hF5
      exact q H5 D2 (s0F.trans s5) (hF5.older s0F)
  · refine iteDF (by omega) ?_
    have p0 := p2_pos (bitsS ss)
    have eb : (1 : Int) * 2 ^ ((bitsS ss : Nat) : Int).toNat = 2 ^ bitsS ss := by rw [Int.one_mul, Int.toNat_natCast]
    have ed : (1 : Int) * 2 ^ ((d : Nat) : Int).toNat = 2 ^ d := by rw [Int.one_mul, Int.toNat_natCast]
    have e2 : (2 : Int) ^ d = 2 * hN d := by
      rw [he, show d = (d - 1) + 1 by omega, Int.pow_succ, Nat.add_sub_cancel]
      exact Int.mul_comm _ _
    have ecb : ((2 ^ bitsS ss : Nat) : Int) = 2 ^ bitsS ss := by rw [Int.natCast_pow]; rfl
    have h31 : hN d ≤ 2 ^ 31 := by rw [he]; exact pow2_le (by omega)
    have b15 : (2 : Int) ^ bitsS ss ≤ 2 ^ 15 := pow2_le hb
    have bd : (2 : Int) ^ bitsS ss * 2 ^ (d - bitsS ss) = 2 ^ d := by
      rw [← Int.pow_add]
      congr 1
      omega
    have q0 := p2_pos (d - bitsS ss)
    have q31 : (2 : Int) ^ (d - bitsS ss) ≤ 2 ^ 32 := pow2_le (by omega)
    obtain ⟨y, hy⟩ : ∃ y : Int, y = 2 ^ (d - bitsS ss) - 1 := ⟨_, rfl⟩
    have y0 : 0 ≤ y := by omega
    have my : (2 : Int) ^ bitsS ss * y = 2 ^ d - 2 ^ bitsS ss := by rw [hy, Int.mul_sub, bd, Int.mul_one]
    walk_at "go"
    refine ⟨⟨by omega, by omega, by decide⟩, ?_⟩
    walk_at "b"
    rw [eb]
    walk_at "go"
    refine ⟨N, p, n, ss, rfl, hS.same s1, hO, hn1, hn4, by omega, by omega, fun H1b Dm s1b F1 => ?_⟩
    have s1 := s1.trans s1b
    walk_at "go"
    refine ⟨n, 2 ^ bitsS ss, 0 - hN d, 0 - hN d + 2 ^ bitsS ss - 1, rfl, hn4, by omega, Nat.two_pow_pos _, by omega, by omega, hpow, fun H2 R s2 hR => ?_⟩
    obtain ⟨ps, hRp, hps, eps⟩ := hR.rows.prs
    have s02 := s1.trans s2
    obtain ⟨L, eL⟩ : ∃ L, L = listsF (rngI (0 - hN d) (2 ^ bitsS ss)) n := ⟨_, rfl⟩
    obtain ⟨ws, hws⟩ : ∃ ws, ws = List.replicate n (0 - hN d, 0 - hN d + 2 ^ bitsS ss - 1) := ⟨_, rfl⟩
    have hwl : ws.length = n := by rw [hws, List.length_replicate]
    have hww : ∀ z ∈ ws, z.2 = z.1 + 2 ^ bitsS ss - 1 := fun z hz => by
      rw [hws] at hz
      rw [(List.mem_replicate.mp hz).2]
    have wsome : ∃ x, InB ws x := in_some fun z hz => by have := hww z hz; omega
    have Lin : ∀ x, x ∈ L ↔ InB ws x := fun x => by rw [eL, hws]; exact lists_in (by omega) x
    have L1000 : L.length ≤ 1000 := by rw [eL, len_listsF, rng_len]; exact hpow
    have Lpos : 0 < L.length := by
      obtain ⟨x0, hx0⟩ := wsome
      exact List.length_pos_of_mem ((Lin x0).mpr hx0)
    have Ll : ∀ r ∈ L, r.length = n := fun r hr => by rw [eL] at hr; exact (mem_listsF.mp hr).1
    rw [← eL] at eps
    obtain ⟨sub⟩ : Nonempty Unit := ⟨()⟩
    walk_at "go"
    refine ⟨⟨_, .inl (.inl hRp)⟩, fun D nD => ?_⟩
    refine lc_rowsL (K := K) (xs := refsL ps) (L.map fun x => some (playF ss x)) nD (.inl (.inl hRp)) (by unfold refsL; rw [List.length_map, List.length_map, ← eps, List.length_map]) (by unfold refsL; rw [List.length_map, ← List.length_map (f := Prod.snd), eps]; exact small1000 L1000) (fun x => rfl) ?_ ?_
    · intro i x o H' hx ho s' Qt _ h2
      obtain ⟨c, hc, hcm, rfl⟩ := refsL_at hx
      rw [List.getElem?_map, ← eps, List.getElem?_map, hc] at ho
      cases ho
      have lc : c.2.length = n := Ll c.2 (by rw [← eps]; exact List.mem_map_of_mem hcm)
      unfold tYes
      dsimp only
      rw [if_pos (show true = true from rfl)]
      walk_at "go"
      exact ⟨N, p, c.1, ss, c.2, rfl, hS.same (s02.trans s'), s' _ _ (hps c hcm), by rw [lc]; exact hO, by omega, fun H3 p3 s3 np3 h3 => h2 _ rfl p3 H3 s3 np3 h3⟩
    intro HF as sF hDF hNF
    rw [fm_some] at hNF
    obtain ⟨las, hN2⟩ := hNF
    have s0F := s02.trans sF
    walk_at "go"
    refine ⟨Nat.zero_le _, fun De nDe => ?_⟩
    obtain ⟨HE, eE, sE, hE0⟩ := fresh (.lst []) nDe
    rw [eE]
    refine ⟨(show 2 ≤ sizeLine by decide), fun T1 nT1 => ?_⟩
    obtain ⟨HT, eT, sT, hT⟩ := fresh (.tup [V.ref D, V.ref De]) nT1
    rw [eT]
    refine ⟨T1, _, rfl, .inl (.inl hT), rfl, _, _, rfl, _, _, rfl, rfl, ?_⟩
    refine restate [some (.ref p), some (.int n), some (.int d), some (.int (bitsS ss : Nat)), some (.int (0 - hN d)), none, some (.ref D), some (.int (2 ^ bitsS ss)), some (.ref Dm), some (.ref De), none, none, none, none, none] rfl ?_
    have s0T := s0F.trans (sE.trans sT)
    have hDT := (sE.trans sT) _ _ hDF
    have F1T := F1.same ((s2.trans sF).trans (sE.trans sT))
    have nlin := num_len hO
    walk_at "go"
    refine ⟨by omega, by omega, ?_⟩
    rw [Int.toNat_natCast]
    refine for_range (lo := 0) (n := n) (fun k σ H3 => ∃ (v5 v10 v11 v12 v13 : Option V), σ = [some (.ref p), some (.int n), some (.int d), some (.int (bitsS ss : Nat)), some (.int (0 - hN d)), v5, some (.ref D), some (.int (2 ^ bitsS ss)), some (.ref Dm), some (.ref De), v10, v11, v12, v13, none] ∧ Same HF H3 ∧ PairsTo H3 De (endV n (boxN n d) ss) k) ⟨none, none, none, none, none, rfl, sE.trans sT, [], sT _ _ hE0, rfl, fun j t h => nomatch h⟩ ?_ ?_
    · rintro k σ H3 hk ⟨v5, v10, v11, v12, v13, rfl, s3, hP⟩
      have FH := F1.same (s2.trans sF)
      obtain ⟨cc, xs, hx1, hx2, hFr, _⟩ := FH.at (i := k) (by rw [frM_len, nlin.1]; exact hk)
      rw [frM_getD] at hFr
      have lM := num_row_len hO hk
      have bM := num_row_bd hn4 hO hl hk
      rw [Int.zero_add]
      walk_at "go"
      refine ⟨⟨_, .inl (.inl (s3 _ _ hDF))⟩, fun D3 nD3 => ?_⟩
      refine lc_mapL (K := K) (xs := as.map V.ref) ((L.map (outF ss k)).map V.int) nD3 (.inl (.inl (s3 _ _ hDF))) (by rw [List.length_map, List.length_map, List.length_map, las, List.length_map]) (by rw [List.length_map, las, List.length_map]; exact small1000 L1000) (fun x => rfl) ?_ ?_
      · intro j x y H5 hx hy s5 Qt2 qt2
        rw [List.getElem?_map] at hx hy
        obtain ⟨a, ea, rfl⟩ := Option.map_eq_some_iff.mp hx
        rw [List.getElem?_map] at hy
        obtain ⟨v, hv, rfl⟩ := Option.map_eq_some_iff.mp hy
        obtain ⟨r, er, rfl⟩ := Option.map_eq_some_iff.mp hv
        obtain ⟨_, _, ha⟩ := hN2 j a (playF ss r) ea (by rw [List.getElem?_map, er]; rfl)
        have lr := Ll r (List.mem_of_getElem? er)
        walk_at "go"
        refine ⟨a, _, _, _, rfl, rfl, .inl (.inl ((s3.trans s5) _ _ ha)), at_getD (by rw [play_len, lr]; exact hk), ?_⟩
        exact qt2 _ (Same.refl _)
      intro HD3 sD3 hD3
      walk_at "go"
      refine ⟨D3, _, rfl, .inl (.inl hD3), by rw [List.length_map]; exact Lpos, fun m1 h3 h4 => ?_⟩
      walk_at "go"
      refine ⟨⟨_, .inl (.inl ((s3.trans sD3) _ _ hDF))⟩, fun D4 nD4 => ?_⟩
      refine lc_mapL (K := K) (xs := as.map V.ref) ((L.map (outF ss k)).map V.int) nD4 (.inl (.inl ((s3.trans sD3) _ _ hDF))) (by rw [List.length_map, List.length_map, List.length_map, las, List.length_map]) (by rw [List.length_map, las, List.length_map]; exact small1000 L1000) (fun x => rfl) ?_ ?_
      · intro j x y H5 hx hy s5 Qt2 qt2
        rw [List.getElem?_map] at hx hy
        obtain ⟨a, ea, rfl⟩ := Option.map_eq_some_iff.mp hx
        rw [List.getElem?_map] at hy
        obtain ⟨v, hv, rfl⟩ := Option.map_eq_some_iff.mp hy
        obtain ⟨r, er, rfl⟩ := Option.map_eq_some_iff.mp hv
        obtain ⟨_, _, ha⟩ := hN2 j a (playF ss r) ea (by rw [List.getElem?_map, er]; rfl)
        have lr := Ll r (List.mem_of_getElem? er)
        walk_at "go"
        refine ⟨a, _, _, _, rfl, rfl, .inl (.inl (((s3.trans sD3).trans s5) _ _ ha)), at_getD (by rw [play_len, lr]; exact hk), ?_⟩
        exact qt2 _ (Same.refl _)
      intro HD4 sD4 hD4
      walk_at "go"
      refine ⟨D4, _, rfl, .inl (.inl hD4), by rw [List.length_map]; exact Lpos, fun m2 h5 h6 => ?_⟩
      obtain ⟨c, d', e3, e4, hE⟩ := ends_lists Lin h3 h4 h5 h6
      have ysl : (List.replicate n y).length = n := List.length_replicate
      obtain ⟨c2, d2, hE2, f3, f4⟩ := grown_ends hO hk hwl hww ysl (fun z hz => by rw [(List.mem_replicate.mp hz).2]; exact y0) hE
      have eg : grownB (2 ^ bitsS ss) ws (List.replicate n y) = boxN n d := by
        rw [hws]
        refine grown_rep ?_ ?_ <;> omega
      rw [eg] at hE2
      have eV := endV_eq hO hk (boxN_len n d) hE2
      rw [f3, f4, ← e3, ← e4] at eV
      generalize (numF n ss).getD k [] = l at hFr lM bM eV
      have lnn : (negW l).length = n := by unfold negW; rw [List.length_map, lM]
      have lpp : (posW l).length = n := by unfold posW; rw [List.length_map, lM]
      have s34 := (s3.trans sD3).trans sD4
      have hP4 := hP.same (sD3.trans sD4)
      walk_at "go"
      refine ⟨by omega, by omega, ?_⟩
      rw [Int.toNat_natCast]
      refine for_range (lo := 0) (n := n) (fun k' σ H6 => ∃ (v10 v13 : Option V), σ = [some (.ref p), some (.int n), some (.int d), some (.int (bitsS ss : Nat)), some (.int (0 - hN d)), some (.int k), some (.ref D), some (.int (2 ^ bitsS ss)), some (.ref Dm), some (.ref De), v10, some (.int (m1 + dotP ((negW l).take k') (List.replicate n y))), some (.int (m2 + dotP ((posW l).take k') (List.replicate n y))), v13, none] ∧ Same HD4 H6) ⟨v10, v13, ?_, Same.refl _⟩ ?_ ?_
      · have z1 : ∀ ws : List Int, dotP (ws.take 0) (List.replicate n y) = 0 := fun ws => by
          rw [List.take_zero]
          cases List.replicate n y <;> rfl
        rw [z1, z1, Int.add_zero, Int.add_zero]
        rfl
      · rintro k' σ H6 hk' ⟨v10, v13, rfl, s6⟩
        obtain ⟨tk, zk, hk1, hk2, htk⟩ := hFr.at (i := k') (by rw [frL_len, lM]; exact hk')
        rw [frL_getD (bitsS ss) l (by rw [lM]; exact hk')] at htk
        have wb := bM (l.getD k' 0) (getD_inI (by rw [lM]; exact hk'))
        have s36 := s34.trans s6
        have yk : (List.replicate n y).getD k' 0 = y := by
          rw [getD_lt (by rw [ysl]; exact hk')]
          exact List.getElem_replicate _
        have en := take_sum (ws := negW l) (ys := List.replicate n y) (k := k') (by rw [lnn]; exact hk')
        have epp := take_sum (ws := posW l) (ys := List.replicate n y) (k := k') (by rw [lpp]; exact hk')
        rw [getD_neg, yk] at en
        rw [getD_pos, yk] at epp
        have cb : (2 ^ bitsS ss * y).natAbs < 2 ^ 100 := by
          rw [my]
          have : (2 : Int) ^ d ≤ 2 ^ 32 := pow2_le (by omega)
          have := p2_pos d
          omega
        rw [Int.zero_add]
        walk_at "go"
        refine ⟨Dm, _, _, _, rfl, rfl, .inl (.inl (s36 _ _ hx1)), hx2, ?_⟩
        walk_at "go"
        refine ⟨cc, _, _, _, rfl, rfl, .inl (.inl (s36 _ _ hk1)), hk2, ?_⟩
        walk_at "go"
        refine ⟨⟨by omega, by omega, by decide⟩, ?_⟩
        walk_at "b"
        rw [ed]
        walk_at "go"
        refine ⟨(show 2 ≤ sizeLine by decide), fun u3 nu3 => ?_⟩
        obtain ⟨H7, e7, s7, h7⟩ := fresh (.tup [.int (2 ^ bitsS ss * y), .int 1]) nu3
        rw [show upd H6 u3 (.tup [(fun (i j : Int) => V.int (i - j)) (2 ^ d) (2 ^ bitsS ss), V.int 1]) = H7 from by rw [← e7, my]]
        walk_at "go"
        refine ⟨tk, u3, _, _, rfl, .inl (.inl ((s36.trans s7) _ _ htk)), .inl (.inl h7), fr_ok wb (by omega) (by omega), one_ok cb (by decide), fun H8 p8 s8 np8 h8 => ?_⟩
        dsimp only at h8
        rw [led_part p0, show l.getD k' 0 * (2 ^ bitsS ss * y) = 2 ^ bitsS ss * (l.getD k' 0 * y) by ac_rfl, low_whole] at h8
        have s78 := s7.trans s8
        walk_at "go"
        refine ⟨p8, _, _, _, rfl, rfl, .inl (.inl h8), rfl, ?_⟩
        walk_at "go"
        refine ⟨p8, _, _, _, rfl, rfl, .inl (.inl h8), rfl, ?_⟩
        walk_at "go"
        have e1 : (if l.getD k' 0 < 0 then l.getD k' 0 else 0) * y = (if 0 < l.getD k' 0 * y then 0 else l.getD k' 0 * y) := by
          by_cases h : l.getD k' 0 < 0
          · have := Int.mul_nonpos_of_nonpos_of_nonneg (Int.le_of_lt h) y0
            rw [if_pos h, if_neg (by omega)]
          · have := Int.mul_nonneg (show 0 ≤ l.getD k' 0 by omega) y0
            rw [if_neg h, Int.zero_mul]
            split <;> omega
        have e2' : (if l.getD k' 0 < 0 then 0 else l.getD k' 0) * y = (if 0 > l.getD k' 0 * y then 0 else l.getD k' 0 * y) := by
          by_cases h : l.getD k' 0 < 0
          · have := Int.mul_nonpos_of_nonpos_of_nonneg (Int.le_of_lt h) y0
            rw [if_pos h, Int.zero_mul]
            split <;> omega
          · have := Int.mul_nonneg (show 0 ≤ l.getD k' 0 by omega) y0
            rw [if_neg h, if_neg (by omega)]
        refine ⟨some (.int k'), some (.ref p8), ?_, s6.trans s78⟩
        rw [en, epp, e1, e2', ← Int.add_assoc, ← Int.add_assoc]
        rfl
      · rintro σ H6 ⟨v10, v13, rfl, s6⟩
        rw [List.take_of_length_le (by omega), List.take_of_length_le (by omega)]
        obtain ⟨ts, k1, k2, k3⟩ := hP4.same s6
        walk_at "go"
        refine ⟨.inl ⟨rfl, _, .inl (.inl k1)⟩, ?_⟩
        walk_at "go"
        refine ⟨(show 2 ≤ sizeLine by decide), fun u nu => ?_⟩
        obtain ⟨H7, e7, s7, h7⟩ := fresh (.tup [.int (m1 + dotP (negW l) (List.replicate n y)), .int (m2 + dotP (posW l) (List.replicate n y))]) nu
        rw [e7]
        refine ⟨De, _, _, rfl, rfl, s7 _ _ k1, by rw [List.length_map, k2]; exact small1000 (by omega), ?_⟩
        refine ⟨_, _, _, _, _, rfl, same_over nDe ((s34.trans s6).trans s7), PairsTo.snoc (s7 _ _ k1) k2 (fun j t ht => s7 _ _ (k3 j t ht)) ?_⟩
        rw [eV]
        exact h7
    · rintro σ H3 ⟨v5, v10, v11, v12, v13, rfl, s3, hP⟩
      walk_at "go"
      exact q H3 De (s0F.trans s3) (hP.row (s0F.free nDe))
end
end My

namespace My
open PySem PySem.Spec PyProof.Rows L2 Pre
/-- a comprehension over a list, with any target (a pair unpacked) -/
theorem lc_mapG {K : PySem.W.Frag} {a : Addr} {xs : List V} {g : TG} {te : TE} {vs : List Nat} {σ : L2.St} {H1 : Hp} {D : Addr} {Qd : Hp → Prop} (ys : List V) (nD : H1 D = none) (hS : SqL K H1 a xs) (hlen : ys.length = xs.length) (hz : xs.length < sizeLine)
    (hs : ∀ (i : Nat) (x y : V) (H' : Hp), xs[i]? = some x → ys[i]? = some y → Same H1 H' → ∀ (Qt : V → Hp → Prop) (R : Hp → Prop), (∀ H'', Same H' H'' → Qt y H'') →
      g x (wipe σ vs) H' fun σ2 H2 => wipe σ2 vs = wipe σ vs ∧ tYes σ2 H2 fun b H3 => if b = true then te σ2 H3 fun y H4 => Qt y H4 else R H3)
    (hd : ∀ H', Same H1 H' → H' D = some (.lst ys) → Qd H') :
    ∃ W : Nat → Nat → Hp → Prop, (∃ m, W 0 m (upd H1 D (.lst []))) ∧ ∀ i m H, W i m H →
      ((Itl K a).stop i H ∧ Qd H) ∨ ((Itl K a).go i H ∧ ∃ Nx : Hp → Prop, (∀ H', Nx H' → ∃ m', m' < m ∧ W (i + 1) m' H') ∧ ∀ x H', (Itl K a).yld i H x H' → g x (wipe σ vs) H' fun σ2 H2 => wipe σ2 vs = wipe σ vs ∧ tYes σ2 H2 fun b H3 =>
        if b = true then te σ2 H3 fun y H4 => ∃ acc, H4 D = some (.lst acc) ∧ acc.length < sizeLine ∧ Nx (upd H4 D (.lst (acc ++ [y]))) else Nx H3) := by
  refine lc_list (K := K) (a := a) (xs := xs) (fun i H => Same H1 H ∧ H D = some (.lst (ys.take i))) ⟨same_upd nD, upd_same⟩ (fun i H _ p => p.1.seq hS) ?_ ?_
  · rintro i x H hx ⟨s, hD⟩
    have hi : i < ys.length := by rw [hlen]; exact (List.getElem?_eq_some_iff.mp hx).1
    have ho : ys[i]? = some ys[i] := List.getElem?_eq_getElem hi
    have hl : (ys.take i).length < sizeLine := by rw [List.length_take]; omega
    refine hs i x ys[i] H hx ho s (fun y H4 => ∃ acc, H4 D = some (.lst acc) ∧ acc.length < sizeLine ∧ (Same H1 (upd H4 D (.lst (acc ++ [y]))) ∧ (upd H4 D (.lst (acc ++ [y]))) D = some (.lst (ys.take (i + 1))))) (fun H3 => Same H1 H3 ∧ H3 D = some (.lst (ys.take (i + 1)))) fun H4 s4 => ?_
    refine ⟨_, s4 _ _ hD, hl, same_over nD (s.trans s4), ?_⟩
    rw [upd_same, take_snoc ho]
  · rintro H ⟨s, hD⟩
    refine hd H s ?_
    rw [hD, ← hlen, List.take_length]
end My

namespace My
open PySem PySem.Spec PyProof.Rows L2 Pre
theorem nats_of {P : Nat → Nat → Prop} {L : Nat} {ys : List V} (hl : ys.length = L) (h : ∀ (i : Nat) (y : V), ys[i]? = some y → ∃ m : Nat, y = .int m ∧ P i m) : ∃ ms : List Nat, ys = (ms.map fun (m : Nat) => (m : Int)).map V.int ∧ ms.length = L ∧ ∀ (k : Nat) (m : Nat), ms[k]? = some m → P k m := by
  subst hl
  induction ys generalizing P with
  | nil => exact ⟨[], rfl, rfl, fun k m h => by simp at h⟩
  | cons y ys ih =>
    obtain ⟨m0, rfl, p0⟩ := h 0 y rfl
    obtain ⟨ms, e, l, r⟩ := ih (P := fun k m => P (k + 1) m) fun i z hz => h (i + 1) z hz
    refine ⟨m0 :: ms, by rw [e]; rfl, by rw [List.length_cons, List.length_cons, l], fun k m hk => ?_⟩
    cases k with
    | zero => cases hk; exact p0
    | succ k => exact r k m hk
local macro_rules | `(tactic| walk_at "go") => `(tactic| repeat (first | (with_reducible first | refine iteT ?_ | refine iteF ?_ | refine iteNtt ?_ | refine iteNff ?_ | refine iteET (by omega) ?_ | refine iteEF (by omega) ?_ | refine iteENT (by omega) ?_ | refine iteENF (by omega) ?_ | refine iteDT (by omega) ?_ | refine iteDF (by omega) ?_ | refine iteNT (by omega) ?_ | refine iteNF (by omega) ?_) | refine ⟨_, rfl, ?_⟩ | refine ⟨_, _, rfl, rfl, ?_⟩ | refine ⟨_, _, rfl, ?_⟩ | refine ⟨rfl, ?_⟩ | refine .inl ⟨_, rfl, ?_⟩ | refine .inr ⟨_, rfl, ?_⟩))
local macro_rules | `(tactic| walk_at "b") => `(tactic| try dsimp (config := { proj := false, iota := false, eta := false, zeta := false }) only)
section
variable {P : Program} {w : World} {K : PySem.W.Frag} {mg : Str → Option Value} {base : Heap}
def depthsL (n d : Nat) (ss : List Step) : List Int := (List.range n).map fun i => ((depthP (endV n (boxN n d) ss i) : Nat) : Int)
/-- what comes out is no more than so deep -/
theorem depth_bd {n d : Nat} {ss : List Step} (ok : ∀ s ∈ ss, s.ok n) (hn4 : n ≤ 4) (hl : ss.length ≤ 6) (hd : d ≤ 32) {i : Nat} (hi : i < n) : depthP (endV n (boxN n d) ss i) ≤ 1000 := by
  obtain ⟨c, e, h1, h2⟩ := endV_ok ok hi (boxN_len n d) (boxN_some n d)
  have b : ∀ {x}, InB (boxN n d) x → -(2 ^ 999) ≤ outF ss i x ∧ outF ss i x < 2 ^ 999 := fun {x} hx => by
    have lx := (in_boxN.mp hx).1
    have hh : hN d ≤ 2 ^ 31 := by rw [hN_eq]; exact pow2_le (by omega)
    have bx : ∀ v ∈ x, v.natAbs < 2 ^ 32 := fun v hv => by
      have := boxN_bx hx v hv
      omega
    have := play_bd hn4 ok lx bx _ (getD_inI (xs := playF ss x) (i := i) (by rw [play_len, lx]; exact hi))
    have k : (outF ss i x).natAbs < 2 ^ 999 := Nat.lt_of_lt_of_le this (Nat.pow_le_pow_right (by decide) (by omega))
    have e : ((2 ^ 999 : Nat) : Int) = 2 ^ 999 := by rw [Int.natCast_pow]; rfl
    omega
  rw [h1]
  have b1 := b h2.1
  have b2 := b h2.2.1
  exact (depth_le (p := (outF ss i c, outF ss i e)) (e := 999)).mpr ⟨b1, b2⟩
def sp_law_wide (K : PySem.W.Frag) : Sp := fun vs H Q _ => ∃ (N : Addr → Prop) (p : Addr) (n d : Nat) (ss : List Step), vs = [.ref p, .int n, .int d] ∧ StepsAt N H p ss ∧ (∀ s ∈ ss, s.ok n) ∧ 1 ≤ n ∧ n ≤ 4 ∧ ss.length ≤ 6 ∧ bitsS ss ≤ 15 ∧ (2 ^ bitsS ss) ^ n ≤ 1000 ∧ 1 ≤ d ∧ d ≤ 32 ∧ ∀ H' D, Same H H' → H D = none → H' D = some (.lst ((depthsL n d ss).map V.int)) → Q (.ref D) H'
theorem G_law_wide (T : Top K mg) : FnOk P w K mg base CX0 5 T.f_law_wide T.fd_law_wide ["_law_steps_here", "_law_broad", "_law_depth_here"] (sp_law_wide K) := by
  refine T.F_law_wide.ok sc_law_wide (fun vs H Q E h => by obtain ⟨N, p, n, d, ss, rfl, _⟩ := h; rfl) (fun cdv A outer s H vs Q E hr h => ?_)
  obtain ⟨N, p, n, d, ss, rfl, hS, hO, hn1, hn4, hl, hb, hpow, hd1, hd, q⟩ := h
  refine ⟨_, PSs.nox (pss_one (ps_ret (pe_lc (own := [("_law_low", 3), ("_law_high", 4)]) (g := gTup K 2 (gCons (gName 3) (gCons (gName 4) (gNil)))) (tt := tYes) (by rfl) sc_law_wide.nd (k_piL K rfl (pe_call (G_law_all_ends T) (hr.mono (by decide)) (by rfl) T.g_law_all_ends T.F_law_all_ends.kp T.b_law_all_ends .nil pass0 (pa_cons (pv 0) (pa_cons (pv 1) (pa_cons (pv 2) pa_nil))))) (blkOk_by (own := [("_law_low", 3), ("_law_high", 4)]) (N := N_law_wide) (sc := defScope s_law_wide) (by decide +kernel)) (fun _ _ _ _ _ => (k_pgT K rfl (by rfl) (pgs_cons (pg_name (i := 3) sc_law_wide.nd rfl (by first | exact Or.inl rfl | exact Or.inr rfl)) (pgs_cons (pg_name (i := 4) sc_law_wide.nd rfl (by first | exact Or.inl rfl | exact Or.inr rfl)) pgs_nil)))) (fun _ _ _ _ _ => pts_nil) (fun _ _ _ _ _ => (pe_call (G_law_depth T) (hr.mono (by decide)) (by rfl) T.g_law_depth T.F_law_depth.kp T.b_law_depth .nil pass0 (pa_cons (pv 3) (pa_cons (pv 4) pa_nil))))))), ?_⟩
  walk_at "go"
  refine ⟨N, p, n, d, ss, rfl, hS, hO, hn1, hn4, hl, hb, hpow, hd1, hd, fun H1 De s1 F1 => ?_⟩
  obtain ⟨ts, hts, htl, htr⟩ := F1.get
  rw [List.length_map, List.length_range] at htl
  walk_at "go"
  refine ⟨⟨_, .inl (.inl hts)⟩, fun D nD => ?_⟩
  refine lc_mapG (K := K) (a := De) (xs := ts.map V.ref) ((depthsL n d ss).map V.int) nD (.inl (.inl hts)) (by unfold depthsL; rw [List.length_map, List.length_map, List.length_range, List.length_map, htl]) (by rw [List.length_map, htl]; exact small1000 (by omega)) ?_ ?_
  · intro i x y H' hx hy s' Qt R qt
    rw [List.getElem?_map] at hx
    obtain ⟨t, et, rfl⟩ := Option.map_eq_some_iff.mp hx
    have hi : i < n := by rw [← htl]; exact (List.getElem?_eq_some_iff.mp et).1
    obtain ⟨z, hz, ht⟩ := htr i t et
    rw [List.getElem?_map, List.getElem?_range hi] at hz
    cases hz
    unfold depthsL at hy
    rw [List.getElem?_map, List.getElem?_map, List.getElem?_range hi] at hy
    cases hy
    refine ⟨t, _, rfl, .inl (.inl (s' _ _ ht)), rfl, _, _, rfl, _, _, rfl, rfl, ⟨rfl, ?_⟩⟩
    refine iteT (B := R H') ?_
    walk_at "go"
    refine ⟨endV_le hO hi (boxN_len n d) (boxN_some n d), depth_bd hO hn4 hl hd hi, ?_⟩
    exact qt _ (Same.refl _)
  · intro H2 s2 hD
    exact q H2 D (s1.trans s2) (s1.free nD) hD
def sp_law_way_due (K : PySem.W.Frag) : Sp := fun vs H Q _ => ∃ (N : Addr → Prop) (p : Addr) (n d : Nat) (ss : List Step), vs = [.ref p, .int n, .int d] ∧ StepsAt N H p ss ∧ (∀ s ∈ ss, s.ok n) ∧ 1 ≤ n ∧ n ≤ 4 ∧ ss.length ≤ 6 ∧ bitsS ss ≤ 15 ∧ (2 ^ bitsS ss) ^ n ≤ 1000 ∧ 1 ≤ d ∧ d ≤ 32 ∧ ∀ H', Same H H' → Q (.int (wayP n d ss ss.length : Nat)) H'
theorem G_law_way_due (T : Top K mg) : FnOk P w K mg base CX0 6 T.f_law_way_due T.fd_law_way_due ["_law_steps_here", "_law_wide_here", "_law_depth_here"] (sp_law_way_due K) := by
  refine T.F_law_way_due.ok sc_law_way_due (fun vs H Q E h => by obtain ⟨N, p, n, d, ss, rfl, _⟩ := h; rfl) (fun cdv A outer s H vs Q E hr h => ?_)
  obtain ⟨N, p, n, d, ss, rfl, hS, hO, hn1, hn4, hl, hb, hpow, hd1, hd, q⟩ := h
  refine ⟨_, PSs.nox (pss_one (ps_ret (pe_callB (k_max K rfl rfl) (by rfl) T.n_max (by decide +kernel) (pa_cons (pe_op op_cat (pe_lst (pa_cons (pv 2) pa_nil)) (pe_lc (own := [("_law_many", 3)]) (g := gName 3) (tt := tYes) (by rfl) sc_law_way_due.nd (pi_range1 (by rfl) T.n_range (pa_cons (pe_callB (k_len K rfl) (by rfl) T.n_len (by decide +kernel) (pa_cons (pv 0) pa_nil)) pa_nil)) (blkOk_by (own := [("_law_many", 3)]) (N := N_law_way_due) (sc := defScope s_law_way_due) (by decide +kernel)) (fun _ _ _ _ _ => (pg_name (i := 3) sc_law_way_due.nd rfl (by first | exact Or.inl rfl | exact Or.inr rfl))) (fun _ _ _ _ _ => pts_nil) (fun _ _ _ _ _ => (pe_callB (k_max K rfl rfl) (by rfl) T.n_max (by decide +kernel) (pa_cons (pe_call (G_law_wide T) (hr.mono (by decide)) (by rfl) T.g_law_wide T.F_law_wide.kp T.b_law_wide .nil pass0 (pa_cons (pe_slice (k_slL K rfl) (pv 0) po_none (po_some (pe_op op_add (pv 3) pe_int))) (pa_cons (pv 1) (pa_cons (pv 2) pa_nil)))) pa_nil))))) pa_nil)))), ?_⟩
  obtain ⟨us, hp, hv⟩ := id hS
  have ul := hv.len
  walk_at "go"
  refine ⟨(show 1 ≤ sizeLine by decide), fun p1 np1 => ?_⟩
  obtain ⟨H1, e1, s1, h1⟩ := fresh (.lst [V.int d]) np1
  rw [e1]
  walk_at "go"
  refine ⟨p, _, rfl, .inl (.inl (.inl (s1 _ _ hp))), ?_⟩
  rw [ul]
  walk_at "go"
  refine ⟨by omega, by omega, fun D nD => ?_⟩
  rw [Int.toNat_natCast]
  refine lc_relR (lo := 0) (n := ss.length) (fun k y _ => ∃ m : Nat, y = .int m ∧ (∃ i, i < n ∧ m = depthP (endV n (boxN n d) (ss.take (k + 1)) i)) ∧ ∀ i, i < n → depthP (endV n (boxN n d) (ss.take (k + 1)) i) ≤ m) nD (small1000 (by omega)) (fun i y H H' o h => h) (fun x => rfl) ?_ ?_
  · intro k H' zs hk s' hD Qt qt
    have ec : cutV us none (some ((k : Int) + 1)) = us.take (k + 1) := cut_take us (k + 1)
    have bt := bits_take_le ss (k + 1)
    rw [Int.zero_add]
    walk_at "go"
    refine ⟨p, us, rfl, .inl (.inl ((s1.trans s') _ _ hp)), fun P2 nP2 => ?_⟩
    rw [ec]
    obtain ⟨H2, e2, s2, h2⟩ := fresh (.lst (us.take (k + 1))) nP2
    rw [e2]
    have S2 : StepsAt N H2 P2 (ss.take (k + 1)) := by
      obtain ⟨us', hp', hv'⟩ := hS.same ((s1.trans s').trans s2)
      have q1 := ((s1.trans s').trans s2) _ _ hp
      rw [q1] at hp'
      cases hp'
      exact ⟨_, h2, hv'.take (k + 1)⟩
    walk_at "go"
    refine ⟨N, P2, n, d, ss.take (k + 1), rfl, S2, take_ok hO _, hn1, hn4, by rw [List.length_take]; omega, by omega, Nat.le_trans (Nat.pow_le_pow_left (Nat.pow_le_pow_right (by decide) bt) n) hpow, hd1, hd, fun H3 D3 s3 nD3 hD3 => ?_⟩
    walk_at "go"
    refine ⟨D3, _, rfl, .inl (.inl hD3), by unfold depthsL; rw [List.length_map, List.length_range]; omega, fun m h3 h4 => ?_⟩
    obtain ⟨i, hi, rfl⟩ := List.mem_map.mp h3
    have hi := List.mem_range.mp hi
    refine qt _ H3 (s2.trans s3) ⟨_, rfl, ⟨i, hi, rfl⟩, fun j hj => ?_⟩
    have := h4 _ (List.mem_map_of_mem (f := fun i => ((depthP (endV n (boxN n d) (ss.take (k + 1)) i) : Nat) : Int)) (List.mem_range.mpr hj))
    exact Int.ofNat_le.mp this
  intro H2 ys s2 hD2 hyl hR
  obtain ⟨ms, rfl, hml, hmr⟩ : ∃ ms : List Nat, ys = (ms.map fun (m : Nat) => (m : Int)).map V.int ∧ ms.length = ss.length ∧ ∀ (k : Nat) (m : Nat), ms[k]? = some m → (∃ i, i < n ∧ m = depthP (endV n (boxN n d) (ss.take (k + 1)) i)) ∧ ∀ i, i < n → depthP (endV n (boxN n d) (ss.take (k + 1)) i) ≤ m := nats_of hyl hR
  walk_at "go"
  refine ⟨p1, D, _, _, rfl, rfl, s2 _ _ h1, hD2, Nat.le_of_lt (small1000 (by rw [List.length_map, List.length_map, hml]; show 1 + ss.length ≤ 1000; omega)), fun Z nZ => ?_⟩
  obtain ⟨H3, e3, s3, h3⟩ := fresh (.lst (((d : Int) :: ms.map fun (m : Nat) => (m : Int)).map V.int)) nZ
  rw [show upd H2 Z (.lst ([V.int d] ++ (ms.map fun (m : Nat) => (m : Int)).map V.int)) = H3 from e3]
  walk_at "go"
  refine ⟨Z, _, rfl, .inl (.inl h3), Nat.succ_pos _, fun m h4 h5 => ?_⟩
  have b1 := h5 _ List.mem_cons_self
  obtain ⟨m', rfl⟩ : ∃ m' : Nat, m = (m' : Int) := ⟨m.toNat, by omega⟩
  have e := way_due (n := n) (d := d) (m := m') (ss := ss) hO hd1 ?_ (Int.ofNat_le.mp b1) fun k hk i hi => ?_
  · rw [e]
    exact q H3 (s1.trans (s2.trans s3))
  · rcases List.mem_cons.mp h4 with h4 | h4
    · exact .inl (Int.ofNat_inj.mp h4)
    · obtain ⟨x, hx, ex⟩ := List.mem_map.mp h4
      have ex := Int.ofNat_inj.mp ex
      subst ex
      obtain ⟨k, hk⟩ := List.getElem?_of_mem hx
      obtain ⟨i, hi, ei⟩ := (hmr k x hk).1
      exact .inr ⟨k, by rw [← hml]; exact (List.getElem?_eq_some_iff.mp hk).1, i, hi, ei⟩
  · have hk' : ms[k]? = some ms[k] := List.getElem?_eq_getElem (by omega)
    have q1 := (hmr k _ hk').2 i hi
    have q2 := h5 _ (List.mem_cons_of_mem _ (List.mem_map_of_mem (f := fun (m : Nat) => (m : Int)) (List.mem_of_getElem? hk')))
    have q3 := Int.ofNat_le.mp q2
    omega
end
end My

namespace My
open PySem PySem.Spec PyProof.Rows L2 Pre
/-- a comprehension over a list of whole numbers that draws whole numbers -/
theorem lc_drawL {K : PySem.W.Frag} {a : Addr} {xs : List Int} {j : Nat} {te : TE} {vs : List Nat} {σ : L2.St} {H1 : Hp} {D : Addr} {Qd : Hp → Prop} (g : Addr) (m step : Nat) (P : Int → Prop) (nD : H1 D = none) (hG : GenAt H1 g m) (hA : H1 a = some (.lst (xs.map V.int))) (ag : a ≠ g) (hz : xs.length < sizeLine)
    (hw : ∀ x, wipe ((wipe σ vs).set j (some x)) vs = wipe σ vs)
    (hs : ∀ (i : Nat) (x : Int) (H' : Hp), xs[i]? = some x → But g H1 H' → GenAt H' g (m + step * i) → ∀ Qt : V → Hp → Prop, (∀ (y : Int) H'', P y → But g H' H'' → GenAt H'' g (m + step * (i + 1)) → Qt (.int y) H'') → te ((wipe σ vs).set j (some (.int x))) H' Qt)
    (hd : ∀ H' (ys : List Int), But g H1 H' → GenAt H' g (m + step * xs.length) → H' D = some (.lst (ys.map V.int)) → ys.length = xs.length → (∀ y ∈ ys, P y) → Qd H') :
    ∃ W : Nat → Nat → Hp → Prop, (∃ m, W 0 m (upd H1 D (.lst []))) ∧ ∀ i m H, W i m H →
      ((Itl K a).stop i H ∧ Qd H) ∨ ((Itl K a).go i H ∧ ∃ Nx : Hp → Prop, (∀ H', Nx H' → ∃ m', m' < m ∧ W (i + 1) m' H') ∧ ∀ x H', (Itl K a).yld i H x H' → gName j x (wipe σ vs) H' fun σ2 H2 => wipe σ2 vs = wipe σ vs ∧ tYes σ2 H2 fun b H3 =>
        if b = true then te σ2 H3 fun y H4 => ∃ acc, H4 D = some (.lst acc) ∧ acc.length < sizeLine ∧ Nx (upd H4 D (.lst (acc ++ [y]))) else Nx H3) := by
  have nDg : D ≠ g := hG.ne nD
  have aD : a ≠ D := ne_of_none hA nD
  refine lc_list (K := K) (a := a) (xs := xs.map V.int) (fun i H => ∃ ys : List Int, But g H1 H ∧ GenAt H g (m + step * i) ∧ H D = some (.lst (ys.map V.int)) ∧ ys.length = i ∧ ∀ y ∈ ys, P y)
    ⟨[], But.of (same_upd nD), hG.same (same_upd nD), upd_same, rfl, (fun _ h => nomatch h)⟩ (fun i H _ ⟨_, b, _⟩ => .inl (.inl (b _ _ ag hA))) ?_ ?_
  · rintro i v H hi ⟨ys, b, hg, hD, hl, hP⟩
    obtain ⟨x, hx, rfl⟩ := int_at hi
    have hil := (List.getElem?_eq_some_iff.mp hx).1
    refine ⟨hw _, ?_⟩
    unfold tYes
    dsimp only
    rw [if_pos (show true = true from rfl)]
    refine hs i x H hx b hg _ fun y H2 py b2 hg2 => ?_
    refine ⟨_, b2 _ _ nDg hD, by rw [List.length_map]; omega, ys ++ [y], ?_, ?_, ?_, ?_, ?_⟩
    · intro c o nc hc
      rw [upd_ne (ne_of_none hc nD)]
      exact b2 _ _ nc (b _ _ nc hc)
    · obtain ⟨x1, x2, x3, e1, e2⟩ := hg2
      exact ⟨x1, x2, x3, by rw [upd_ne nDg.symm]; exact e1, e2⟩
    · rw [upd_same, List.map_append]
      rfl
    · rw [List.length_append, hl]
      rfl
    · intro z hz
      rcases List.mem_append.mp hz with hz | hz
      · exact hP z hz
      · rw [List.mem_singleton.mp hz]
        exact py
  · rintro H ⟨ys, b, hg, hD, hl, hP⟩
    rw [List.length_map] at hg hl
    exact hd H ys b hg hD hl hP
end My

namespace My
open PySem PySem.Spec PyProof.Rows L2 Pre
/-- where no step leads beyond the depth, wrapping changes nothing -/
theorem in_play {n d : Nat} {ss : List Step} (ok : ∀ s ∈ ss, s.ok n) (hd : 1 ≤ d) (h : wayP n d ss ss.length ≤ d) {x : List Int} (hx : InB (boxN n d) x) : inS (hN d) ss x = playF ss x := by
  have lx := (in_boxN.mp hx).1
  have key : ∀ k, k ≤ ss.length → inS (hN d) (ss.take k) x = playF (ss.take k) x := fun k => by
    induction k with
    | zero => intro _; rfl
    | succ k ih =>
      intro hk
      have hs : ss[k]? = some ss[k] := List.getElem?_eq_getElem (by omega)
      rw [inS_take hs, play_take hs, ih (by omega)]
      unfold wrapS
      have lp : (stepF 1 ss[k] (playF (ss.take k) x)).length = n := by rw [stepF_len, play_len, lx]
      refine ext_getD (by rw [List.length_map]) fun i hi => ?_
      rw [List.length_map, lp] at hi
      rw [map_getD (by omega), ← play_take hs]
      have q := depth_keeps (take_ok ok (k + 1)) hi hx
      have q2 := Nat.le_trans (way_all ok hd (k + 1) hk i hi) (Nat.le_trans (way_le hk) h)
      have q3 : (2 : Int) ^ (depthP (endV n (boxN n d) (ss.take (k + 1)) i) - 1) ≤ hN d := by
        rw [hN_eq]
        exact pow2_le (by omega)
      unfold outF at q
      exact wrap_id (hN_pos d) (by omega) (by omega)
  have := key ss.length (Nat.le_refl _)
  rw [List.take_length] at this
  exact this
local macro_rules | `(tactic| walk_at "go") => `(tactic| repeat (first | (with_reducible first | refine iteT ?_ | refine iteF ?_ | refine iteNtt ?_ | refine iteNff ?_ | refine iteET (by omega) ?_ | refine iteEF (by omega) ?_ | refine iteENT (by omega) ?_ | refine iteENF (by omega) ?_ | refine iteDT (by omega) ?_ | refine iteDF (by omega) ?_ | refine iteNT (by omega) ?_ | refine iteNF (by omega) ?_) | refine ⟨_, rfl, ?_⟩ | refine ⟨_, _, rfl, rfl, ?_⟩ | refine ⟨_, _, rfl, ?_⟩ | refine ⟨rfl, ?_⟩ | refine .inl ⟨_, rfl, ?_⟩ | refine .inr ⟨_, rfl, ?_⟩))
local macro_rules | `(tactic| walk_at "b") => `(tactic| try dsimp (config := { proj := false, iota := false, eta := false, zeta := false }) only)
section
variable {P : Program} {w : World} {K : PySem.W.Frag} {mg : Str → Option Value} {base : Heap}
def sp_law_right (C : Addr) (K : PySem.W.Frag) : Sp := fun vs H Q _ => ∃ (g a r p : Addr) (N n d : Nat) (ss : List Step), vs = [.ref g, .ref a, .ref p, .int n, .int d] ∧ GenAt H g N ∧ N ≤ 10 ^ 9 ∧ MixAt C H a r n ss ∧ r ≠ g ∧ StepsAt (fun l => l ≠ g) H p ss ∧ p ≠ g ∧ (∀ s ∈ ss, s.ok n) ∧ 1 ≤ n ∧ n ≤ 4 ∧ ss.length ≤ 6 ∧ bitsS ss ≤ 15 ∧ (2 ^ bitsS ss) ^ n ≤ 1000 ∧ 1 ≤ d ∧ d ≤ 32 ∧ ∀ H', But g H H' → GenAt H' g (N + 10000) → Q (.bl true) H'
theorem G_law_right (T : Top K mg) : FnOk P w K mg base CX0 7 T.f_law_right T.fd_law_right ["_law_purse_here", "_law_mixer", "_law_steps_here", "_law_wide_here", "_law_depth_here"] (sp_law_right T.C_Mixer K) := by
  refine T.F_law_right.ok sc_law_right (fun vs H Q E h => by obtain ⟨g, a, r, p, N, n, d, ss, rfl, _⟩ := h; rfl) (fun cdv A outer s H vs Q E hr h => ?_)
  obtain ⟨g, a, r, p, N, n, d, ss, rfl, hG, hN1, hM, nr, hS, np, hO, hn1, hn4, hl, hb, hpow, hd1, hd, q⟩ := h
  refine ⟨_, PSs.nox (pss_cons (ps_asg (pe_tup (pa_cons (pe_call (G_law_wide T) (hr.mono (by decide)) (by rfl) T.g_law_wide T.F_law_wide.kp T.b_law_wide .nil pass0 (pa_cons (pv 2) (pa_cons (pv 3) (pa_cons (pv 4) pa_nil)))) (pa_cons (pe_call (G_enough T) (hr.mono (by decide)) (by rfl) T.g_enough T.F_enough.kp T.b_enough .nil pass0 (pa_cons (pv 1) (pa_cons (pv 4) pa_nil))) pa_nil))) (k_pgT K rfl (by rfl) (pgs_cons (pg_name (i := 8) sc_law_right.nd rfl (by first | exact Or.inl rfl | exact Or.inr rfl)) (pgs_cons (pg_name (i := 9) sc_law_right.nd rfl (by first | exact Or.inl rfl | exact Or.inr rfl)) pgs_nil))))
  (pss_cons (ps_if (PW.pt (pw_or (pt_cmpR (k_neD K rfl hr.units) (pv 9) (pv 8) (nomark _)) (pw_or1 (pt_not (pt_val (pe_call (G_law_numbers_right T) (hr.mono (by decide)) (by rfl) T.g_law_numbers_right T.F_law_numbers_right.kp T.b_law_numbers_right .nil pass0 (pa_cons (pv 9) (pa_cons (pv 3) pa_nil))))))))
    (pss_one (ps_ret pe_bl))
    pss_nil)
  (pss_cons (ps_set (i := 5) sc_law_right.nd rfl (by first | exact Or.inl rfl | exact Or.inr rfl) (pe_call (G_on_the_way T) (hr.mono (by decide)) (by rfl) T.g_on_the_way T.F_on_the_way.kp T.b_on_the_way .nil pass0 (pa_cons (pv 1) (pa_cons (pv 4) pa_nil))))
  (pss_cons (ps_if (PW.pt (pw_or (pt_cmpR op_ne (pv 5) (pe_call (G_law_way_due T) (hr.mono (by decide)) (by rfl) T.g_law_way_due T.F_law_way_due.kp T.b_law_way_due .nil pass0 (pa_cons (pv 2) (pa_cons (pv 3) (pa_cons (pv 4) pa_nil)))) (nomark _)) (pw_or1 (pt_not (pt_val (pe_call (G_law_whole T) (hr.mono (by decide)) (by rfl) T.g_law_whole T.F_law_whole.kp T.b_law_whole .nil pass0 (pa_cons (pv 5) pa_nil)))))))
    (pss_one (ps_ret pe_bl))
    pss_nil)
  (pss_cons (ps_set (i := 6) sc_law_right.nd rfl (by first | exact Or.inl rfl | exact Or.inr rfl) (pe_op op_shl pe_int (pe_op op_sub (pv 4) pe_int)))
  (pss_cons (ps_for PassesOwn.never rfl (pi_range1 (by rfl) T.n_range (pa_cons pe_int pa_nil)) (pg_name (i := 7) sc_law_right.nd rfl (by first | exact Or.inl rfl | exact Or.inr rfl))
    (pss_cons (ps_setLc (i := 10) (own := [("_law_spot", 12)]) (g := gName 12) (tt := tYes) (by rfl) sc_law_right.nd rfl rfl (sw_true rfl rfl rfl (by decide +kernel)) (pi_range1 (by rfl) T.n_range (pa_cons (pv 3) pa_nil)) (blkOk_by (own := [("_law_spot", 12)]) (N := N_law_right) (sc := defScope s_law_right) (by decide +kernel)) (fun _ _ _ _ _ => (pg_name (i := 12) sc_law_right.nd rfl (by first | exact Or.inl rfl | exact Or.inr rfl))) (fun _ _ _ _ _ => pts_nil) (fun _ _ _ _ _ => (pe_op op_sub (pe_call (G_law_draw T) (hr.mono (by decide)) (by rfl) T.g_law_draw T.F_law_draw.kp T.b_law_draw .nil pass0 (pa_cons (pv 0) (pa_cons (pe_op op_mul pe_int (pv 6)) pa_nil))) (pv 6))))
  (pss_cons (ps_setLc (i := 10) (own := [("_law_one", 13)]) (g := gName 13) (tt := tYes) (by rfl) sc_law_right.nd rfl rfl (sw_true rfl rfl rfl (by decide +kernel)) (k_piL K rfl (pv 10)) (blkOk_by (own := [("_law_one", 13)]) (N := N_law_right) (sc := defScope s_law_right) (by decide +kernel)) (fun _ _ _ _ _ => (pg_name (i := 13) sc_law_right.nd rfl (by first | exact Or.inl rfl | exact Or.inr rfl))) (fun _ _ _ _ _ => pts_nil) (fun _ _ _ _ _ => (pe_ix (k_ixL K rfl) (pe_lst (pa_cons (pe_op op_sub pe_int (pv 6)) (pa_cons (pe_op op_sub (pv 6) pe_int) (pa_cons (pv 13) (pa_cons (pv 13) pa_nil))))) (pe_call (G_law_draw T) (hr.mono (by decide)) (by rfl) T.g_law_draw T.F_law_draw.kp T.b_law_draw .nil pass0 (pa_cons (pv 0) (pa_cons pe_int pa_nil))) (fun _ _ => rfl))))
  (pss_cons (ps_set (i := 11) sc_law_right.nd rfl (by first | exact Or.inl rfl | exact Or.inr rfl) (pe_call (G_mixed T) (hr.mono (by decide)) (by rfl) T.g_mixed T.F_mixed.kp T.b_mixed .nil pass0 (pa_cons (pv 1) (pa_cons (pv 10) pa_nil))))
  (pss_cons (ps_if (pt_cmpR (k_neD K rfl hr.units) (pe_lc (own := [("_law_at", 14)]) (g := gName 14) (by rfl) sc_law_right.nd (pi_range1 (by rfl) T.n_range (pa_cons (pv 3) pa_nil)) (blkOk_by (own := [("_law_at", 14)]) (N := N_law_right) (sc := defScope s_law_right) (by decide +kernel)) (fun _ _ _ _ _ => (pg_name (i := 14) sc_law_right.nd rfl (by first | exact Or.inl rfl | exact Or.inr rfl))) (fun _ _ _ _ _ => (pts_one (pt_not (pt_chain op_le op_lt (pe_op op_sub pe_int (pe_op op_shl pe_int (pe_op op_sub (pe_ix (k_ixL K rfl) (pv 8) (pv 14) (fun _ _ => rfl)) pe_int))) (pe_ix (k_ixL K rfl) (pv 11) (pv 14) (fun _ _ => rfl)) (pe_op op_shl pe_int (pe_op op_sub (pe_ix (k_ixL K rfl) (pv 8) (pv 14) (fun _ _ => rfl)) pe_int)))))) (fun _ _ _ _ _ => (pv 14))) (pe_lst pa_nil) (nomark _))
    (pss_one (ps_ret pe_bl))
    pss_nil)
  (pss_one (ps_if (PW.pt (pw_and (pt_cmpR op_eq (pv 5) (pv 4) (nomark _)) (pw_and1 (pt_cmpR (k_neD K rfl hr.units) (pe_call (G_mixed_within T) (hr.mono (by decide)) (by rfl) T.g_mixed_within T.F_mixed_within.kp T.b_mixed_within .nil pass0 (pa_cons (pv 1) (pa_cons (pv 4) (pa_cons (pv 10) pa_nil)))) (pv 11) (nomark _)))))
    (pss_one (ps_ret pe_bl))
    pss_nil)))))))
  (pss_cons (ps_expr (pe_bm PySem.F.plainAttrs_list PySem.F.slot_list_append PySem.F.type_list_append mt_append (pv 9) (pa_cons pe_non pa_nil)))
  (pss_one (ps_ret (pe_cmpR (k_eqD K rfl hr.units) (pe_call (G_enough T) (hr.mono (by decide)) (by rfl) T.g_enough T.F_enough.kp T.b_enough .nil pass0 (pa_cons (pv 1) (pa_cons (pv 4) pa_nil))) (pv 8) (nomark _))))))))))), ?_⟩
  have h0 := hN_pos d
  have he := hN_eq d
  have h31 : hN d ≤ 2 ^ 31 := by rw [he]; exact pow2_le (by omega)
  have ep : (1 : Int) * 2 ^ ((d : Int) - 1).toNat = hN d := by rw [Int.one_mul, show ((d : Int) - 1).toNat = d - 1 by omega, he]
  have dl : (depthsL n d ss).length = n := by unfold depthsL; rw [List.length_map, List.length_range]
  walk_at "go"
  refine ⟨_, p, n, d, ss, rfl, hS, hO, hn1, hn4, hl, hb, hpow, hd1, hd, fun H1 D1 s1 nD1 hD1 => ?_⟩
  walk_at "go"
  refine ⟨a, r, n, d, ss, rfl, hM.same s1, hO, hn1, hn4, by omega, hb, hpow, hd1, hd, fun H2 D2 s2 nD2 hD2 => ?_⟩
  have hD2 : H2 D2 = some (.lst ((depthsL n d ss).map V.int)) := hD2
  refine ⟨(show 2 ≤ sizeLine by decide), fun T1 nT1 => ?_⟩
  obtain ⟨H3, e3, s3, h3⟩ := fresh (.tup [V.ref D1, V.ref D2]) nT1
  rw [e3]
  refine ⟨T1, _, rfl, .inl (.inl h3), rfl, _, _, rfl, _, _, rfl, rfl, ?_⟩
  refine restate [some (.ref g), some (.ref a), some (.ref p), some (.int n), some (.int d), none, none, none, some (.ref D1), some (.ref D2), none, none, none, none, none] rfl ?_
  have s03 := s1.trans (s2.trans s3)
  have hD13 := (s2.trans s3) _ _ hD1
  have hD23 := s3 _ _ hD2
  walk_at "go"
  refine ne_lst (ns := depthsL n d ss) (.inl (.inl hD23)) (.inl (.inl hD13)) ?_
  walk_at "go"
  refine ⟨D2, depthsL n d ss, n, rfl, hD23, dl, hn4, fun H4 s4 => ?_⟩
  have s04 := s03.trans s4
  walk_at "go"
  refine ⟨a, r, n, d, ss, rfl, hM.same s04, hO, hn1, hn4, by omega, hb, hpow, hd1, hd, fun H5 s5 => ?_⟩
  have s05 := s04.trans s5
  walk_at "go"
  refine ⟨_, p, n, d, ss, rfl, hS.same s05, hO, hn1, hn4, hl, hb, hpow, hd1, hd, fun H6 s6 => ?_⟩
  have s06 := s05.trans s6
  walk_at "go"
  refine ⟨⟨by omega, by omega, by decide⟩, ?_⟩
  walk_at "b"
  rw [ep]
  walk_at "go"
  refine ⟨by decide, by decide, ?_⟩
  walk_at "b"
  have g6 := hG.same s06
  have M6 := hM.same s06
  have S6 := hS.same s06
  have D1g : D1 ≠ g := hG.ne nD1
  have D2g : D2 ≠ g := hG.ne (s1.free nD2)
  have hD16 := (s4.trans (s5.trans s6)) _ _ hD13
  have hD26 := (s4.trans (s5.trans s6)) _ _ hD23
  refine for_range (lo := 0) (n := ((3 : Int)).toNat) (fun t σ H7 => ∃ v7 v10 v11 : Option V, σ = [some (.ref g), some (.ref a), some (.ref p), some (.int n), some (.int d), some (.int (wayP n d ss ss.length : Nat)), some (.int (hN d)), v7, some (.ref D1), some (.ref D2), v10, v11, none, none, none] ∧ But g H6 H7 ∧ GenAt H7 g (N + 2000 * t)) ⟨none, none, none, rfl, But.of (Same.refl _), g6⟩ ?_ ?_
  · rintro t σ H7 ht ⟨v7, v10, v11, rfl, b7, g7⟩
    have ht3 : t < 3 := ht
    have n4 : 100 * n ≤ 400 := by omega
    rw [Int.zero_add]
    walk_at "go"
    refine ⟨by omega, by omega, fun R nR => ?_⟩
    rw [Int.toNat_natCast]
    refine lc_drawR (lo := 0) (n := n) g _ 100 (fun y => -hN d ≤ y ∧ y < hN d) nR g7 (small1000 (by omega)) (fun x => rfl) ?_ ?_
    · intro i H' hi b' g' Qt qt
      walk_at "go"
      refine ⟨.inl ⟨by decide, by decide⟩, ?_⟩
      walk_at "b"
      walk_at "go"
      refine ⟨g, _, _, rfl, g', by omega, by omega, small_2900 (by omega), fun y H3 y0 y1 g3 b3 => ?_⟩
      walk_at "go"
      exact qt (y - hN d) H3 ⟨by omega, by omega⟩ b3 (g3.mono (by rw [Nat.mul_succ]; omega))
    intro H8 ys b8 g8 hR hyl hyb
    have Rg : R ≠ g := g7.ne nR
    walk_at "go"
    refine ⟨⟨_, .inl (.inl hR)⟩, fun R2 nR2 => ?_⟩
    refine lc_drawL (K := K) (a := R) (xs := ys) g _ 100 (fun y => -hN d ≤ y ∧ y < hN d) nR2 g8 hR Rg (small1000 (by omega)) (fun x => rfl) ?_ ?_
    · intro i v H' hv b' g' Qt qt
      have hiv := (List.getElem?_eq_some_iff.mp hv).1
      have bv := hyb v (List.mem_of_getElem? hv)
      walk_at "go"
      refine ⟨(show 4 ≤ sizeLine by decide), fun L nL => ?_⟩
      obtain ⟨H9, e9, s9, h9⟩ := fresh (.lst (([0 - hN d, hN d - 1, v, v] : List Int).map V.int)) nL
      rw [show upd H' L (.lst [V.int (0 - hN d), V.int (hN d - 1), V.int v, V.int v]) = H9 from e9]
      walk_at "go"
      refine ⟨g, _, _, rfl, g'.same s9, by omega, by decide, small_2900 (by decide), fun y H3 y0 y1 g3 b3 => ?_⟩
      obtain ⟨k, rfl⟩ : ∃ k : Nat, y = (k : Int) := ⟨y.toNat, by omega⟩
      have hk : k < ([0 - hN d, hN d - 1, v, v] : List Int).length := by show k < 4; omega
      refine ⟨L, _, _, _, rfl, rfl, .inl (.inl (b3 _ _ (g'.ne nL) h9)), at_getD hk, ?_⟩
      refine qt _ H3 ?_ ((But.of s9).trans b3) (g3.mono (by rw [Nat.mul_succ]; omega))
      have hm := getD_inI (xs := [0 - hN d, hN d - 1, v, v]) hk
      revert hm
      generalize ([0 - hN d, hN d - 1, v, v] : List Int).getD k 0 = z
      intro hm
      simp only [List.mem_cons, List.not_mem_nil, or_false] at hm
      omega
    intro H9 xs b9 g9 hR2 hxl hxb
    have lx : xs.length = n := by omega
    have R2g : R2 ≠ g := g8.ne nR2
    have hX : InB (boxN n d) xs := in_boxN.mpr ⟨lx, fun k hk => hxb _ (getD_inI (by omega))⟩
    have b79 := b8.trans b9
    have b69 := b7.trans b79
    have M9 := M6.but g6 nr b69
    have hD19 := b69 _ _ D1g hD16
    walk_at "go"
    refine ⟨a, r, R2, n, ss, xs, rfl, M9, hn4, hR2, lx, hO, fun H10 O s10 nO hOut => ?_⟩
    walk_at "go"
    refine ⟨by omega, by omega, fun Dk nDk => ?_⟩
    rw [Int.toNat_natCast]
    refine lc_selR (lo := 0) (n := n) ((List.range n).map fun _ => none) nDk (by rw [List.length_map, List.length_range]) (small1000 (by omega)) (fun x => rfl) ?_ ?_
    · intro k o H' hk ho s' Qt qt
      rw [List.getElem?_map, List.getElem?_range hk] at ho
      cases ho
      have q := depth_keeps hO hk hX
      have dp := depth_pos (endV n (boxN n d) ss k)
      have db := depth_bd hO hn4 hl hd hk
      have eo : (playF ss xs).getD k 0 = outF ss k xs := rfl
      have ed : (depthsL n d ss).getD k 0 = (depthP (endV n (boxN n d) ss k) : Nat) := by
        unfold depthsL
        rw [List.getD_eq_getElem?_getD, List.getElem?_map, List.getElem?_range hk]
        rfl
      have s10' := s10.trans s'
      generalize depthP (endV n (boxN n d) ss k) = e at q dp db ed
      have ep2 : (1 : Int) * 2 ^ ((e : Int) - 1).toNat = 2 ^ (e - 1) := by rw [Int.one_mul, show ((e : Int) - 1).toNat = e - 1 by omega]
      rw [Int.zero_add]
      walk_at "go"
      refine ⟨D1, _, _, _, rfl, rfl, .inl (.inl (s10' _ _ hD19)), at_getD (by omega), ?_⟩
      rw [ed]
      walk_at "go"
      refine ⟨⟨by omega, by omega, by decide⟩, ?_⟩
      walk_at "b"
      rw [ep2]
      walk_at "go"
      refine ⟨O, _, _, _, rfl, rfl, .inl (.inl (s' _ _ hOut)), at_getD (by rw [play_len, lx]; exact hk), ?_⟩
      rw [eo]
      refine ⟨_, _, rfl, rfl, true, by show V.bl (decide _) = _; rw [decide_eq_true (by omega)], ?_⟩
      walk_at "go"
      refine ⟨D1, _, _, _, rfl, rfl, .inl (.inl (s10' _ _ hD19)), at_getD (by omega), ?_⟩
      rw [ed]
      walk_at "go"
      refine ⟨⟨by omega, by omega, by decide⟩, ?_⟩
      walk_at "b"
      rw [ep2]
      walk_at "go"
      exact qt _ (Same.refl _)
    intro H11 s11 hDk
    rw [fm_non0] at hDk
    walk_at "go"
    refine ⟨Nat.zero_le _, fun p12 np12 => ?_⟩
    obtain ⟨H12, e12, s12, h12⟩ := fresh (.lst []) np12
    rw [e12]
    refine ne_lst (ns := []) (.inl (.inl (s12 _ _ hDk))) (.inl (.inl h12)) ?_
    have s912 := s10.trans (s11.trans s12)
    walk_at "go"
    have b612 := b69.same s912
    have g12 := g9.same s912
    by_cases cw : wayP n d ss ss.length = d
    · refine iteET (by omega) ?_
      walk_at "go"
      refine ⟨a, r, R2, n, d, ss, xs, rfl, M9.same s912, hn4, s912 _ _ hR2, lx, hO, hd1, hd, boxN_bx hX, fun H13 p13 s13 np13 h13 => ?_⟩
      have ei : inS ((2 ^ (d - 1) : Nat) : Int) ss xs = playF ss xs := in_play hO hd1 (by omega) hX
      rw [ei] at h13
      walk_at "go"
      refine ne_lst (ns := playF ss xs) (.inl (.inl h13)) (.inl (.inl (s13 _ _ ((s11.trans s12) _ _ hOut)))) ?_
      walk_at "go"
      exact ⟨_, _, _, rfl, b612.same s13, (g12.same s13).mono (by omega)⟩
    · refine iteEF (by omega) (iteF ?_)
      exact ⟨_, _, _, rfl, b612, g12.mono (by omega)⟩
  · rintro σ H7 ⟨v7, v10, v11, rfl, b7, g7⟩
    have hD27 := b7 _ _ D2g hD26
    walk_at "go"
    refine ⟨.inl ⟨rfl, _, .inl (.inl hD27)⟩, ?_⟩
    walk_at "go"
    refine ⟨D2, _, _, rfl, rfl, hD27, by rw [List.length_map, dl]; exact small1000 (by omega), ?_⟩
    obtain ⟨H8, e8⟩ : ∃ H8, upd H7 D2 (.lst ((depthsL n d ss).map V.int ++ [.non])) = H8 := ⟨_, rfl⟩
    rw [e8]
    have b8 : But g H H8 := fun c o nc hc => by
      rw [← e8, upd_ne (ne_of_none hc (s1.free nD2))]
      exact b7 _ _ nc (s06 _ _ hc)
    have D12 : D1 ≠ D2 := ne_of_none hD1 nD2
    have hD18 : H8 D1 = some (.lst ((depthsL n d ss).map V.int)) := by rw [← e8, upd_ne D12]; exact b7 _ _ D1g hD16
    have g8 : GenAt H8 g (N + 2000 * 3) := by
      obtain ⟨x, y, z, e1, e2⟩ := g7
      exact ⟨x, y, z, by rw [← e8, upd_ne D2g.symm]; exact e1, e2⟩
    walk_at "go"
    refine ⟨a, r, n, d, ss, rfl, hM.but hG nr b8, hO, hn1, hn4, by omega, hb, hpow, hd1, hd, fun H9 D3 s9 nD3 hD3 => ?_⟩
    walk_at "go"
    refine eqD_lst (ns := depthsL n d ss) (ms := depthsL n d ss) (.inl (.inl hD3)) (.inl (.inl (s9 _ _ hD18))) ?_
    rw [decide_eq_true rfl]
    exact q H9 (b8.same s9) ((g8.same s9).mono (by omega))
end
end My

namespace My
open PySem PySem.Spec PyProof.Rows L2 Pre
theorem pow_six {b n c : Nat} (h : c ≤ b) (k : b * n ≤ 6) : (2 ^ c) ^ n ≤ 1000 := by
  rw [← Nat.pow_mul]
  exact Nat.le_trans (Nat.pow_le_pow_right (by decide) (Nat.le_trans (Nat.mul_le_mul_right n h) k)) (by decide)
local macro_rules | `(tactic| walk_at "go") => `(tactic| repeat (first | (with_reducible first | refine iteT ?_ | refine iteF ?_ | refine iteNtt ?_ | refine iteNff ?_ | refine iteET (by omega) ?_ | refine iteEF (by omega) ?_ | refine iteENT (by omega) ?_ | refine iteENF (by omega) ?_ | refine iteDT (by omega) ?_ | refine iteDF (by omega) ?_ | refine iteNT (by omega) ?_ | refine iteNF (by omega) ?_) | refine ⟨_, rfl, ?_⟩ | refine ⟨_, _, rfl, rfl, ?_⟩ | refine ⟨_, _, rfl, ?_⟩ | refine ⟨rfl, ?_⟩ | refine .inl ⟨_, rfl, ?_⟩ | refine .inr ⟨_, rfl, ?_⟩))
local macro_rules | `(tactic| walk_at "b") => `(tactic| try dsimp (config := { proj := false, iota := false, eta := false, zeta := false }) only)
section
variable {P : Program} {w : World} {K : PySem.W.Frag} {mg : Str → Option Value} {base : Heap}
def sp_law (K : PySem.W.Frag) : Sp := fun vs H Q _ => ∃ (a : Addr) (ns : List Int), vs = [.ref a] ∧ SqL K H a (ns.map V.int) ∧ ns.length ≤ 63 ∧ ∀ H', Q (.bl true) H'
theorem G_law (T : Top K mg) : FnOk P w K mg base CX0 8 T.f_law T.fd_law ["_law_script"] (sp_law K) := by
  refine T.F_law.ok sc_law (fun vs H Q E h => by obtain ⟨a, ns, rfl, _⟩ := h; rfl) (fun cdv A outer s H vs Q E hr h => ?_)
  obtain ⟨a, ns, rfl, hA, _, q⟩ := h
  refine ⟨_, PSs.nox (pss_cons (ps_for PassesOwn.never rfl (pi_range1 (by rfl) T.n_range (pa_cons pe_int pa_nil)) (pg_name (i := 1) sc_law.nd rfl (by first | exact Or.inl rfl | exact Or.inr rfl))
    (pss_cons (ps_set (i := 4) sc_law.nd rfl (by first | exact Or.inl rfl | exact Or.inr rfl) (pe_call (G_law_purse T) (hr.mono (by decide)) (by rfl) T.g_law_purse T.F_law_purse.kp T.b_law_purse .nil pass0 (pa_cons (pv 0) (pa_cons (pv 1) pa_nil))))
  (pss_cons (ps_set (i := 5) sc_law.nd rfl (by first | exact Or.inl rfl | exact Or.inr rfl) (pe_op op_add pe_int (pe_call (G_law_draw T) (hr.mono (by decide)) (by rfl) T.g_law_draw T.F_law_draw.kp T.b_law_draw .nil pass0 (pa_cons (pv 4) (pa_cons pe_int pa_nil)))))
  (pss_cons (ps_set (i := 6) sc_law.nd rfl (by first | exact Or.inl rfl | exact Or.inr rfl) (pe_call (G_law_steps T) (hr.mono (by decide)) (by rfl) T.g_law_steps T.F_law_steps.kp T.b_law_steps .nil pass0 (pa_cons (pv 4) (pa_cons (pv 5) (pa_cons pe_int (pa_cons (pe_ix (k_ixL K rfl) (pe_lst (pa_cons pe_int (pa_cons pe_int (pa_cons pe_int (pa_cons pe_int pa_nil))))) (pe_op op_sub (pv 5) pe_int) (fun _ _ => rfl)) pa_nil))))))
  (pss_cons (ps_set (i := 7) sc_law.nd rfl (by first | exact Or.inl rfl | exact Or.inr rfl) (pe_make T.mk_Mixer (G_Mixer___init__ T) (hr.mono (by decide)) (by rfl) T.gc_Mixer T.b_Mixer___init__ .nil pass0 (pa_cons (pv 5) (pa_cons (pe_call (G_law_copied T) (hr.mono (by decide)) (by rfl) T.g_law_copied T.F_law_copied.kp T.b_law_copied .nil pass0 (pa_cons (pv 6) pa_nil)) pa_nil))))
  (pss_cons (ps_set (i := 8) sc_law.nd rfl (by first | exact Or.inl rfl | exact Or.inr rfl) (pe_op op_add pe_int (pe_call (G_law_draw T) (hr.mono (by decide)) (by rfl) T.g_law_draw T.F_law_draw.kp T.b_law_draw .nil pass0 (pa_cons (pv 4) (pa_cons pe_int pa_nil)))))
  (pss_cons (ps_if (PW.pt (pw_or (pt_not (pt_val (pe_call (G_law_right T) (hr.mono (by decide)) (by rfl) T.g_law_right T.F_law_right.kp T.b_law_right .nil pass0 (pa_cons (pv 4) (pa_cons (pv 7) (pa_cons (pv 6) (pa_cons (pv 5) (pa_cons (pv 8) pa_nil)))))))) (pw_or1 (pt_not (pt_val (pe_call (G_law_right T) (hr.mono (by decide)) (by rfl) T.g_law_right T.F_law_right.kp T.b_law_right .nil pass0 (pa_cons (pv 4) (pa_cons (pv 7) (pa_cons (pv 6) (pa_cons (pv 5) (pa_cons (pe_op op_add pe_int (pe_op op_mod (pv 8) pe_int)) pa_nil)))))))))))
    (pss_one (ps_ret pe_bl))
    pss_nil)
  (pss_one (ps_if (pt_cmpR (k_neD K rfl hr.units) (pe_lc (own := [("_law_k", 9)]) (g := gName 9) (by rfl) sc_law.nd (pi_range1 (by rfl) T.n_range (pa_cons (pv 5) pa_nil)) (blkOk_by (own := [("_law_k", 9)]) (N := N_law) (sc := defScope s_law) (by decide +kernel)) (fun _ _ _ _ _ => (pg_name (i := 9) sc_law.nd rfl (by first | exact Or.inl rfl | exact Or.inr rfl))) (fun _ _ _ _ _ => (pts_one (pt_cmpR op_gt (pe_ix (k_ixL K rfl) (pe_call (G_enough T) (hr.mono (by decide)) (by rfl) T.g_enough T.F_enough.kp T.b_enough .nil pass0 (pa_cons (pv 7) (pa_cons (pe_callB (call_max2 rfl) (by rfl) T.n_max (by decide +kernel) (pa_cons (pe_op op_sub (pv 8) pe_int) (pa_cons pe_int pa_nil))) pa_nil))) (pv 9) (fun _ _ => rfl)) (pe_ix (k_ixL K rfl) (pe_call (G_enough T) (hr.mono (by decide)) (by rfl) T.g_enough T.F_enough.kp T.b_enough .nil pass0 (pa_cons (pv 7) (pa_cons (pv 8) pa_nil))) (pv 9) (fun _ _ => rfl)) (nomark _)))) (fun _ _ _ _ _ => (pv 9))) (pe_lst pa_nil) (nomark _))
    (pss_one (ps_ret pe_bl))
    pss_nil)))))))))
  (pss_cons (ps_set (i := 2) sc_law.nd rfl (by first | exact Or.inl rfl | exact Or.inr rfl) (pe_make T.mk_Mixer (G_Mixer___init__ T) (hr.mono (by decide)) (by rfl) T.gc_Mixer T.b_Mixer___init__ .nil pass0 (pa_cons pe_int (pa_cons (pe_lst (pa_cons (pe_tup (pa_cons pe_str (pa_cons pe_int (pa_cons (pe_lst (pa_cons (pe_un un_neg pe_int) (pa_cons pe_int pa_nil))) (pa_cons pe_int pa_nil))))) (pa_cons (pe_tup (pa_cons pe_str (pa_cons pe_int (pa_cons (pe_lst (pa_cons pe_int (pa_cons pe_int pa_nil))) (pa_cons pe_int pa_nil))))) pa_nil))) pa_nil))))
  (pss_cons (ps_if (PW.pt (pw_or (pt_cmpR (k_neD K rfl hr.units) (pe_call (G_enough T) (hr.mono (by decide)) (by rfl) T.g_enough T.F_enough.kp T.b_enough .nil pass0 (pa_cons (pv 2) (pa_cons pe_int pa_nil))) (pe_lst (pa_cons pe_int (pa_cons pe_int pa_nil))) (nomark _)) (pw_or (pt_cmpR op_ne (pe_call (G_on_the_way T) (hr.mono (by decide)) (by rfl) T.g_on_the_way T.F_on_the_way.kp T.b_on_the_way .nil pass0 (pa_cons (pv 2) (pa_cons pe_int pa_nil))) pe_int (nomark _)) (pw_or1 (pt_cmpR (k_neD K rfl hr.units) (pe_call (G_enough T) (hr.mono (by decide)) (by rfl) T.g_enough T.F_enough.kp T.b_enough .nil pass0 (pa_cons (pv 2) (pa_cons pe_int pa_nil))) (pe_lst (pa_cons pe_int (pa_cons pe_int pa_nil))) (nomark _))))))
    (pss_one (ps_ret pe_bl))
    pss_nil)
  (pss_cons (ps_set (i := 3) sc_law.nd rfl (by first | exact Or.inl rfl | exact Or.inr rfl) (pe_make T.mk_Mixer (G_Mixer___init__ T) (hr.mono (by decide)) (by rfl) T.gc_Mixer T.b_Mixer___init__ .nil pass0 (pa_cons pe_int (pa_cons (pe_lst (pa_cons (pe_tup (pa_cons pe_str (pa_cons pe_int (pa_cons (pe_lst (pa_cons pe_int (pa_cons pe_int pa_nil))) (pa_cons pe_int pa_nil))))) (pa_cons (pe_tup (pa_cons pe_str (pa_cons pe_int (pa_cons (pe_lst (pa_cons pe_int (pa_cons (pe_un un_neg pe_int) pa_nil))) (pa_cons pe_int pa_nil))))) pa_nil))) pa_nil))))
  (pss_cons (ps_if (PW.pt (pw_or (pt_cmpR (k_neD K rfl hr.units) (pe_call (G_enough T) (hr.mono (by decide)) (by rfl) T.g_enough T.F_enough.kp T.b_enough .nil pass0 (pa_cons (pv 3) (pa_cons pe_int pa_nil))) (pe_lst (pa_cons pe_int (pa_cons pe_int pa_nil))) (nomark _)) (pw_or (pt_cmpR op_ne (pe_call (G_on_the_way T) (hr.mono (by decide)) (by rfl) T.g_on_the_way T.F_on_the_way.kp T.b_on_the_way .nil pass0 (pa_cons (pv 3) (pa_cons pe_int pa_nil))) pe_int (nomark _)) (pw_or1 (pt_cmpR op_ne (pe_call (G_on_the_way T) (hr.mono (by decide)) (by rfl) T.g_on_the_way T.F_on_the_way.kp T.b_on_the_way .nil pass0 (pa_cons (pe_make T.mk_Mixer (G_Mixer___init__ T) (hr.mono (by decide)) (by rfl) T.gc_Mixer T.b_Mixer___init__ .nil pass0 (pa_cons pe_int (pa_cons (pe_lst pa_nil) pa_nil))) (pa_cons pe_int pa_nil))) pe_int (nomark _))))))
    (pss_one (ps_ret pe_bl))
    pss_nil)
  (pss_one (ps_ret (pe_and (pe_cmpR (k_eqD K rfl hr.units) (pe_call (G_enough T) (hr.mono (by decide)) (by rfl) T.g_enough T.F_enough.kp T.b_enough .nil pass0 (pa_cons (pe_make T.mk_Mixer (G_Mixer___init__ T) (hr.mono (by decide)) (by rfl) T.gc_Mixer T.b_Mixer___init__ .nil pass0 (pa_cons pe_int (pa_cons (pe_lst (pa_cons (pe_tup (pa_cons pe_str (pa_cons pe_int pa_nil))) pa_nil)) pa_nil))) (pa_cons pe_int pa_nil))) (pe_lst (pa_cons pe_int pa_nil)) (nomark _)) (pe_one (pe_cmpR op_eq (pe_call (G_on_the_way T) (hr.mono (by decide)) (by rfl) T.g_on_the_way T.F_on_the_way.kp T.b_on_the_way .nil pass0 (pa_cons (pe_make T.mk_Mixer (G_Mixer___init__ T) (hr.mono (by decide)) (by rfl) T.gc_Mixer T.b_Mixer___init__ .nil pass0 (pa_cons pe_int (pa_cons (pe_lst (pa_cons (pe_tup (pa_cons pe_str (pa_cons pe_int (pa_cons pe_int pa_nil)))) pa_nil)) pa_nil))) (pa_cons pe_int pa_nil))) pe_int (nomark _))))))))))), ?_⟩
  walk_at "go"
  refine ⟨by decide, by decide, ?_⟩
  walk_at "b"
  refine for_range (lo := 0) (n := ((2 : Int)).toNat) (fun i σ H1 => ∃ v1 v4 v5 v6 v7 v8 : Option V, σ = [some (.ref a), v1, none, none, v4, v5, v6, v7, v8, none] ∧ Same H H1) ⟨none, none, none, none, none, none, rfl, Same.refl _⟩ ?_ ?_
  · rintro i σ H1 hi ⟨v1, v4, v5, v6, v7, v8, rfl, s1⟩
    have hi2 : i < 2 := hi
    rw [Int.zero_add]
    walk_at "go"
    refine ⟨a, ns, i, rfl, s1.seq hA, fun H2 g s2 ng g2 => ?_⟩
    walk_at "go"
    refine ⟨g, _, _, rfl, g2, by omega, by decide, small_2900 (by decide), fun d H3 d0 d1 g3 b3 => ?_⟩
    have s3 := But.all b3 s2 ng
    obtain ⟨n, hn, hn1, hn4⟩ : ∃ n : Nat, 1 + d = (n : Int) ∧ 1 ≤ n ∧ n ≤ 4 := ⟨(1 + d).toNat, by omega, by omega, by omega⟩
    walk_at "go"
    rw [show (fun (i j : Int) => V.int (i + j)) 1 d = V.int (n : Int) from congrArg V.int hn]
    walk_at "go"
    refine ⟨(show 4 ≤ sizeLine by decide), fun L nL => ?_⟩
    obtain ⟨H4, e4, s4, h4⟩ := fresh (.lst [V.int 3, V.int 2, V.int 1, V.int 1]) nL
    rw [e4]
    walk_at "go"
    obtain ⟨b, hb3, hbn6, hbn⟩ : ∃ b : Nat, b ≤ 3 ∧ b * n ≤ 6 ∧ atI [V.int 3, V.int 2, V.int 1, V.int 1] ((n : Int) - 1) = some (.int (b : Nat)) := by
      match n, hn1, hn4 with
      | 1, _, _ => exact ⟨3, by decide, by decide, rfl⟩
      | 2, _, _ => exact ⟨2, by decide, by decide, rfl⟩
      | 3, _, _ => exact ⟨1, by decide, by decide, rfl⟩
      | 4, _, _ => exact ⟨1, by decide, by decide, rfl⟩
    refine ⟨L, _, _, _, rfl, rfl, .inl (.inl h4), hbn, ?_⟩
    have g4 := g3.same s4
    have s04 := s3.trans s4
    walk_at "go"
    refine ⟨g, _, n, 5, b, rfl, g4, by omega, hn1, hn4, by decide, by omega, fun H5 p ss b5 g5 np pg S5 hO hl hbs => ?_⟩
    have hpow := pow_six hbs hbn6
    walk_at "go"
    refine ⟨_, p, ss, rfl, S5, by omega, fun H6 p6 s6 np6 S6 => ?_⟩
    walk_at "go"
    intro x z2 z3 z4 z5
    refine ⟨x, z2, p6, n, ss, rfl, upd_same, hn1, hn4, (S6.mono fun _ _ => trivial).same (mk_same z3 z4), hO, by omega, fun H7 r kp nr M7 => ⟨rfl, ?_⟩⟩
    have rg : r ≠ g := g5.ne (s6.free ((mk_same z3 z4).free nr))
    have s57 := s6.trans (mk_kept z3 z4 kp)
    clear kp z3 z4 z5 nr
    have g7 := g5.same s57
    have S7 := S5.same s57
    walk_at "go"
    refine ⟨g, _, _, rfl, g7, by omega, by decide, small_2900 (by decide), fun e H8 e0 e1 g8 b8 => ?_⟩
    obtain ⟨dp, hdp, hdp1, hdp2⟩ : ∃ n : Nat, 1 + e = (n : Int) ∧ 1 ≤ n ∧ n ≤ 32 := ⟨(1 + e).toNat, by omega, by omega, by omega⟩
    walk_at "go"
    rw [show (fun (i j : Int) => V.int (i + j)) 1 e = V.int (dp : Int) from congrArg V.int hdp]
    walk_at "go"
    have M8 := M7.but g7 rg b8
    have S8 := steps_but S7 g7 b8 (fun l h => h) pg
    refine ⟨g, x, r, p, _, n, dp, ss, rfl, g8, by omega, M8, rg, S8, pg, hO, hn1, hn4, by omega, by omega, hpow, hdp1, hdp2, fun H9 b9 g9 => ?_⟩
    have M9 := M8.but g8 rg b9
    have S9 := steps_but S8 g8 b9 (fun l h => h) pg
    have hm3 : (1 : Int) + (dp : Int) % 3 = ((1 + dp % 3 : Nat) : Int) := by omega
    walk_at "go"
    refine ⟨(by show (0 : Int) < 3; decide), ?_⟩
    walk_at "go"
    rw [show (fun (i j : Int) => V.int (i + j)) 1 ((dp : Int) % 3) = V.int ((1 + dp % 3 : Nat) : Int) from congrArg V.int hm3]
    refine ⟨g, x, r, p, _, n, 1 + dp % 3, ss, rfl, g9, by omega, M9, rg, S9, pg, hO, hn1, hn4, by omega, by omega, hpow, by omega, by omega, fun H10 b10 g10 => ?_⟩
    have M10 := M9.but g9 rg b10
    walk_at "go"
    refine ⟨by omega, by omega, fun Dk nDk => ?_⟩
    rw [Int.toNat_natCast]
    refine lc_selR (lo := 0) (n := n) ((List.range n).map fun _ => none) nDk (by rw [List.length_map, List.length_range]) (small1000 (by omega)) (fun x => rfl) ?_ ?_
    · intro k o H' hk ho s' Qt qt
      rw [List.getElem?_map, List.getElem?_range hk] at ho
      cases ho
      have g10' := s'
      have em : (if (1 : Int) > (dp : Int) - 1 then (1 : Int) else (dp : Int) - 1) = ((max (dp - 1) 1 : Nat) : Int) := by split <;> omega
      have mo := depth_mono hO hk (show max (dp - 1) 1 ≤ dp by omega)
      rw [Int.zero_add]
      walk_at "go"
      walk_at "b"
      rw [em]
      walk_at "go"
      refine ⟨x, r, n, max (dp - 1) 1, ss, rfl, M10.same s', hO, hn1, hn4, by omega, by omega, hpow, by omega, by omega, fun H11 D11 s11 _ h11 => ?_⟩
      have ed : ∀ d, ((List.range n).map fun i => ((depthP (endV n (boxN n d) ss i) : Nat) : Int)).getD k 0 = (depthP (endV n (boxN n d) ss k) : Nat) := fun d => by
        rw [List.getD_eq_getElem?_getD, List.getElem?_map, List.getElem?_range hk]
        rfl
      have el : ∀ d, k < ((List.range n).map fun i => ((depthP (endV n (boxN n d) ss i) : Nat) : Int)).length := fun d => by rw [List.length_map, List.length_range]; exact hk
      walk_at "go"
      refine ⟨D11, _, _, _, rfl, rfl, .inl (.inl h11), at_getD (el _), ?_⟩
      rw [ed]
      walk_at "go"
      refine ⟨x, r, n, dp, ss, rfl, M10.same (s'.trans s11), hO, hn1, hn4, by omega, by omega, hpow, hdp1, hdp2, fun H12 D12 s12 _ h12 => ?_⟩
      walk_at "go"
      refine ⟨D12, _, _, _, rfl, rfl, .inl (.inl h12), at_getD (el _), ?_⟩
      rw [ed]
      walk_at "go"
      exact qt _ (s11.trans s12)
    intro H11 s11 hDk
    rw [fm_non0] at hDk
    walk_at "go"
    refine ⟨Nat.zero_le _, fun p12 np12 => ?_⟩
    obtain ⟨H12, e12, s12, h12⟩ := fresh (.lst []) np12
    rw [e12]
    refine ne_lst (ns := []) (.inl (.inl (s12 _ _ hDk))) (.inl (.inl h12)) ?_
    walk_at "go"
    exact ⟨_, _, _, _, _, _, rfl, s1.trans (But.all ((b5.same s57).trans (b8.trans (b9.trans (b10.same (s11.trans s12))))) s04 ng)⟩
  · rintro σ H1 ⟨v1, v4, v5, v6, v7, v8, rfl, s1⟩
    clear s1 hA
    walk_at "go"
    refine ⟨(show 2 ≤ sizeLine by decide), fun pal0 npal0 => ?_⟩
    obtain ⟨H2, e2, s2, h2⟩ := fresh (.lst (([-1, 0] : List Int).map V.int)) npal0
    rw [show upd H1 pal0 (.lst [V.int (-1), V.int 0]) = H2 from e2]
    walk_at "go"
    refine ⟨(show 4 ≤ sizeLine by decide), fun pat0 npat0 => ?_⟩
    obtain ⟨H3, e3, s3, h3⟩ := fresh (.tup [sL, V.int 1, V.ref pal0, V.int 0]) npat0
    rw [show upd H2 pat0 (.tup [V.str (Str.ofString "lift"), V.int 1, V.ref pal0, V.int 0]) = H3 from e3]
    walk_at "go"
    refine ⟨(show 2 ≤ sizeLine by decide), fun pal1 npal1 => ?_⟩
    obtain ⟨H4, e4, s4, h4⟩ := fresh (.lst (([0, 1] : List Int).map V.int)) npal1
    rw [show upd H3 pal1 (.lst [V.int 0, V.int 1]) = H4 from e4]
    walk_at "go"
    refine ⟨(show 4 ≤ sizeLine by decide), fun pat1 npat1 => ?_⟩
    obtain ⟨H5, e5, s5, h5⟩ := fresh (.tup [sL, V.int 0, V.ref pal1, V.int 1]) npat1
    rw [show upd H4 pat1 (.tup [V.str (Str.ofString "lift"), V.int 0, V.ref pal1, V.int 1]) = H5 from e5]
    walk_at "go"
    refine ⟨(show 2 ≤ sizeLine by decide), fun pa npa => ?_⟩
    obtain ⟨H6, e6, s6, h6⟩ := fresh (.lst [V.ref pat0, V.ref pat1]) npa
    rw [show upd H5 pa (.lst [V.ref pat0, V.ref pat1]) = H6 from e6]
    have Spa : StepsAt (fun _ => True) H6 pa [.lift 1 [-1, 0] 0, .lift 0 [0, 1] 1] := ⟨_, h6, (show AllV (StepV (fun _ => True) H6) [V.ref pat0, V.ref pat1] [.lift 1 [-1, 0] 0, .lift 0 [0, 1] 1] from ⟨⟨pat0, pal0, rfl, (s4.trans (s5.trans s6)) _ _ h3, (s3.trans (s4.trans (s5.trans s6))) _ _ h2, trivial⟩, ⟨pat1, pal1, rfl, s6 _ _ h5, (s5.trans s6) _ _ h4, trivial⟩, trivial⟩)⟩
    walk_at "go"
    intro x1 z2 z3 z4 z5
    refine ⟨x1, z2, pa, 2, [.lift 1 [-1, 0] 0, .lift 0 [0, 1] 1], rfl, upd_same, by decide, by decide, (Spa.same (Same.refl _)).same (mk_same z3 z4), (show ∀ s ∈ ([.lift 1 [-1, 0] 0, .lift 0 [0, 1] 1] : List Step), s.ok 2 by decide), by decide, fun H7 r1 kp nr M1 => ⟨rfl, ?_⟩⟩
    have s7 : Same H6 H7 := mk_kept z3 z4 kp
    clear kp z3 z4 z5 nr
    walk_at "go"
    refine ⟨x1, r1, 2, 16, [.lift 1 [-1, 0] 0, .lift 0 [0, 1] 1], rfl, (M1.same (Same.refl _)), (show ∀ s ∈ ([.lift 1 [-1, 0] 0, .lift 0 [0, 1] 1] : List Step), s.ok 2 by decide), by decide, by decide, by decide, by decide, by decide, by decide, by decide, fun H8 D8 s8 _ h8 => ?_⟩
    rw [show ((List.range 2).map fun i => ((depthP (endV 2 (boxN 2 16) [.lift 1 [-1, 0] 0, .lift 0 [0, 1] 1] i) : Nat) : Int)) = [16, 17] from by decide +kernel] at h8
    walk_at "go"
    refine ⟨(show 2 ≤ sizeLine by decide), fun l8 nl8 => ?_⟩
    obtain ⟨H9, e9, s9, h9⟩ := fresh (.lst (([16, 17] : List Int).map V.int)) nl8
    rw [show upd H8 l8 (.lst [V.int 16, V.int 17]) = H9 from e9]
    refine ne_lst (ns := [16, 17]) (.inl (.inl (s9 _ _ h8))) (.inl (.inl h9)) ?_
    walk_at "go"
    refine ⟨x1, r1, 2, 16, [.lift 1 [-1, 0] 0, .lift 0 [0, 1] 1], rfl, (M1.same (s8.trans s9)), (show ∀ s ∈ ([.lift 1 [-1, 0] 0, .lift 0 [0, 1] 1] : List Step), s.ok 2 by decide), by decide, by decide, by decide, by decide, by decide, by decide, by decide, fun H10 s10 => ?_⟩
    rw [show wayP 2 16 [.lift 1 [-1, 0] 0, .lift 0 [0, 1] 1] ([.lift 1 [-1, 0] 0, .lift 0 [0, 1] 1] : List Step).length = 17 from by decide +kernel]
    walk_at "go"
    refine ⟨x1, r1, 2, 1, [.lift 1 [-1, 0] 0, .lift 0 [0, 1] 1], rfl, (M1.same (s8.trans (s9.trans s10))), (show ∀ s ∈ ([.lift 1 [-1, 0] 0, .lift 0 [0, 1] 1] : List Step), s.ok 2 by decide), by decide, by decide, by decide, by decide, by decide, by decide, by decide, fun H11 D11 s11 _ h11 => ?_⟩
    rw [show ((List.range 2).map fun i => ((depthP (endV 2 (boxN 2 1) [.lift 1 [-1, 0] 0, .lift 0 [0, 1] 1] i) : Nat) : Int)) = [1, 2] from by decide +kernel] at h11
    walk_at "go"
    refine ⟨(show 2 ≤ sizeLine by decide), fun l11 nl11 => ?_⟩
    obtain ⟨H12, e12, s12, h12⟩ := fresh (.lst (([1, 2] : List Int).map V.int)) nl11
    rw [show upd H11 l11 (.lst [V.int 1, V.int 2]) = H12 from e12]
    refine ne_lst (ns := [1, 2]) (.inl (.inl (s12 _ _ h11))) (.inl (.inl h12)) ?_
    walk_at "go"
    refine ⟨(show 2 ≤ sizeLine by decide), fun pbl0 npbl0 => ?_⟩
    obtain ⟨H13, e13, s13, h13⟩ := fresh (.lst (([0, 3] : List Int).map V.int)) npbl0
    rw [show upd H12 pbl0 (.lst [V.int 0, V.int 3]) = H13 from e13]
    walk_at "go"
    refine ⟨(show 4 ≤ sizeLine by decide), fun pbt0 npbt0 => ?_⟩
    obtain ⟨H14, e14, s14, h14⟩ := fresh (.tup [sL, V.int 0, V.ref pbl0, V.int 0]) npbt0
    rw [show upd H13 pbt0 (.tup [V.str (Str.ofString "lift"), V.int 0, V.ref pbl0, V.int 0]) = H14 from e14]
    walk_at "go"
    refine ⟨(show 2 ≤ sizeLine by decide), fun pbl1 npbl1 => ?_⟩
    obtain ⟨H15, e15, s15, h15⟩ := fresh (.lst (([0, -3] : List Int).map V.int)) npbl1
    rw [show upd H14 pbl1 (.lst [V.int 0, V.int (-3)]) = H15 from e15]
    walk_at "go"
    refine ⟨(show 4 ≤ sizeLine by decide), fun pbt1 npbt1 => ?_⟩
    obtain ⟨H16, e16, s16, h16⟩ := fresh (.tup [sL, V.int 0, V.ref pbl1, V.int 0]) npbt1
    rw [show upd H15 pbt1 (.tup [V.str (Str.ofString "lift"), V.int 0, V.ref pbl1, V.int 0]) = H16 from e16]
    walk_at "go"
    refine ⟨(show 2 ≤ sizeLine by decide), fun pb npb => ?_⟩
    obtain ⟨H17, e17, s17, h17⟩ := fresh (.lst [V.ref pbt0, V.ref pbt1]) npb
    rw [show upd H16 pb (.lst [V.ref pbt0, V.ref pbt1]) = H17 from e17]
    have Spb : StepsAt (fun _ => True) H17 pb [.lift 0 [0, 3] 0, .lift 0 [0, -3] 0] := ⟨_, h17, (show AllV (StepV (fun _ => True) H17) [V.ref pbt0, V.ref pbt1] [.lift 0 [0, 3] 0, .lift 0 [0, -3] 0] from ⟨⟨pbt0, pbl0, rfl, (s15.trans (s16.trans s17)) _ _ h14, (s14.trans (s15.trans (s16.trans s17))) _ _ h13, trivial⟩, ⟨pbt1, pbl1, rfl, s17 _ _ h16, (s16.trans s17) _ _ h15, trivial⟩, trivial⟩)⟩
    walk_at "go"
    intro x2 z2 z3 z4 z5
    refine ⟨x2, z2, pb, 2, [.lift 0 [0, 3] 0, .lift 0 [0, -3] 0], rfl, upd_same, by decide, by decide, (Spb.same (Same.refl _)).same (mk_same z3 z4), (show ∀ s ∈ ([.lift 0 [0, 3] 0, .lift 0 [0, -3] 0] : List Step), s.ok 2 by decide), by decide, fun H18 r2 kp nr M2 => ⟨rfl, ?_⟩⟩
    have s18 : Same H17 H18 := mk_kept z3 z4 kp
    clear kp z3 z4 z5 nr
    walk_at "go"
    refine ⟨x2, r2, 2, 8, [.lift 0 [0, 3] 0, .lift 0 [0, -3] 0], rfl, (M2.same (Same.refl _)), (show ∀ s ∈ ([.lift 0 [0, 3] 0, .lift 0 [0, -3] 0] : List Step), s.ok 2 by decide), by decide, by decide, by decide, by decide, by decide, by decide, by decide, fun H19 D19 s19 _ h19 => ?_⟩
    rw [show ((List.range 2).map fun i => ((depthP (endV 2 (boxN 2 8) [.lift 0 [0, 3] 0, .lift 0 [0, -3] 0] i) : Nat) : Int)) = [8, 8] from by decide +kernel] at h19
    walk_at "go"
    refine ⟨(show 2 ≤ sizeLine by decide), fun l19 nl19 => ?_⟩
    obtain ⟨H20, e20, s20, h20⟩ := fresh (.lst (([8, 8] : List Int).map V.int)) nl19
    rw [show upd H19 l19 (.lst [V.int 8, V.int 8]) = H20 from e20]
    refine ne_lst (ns := [8, 8]) (.inl (.inl (s20 _ _ h19))) (.inl (.inl h20)) ?_
    walk_at "go"
    refine ⟨x2, r2, 2, 8, [.lift 0 [0, 3] 0, .lift 0 [0, -3] 0], rfl, (M2.same (s19.trans s20)), (show ∀ s ∈ ([.lift 0 [0, 3] 0, .lift 0 [0, -3] 0] : List Step), s.ok 2 by decide), by decide, by decide, by decide, by decide, by decide, by decide, by decide, fun H21 s21 => ?_⟩
    rw [show wayP 2 8 [.lift 0 [0, 3] 0, .lift 0 [0, -3] 0] ([.lift 0 [0, 3] 0, .lift 0 [0, -3] 0] : List Step).length = 10 from by decide +kernel]
    walk_at "go"
    refine ⟨Nat.zero_le _, fun pc npc => ?_⟩
    obtain ⟨H22, e22, s22, h22⟩ := fresh (.lst []) npc
    rw [show upd H21 pc (.lst []) = H22 from e22]
    have Spc : StepsAt (fun _ => True) H22 pc [] := ⟨[], h22, trivial⟩
    walk_at "go"
    intro x3 z2 z3 z4 z5
    refine ⟨x3, z2, pc, 3, [], rfl, upd_same, by decide, by decide, (Spc.same (Same.refl _)).same (mk_same z3 z4), (show ∀ s ∈ ([] : List Step), s.ok 3 by decide), by decide, fun H23 r3 kp nr M3 => ⟨rfl, ?_⟩⟩
    have s23 : Same H22 H23 := mk_kept z3 z4 kp
    clear kp z3 z4 z5 nr
    walk_at "go"
    refine ⟨x3, r3, 3, 32, [], rfl, (M3.same (Same.refl _)), (show ∀ s ∈ ([] : List Step), s.ok 3 by decide), by decide, by decide, by decide, by decide, by decide, by decide, by decide, fun H24 s24 => ?_⟩
    rw [show wayP 3 32 [] ([] : List Step).length = 32 from by decide +kernel]
    walk_at "go"
    refine ⟨(show 2 ≤ sizeLine by decide), fun pdt0 npdt0 => ?_⟩
    obtain ⟨H25, e25, s25, h25⟩ := fresh (.tup [sT, V.int 0]) npdt0
    rw [show upd H24 pdt0 (.tup [V.str (Str.ofString "turn"), V.int 0]) = H25 from e25]
    walk_at "go"
    refine ⟨(show 1 ≤ sizeLine by decide), fun pd npd => ?_⟩
    obtain ⟨H26, e26, s26, h26⟩ := fresh (.lst [V.ref pdt0]) npd
    rw [show upd H25 pd (.lst [V.ref pdt0]) = H26 from e26]
    have Spd : StepsAt (fun _ => True) H26 pd [.turn 0] := ⟨_, h26, (show AllV (StepV (fun _ => True) H26) [V.ref pdt0] [.turn 0] from ⟨⟨pdt0, rfl, s26 _ _ h25⟩, trivial⟩)⟩
    walk_at "go"
    intro x4 z2 z3 z4 z5
    refine ⟨x4, z2, pd, 1, [.turn 0], rfl, upd_same, by decide, by decide, (Spd.same (Same.refl _)).same (mk_same z3 z4), (show ∀ s ∈ ([.turn 0] : List Step), s.ok 1 by decide), by decide, fun H27 r4 kp nr M4 => ⟨rfl, ?_⟩⟩
    have s27 : Same H26 H27 := mk_kept z3 z4 kp
    clear kp z3 z4 z5 nr
    walk_at "go"
    refine ⟨x4, r4, 1, 32, [.turn 0], rfl, (M4.same (Same.refl _)), (show ∀ s ∈ ([.turn 0] : List Step), s.ok 1 by decide), by decide, by decide, by decide, by decide, by decide, by decide, by decide, fun H28 D28 s28 _ h28 => ?_⟩
    rw [show ((List.range 1).map fun i => ((depthP (endV 1 (boxN 1 32) [.turn 0] i) : Nat) : Int)) = [33] from by decide +kernel] at h28
    walk_at "go"
    refine ⟨(show 1 ≤ sizeLine by decide), fun l28 nl28 => ?_⟩
    obtain ⟨H29, e29, s29, h29⟩ := fresh (.lst (([33] : List Int).map V.int)) nl28
    rw [show upd H28 l28 (.lst [V.int 33]) = H29 from e29]
    refine eqD_lst (ns := [33]) (ms := [33]) (.inl (.inl (s29 _ _ h28))) (.inl (.inl h29)) ?_
    rw [decide_eq_true rfl]
    walk_at "go"
    refine ⟨(show 3 ≤ sizeLine by decide), fun pet0 npet0 => ?_⟩
    obtain ⟨H30, e30, s30, h30⟩ := fresh (.tup [sS, V.int 0, V.int 1]) npet0
    rw [show upd H29 pet0 (.tup [V.str (Str.ofString "swap"), V.int 0, V.int 1]) = H30 from e30]
    walk_at "go"
    refine ⟨(show 1 ≤ sizeLine by decide), fun pe npe => ?_⟩
    obtain ⟨H31, e31, s31, h31⟩ := fresh (.lst [V.ref pet0]) npe
    rw [show upd H30 pe (.lst [V.ref pet0]) = H31 from e31]
    have Spe : StepsAt (fun _ => True) H31 pe [.swap 0 1] := ⟨_, h31, (show AllV (StepV (fun _ => True) H31) [V.ref pet0] [.swap 0 1] from ⟨⟨pet0, rfl, s31 _ _ h30⟩, trivial⟩)⟩
    walk_at "go"
    intro x5 z2 z3 z4 z5
    refine ⟨x5, z2, pe, 2, [.swap 0 1], rfl, upd_same, by decide, by decide, (Spe.same (Same.refl _)).same (mk_same z3 z4), (show ∀ s ∈ ([.swap 0 1] : List Step), s.ok 2 by decide), by decide, fun H32 r5 kp nr M5 => ⟨rfl, ?_⟩⟩
    have s32 : Same H31 H32 := mk_kept z3 z4 kp
    clear kp z3 z4 z5 nr
    walk_at "go"
    refine ⟨x5, r5, 2, 5, [.swap 0 1], rfl, (M5.same (Same.refl _)), (show ∀ s ∈ ([.swap 0 1] : List Step), s.ok 2 by decide), by decide, by decide, by decide, by decide, by decide, by decide, by decide, fun H33 s33 => ?_⟩
    rw [show wayP 2 5 [.swap 0 1] ([.swap 0 1] : List Step).length = 5 from by decide +kernel]
    walk_at "go"
    rw [show decide (V.int ((5 : Nat) : Int) = V.int 5) = true from decide_eq_true rfl]
    exact q _
end
end My

open PySem PySem.W PySem.Calls PyProof.Rows
set_option maxRecDepth 100000 in
set_option maxHeartbeats 0 in
theorem PySem.Challenge.cw_wholesound_k35_whole_enough_for_all_samp_holds : PySem.Challenge.rw_wholesound_k35_whole_enough_for_all_samp.Holds := by
  w_on; o_law
  refine HandSHeadRun.head_any (r := OpenLaw.row PySem.Challenge.rw_wholesound_k35_whole_enough_for_all_samp) (q := view (OpenLaw.row PySem.Challenge.rw_wholesound_k35_whole_enough_for_all_samp).prog [69]) (H := My.hk) (ob := My.ob) (M := 8000) (loose := My.loose) (d := HandSHeadRun.topDef (OpenLaw.row PySem.Challenge.rw_wholesound_k35_whole_enough_for_all_samp).prog 69) (kwd := []) My.ob_eq
    (by kernel_rfl) (fun s => by kernel_rfl) My.run (by kernel_rfl) (by kernel_rfl) (by kernel_rfl) (by rfl) (by first | assumption | decide +kernel) (by decide +kernel) ⟨rfl, rfl, rfl, rfl, rfl, by decide +kernel⟩ ?hw ?hc
  case hw => w_witness2
  case hc =>
    refine L2.walk_ofE (l := PySem.Challenge.rw_wholesound_k35_whole_enough_for_all_samp) (n := 63) (k := 8) (x := "_law_script") (CX := L2.CX0) rfl (by decide) (by kernel_rfl) ⟨rfl, by decide, by decide⟩ ?F (fun _ _ _ _ z => z)
    intro w mg fa h Y G hmg0
    obtain ⟨K, KX, c⟩ := Y
    have hmg : mg ("law" : PySem.Str) = some (.ref fa) := by
      have e : (HandSHeadRun.topDef (OpenLaw.row PySem.Challenge.rw_wholesound_k35_whole_enough_for_all_samp).prog 69).name = ("law" : PySem.Str) := by kernel_rfl
      rw [← e]
      exact hmg0
    have T : My.Top K mg := My.top_mk KX G c
    have e := hmg.symm.trans T.g_law
    cases e
    have b := L2.FunD.bindsA (ps := ["_law_script"]) T.F_law fun _ _ _ _ _ _ us hl => match us, hl with | [_], _ => rfl
    exact ⟨K, T.fd_law, My.sp_law K, KX, fun s v => b s [v] rfl, fun H a ns hl _ hS => ⟨a, ns, rfl, hS, hl, fun _ => rfl⟩, fun base _ _ => My.G_law T⟩


