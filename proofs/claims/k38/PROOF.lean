import PyProof.Rows.All
import Wide.All
import OpenK.AllK
import Wide.FinOn
import KE.KStateDown
import Lean
import HandS.ForMost
import HandS.Exc
import HandS.Flow
import HandS.DictComp
import HandS.Style
import HandS.Wide
import HandS.WideBits
import HandS.IsInst
import HandS.Codes
import HandS.Walk
import HandS.Words
import HandS.WordsExc
import HandS.Defaults
import HandS.Head0
import HandS.Head1
import HandS.Head2
import HandS.HeadEnd
import HandS.HeadHook1
import HandS.HeadHook2
import HandS.SortInts
import PyProof.Rows.SortShellAny
import PyProof.InstNe
import KE.DataMinMax
import KE.SortData
import KE.IntBitsLaws
import KE.BitLaws
import HandS.Deep
import HandS.SetKeys
import PyProof.Rows.StrMul
import HandS.TupLe
import HandS.Property
import HandS.Conv
import HandS.NoneIn
import HandS.SetFor
import HandS.Strs
import HandS.Sort
import KE.GoesZip
import KE.GoesMore
import HandS.Zip
import PyProof.CallType
import PyProof.ZipIter
import PyProof.TupleIter
import PyProof.Rows.CallKwBuiltin
import HandS.Star
import PySem.Challenge.RW_wholesound_k38_whole_fewest_lifts
set_option Elab.async false
set_option linter.all false
set_option maxRecDepth 100000
set_option maxHeartbeats 4000000
set_option exponentiation.threshold 100000
namespace Pre
open PySem PySem.Spec PyProof.Rows L2
/-! ### heaps -/
theorem same_upd {H : Hp} {p : Addr} {o : HO} (h : H p = none) : Same H (upd H p o) := fun b x e => by
  rw [upd_ne (ne_of_none e h)]
  exact e
/-- a fresh thing that is then changed is no change of what was -/
theorem same_over {H H' : Hp} {p : Addr} {o : HO} (n : H p = none) (s : Same H H') : Same H (upd H' p o) := fun b x e => by
  rw [upd_ne (ne_of_none e n)]
  exact s b x e
theorem Same.tup {K : PySem.W.Frag} {H H' : Hp} {a : Addr} {xs : List V} (e : Same H H') (h : SqT K H a xs) : SqT K H' a xs := by
  rcases h with (h | ⟨o, h⟩) | h
  · exact .inl (.inl (e _ _ h))
  · exact .inl (.inr ⟨o, e _ _ h⟩)
  · exact .inr h
mutual
theorem dp_same {K : PySem.W.Frag} {H H' : Hp} (s : Same H H') : ∀ (d : PyData) (v : V), Dp K H v d → Dp K H' v d
  | .none, _, h => by cases h; exact .non
  | .bool _, _, h => by cases h; exact .bl _
  | .int _, _, h => by cases h; exact .int _
  | .str _, _, h => by cases h; exact .str _
  | .list ds, _, h => by cases h with | lst a b => exact .lst (s.seq a) (dps_same s ds _ b)
  | .tuple ds, _, h => by cases h with | tup a b => exact .tup (Same.tup s a) (dps_same s ds _ b)
  | .dict _, _, h => nomatch h
theorem dps_same {K : PySem.W.Frag} {H H' : Hp} (s : Same H H') : ∀ (ds : List PyData) (vs : List V), DpAll K H vs ds → DpAll K H' vs ds
  | [], _, h => by cases h; exact .nil
  | d :: ds, _, h => by cases h with | cons a b => exact .cons (dp_same s d _ a) (dps_same s ds _ b)
end
theorem dp_ints {K : PySem.W.Frag} {H : Hp} : ∀ ns : List Int, DpAll K H (ns.map V.int) (ns.map PyData.int)
  | [] => .nil
  | n :: r => .cons (.int n) (dp_ints r)
theorem eqv_ints : ∀ ns ms : List Int, PyData.eqvAll (ns.map PyData.int) (ms.map PyData.int) = decide (ns = ms)
  | [], [] => rfl
  | [], _ :: _ => rfl
  | _ :: _, [] => rfl
  | n :: r, m :: q => by
    show (PyData.eqv (.int n) (.int m) && PyData.eqvAll (r.map PyData.int) (q.map PyData.int)) = decide (n :: r = m :: q)
    rw [eqv_ints r q]
    show ((n == m) && decide (r = q)) = decide (n :: r = m :: q)
    by_cases h : n = m
    · subst h; simp
    · simp [h]
theorem lay_ints : ∀ ns : List Int, PyData.canLayAll0 (ns.map PyData.int) = true
  | [] => rfl
  | n :: r => by
    show (PyData.canLay0 (.int n) && PyData.canLayAll0 (r.map PyData.int)) = true
    rw [lay_ints r]
    rfl
theorem depth_ints : ∀ ns : List Int, PyData.depthAll (ns.map PyData.int) = 0
  | [] => by simp [PyData.depthAll]
  | n :: r => by
    show PyData.depthAll (.int n :: r.map PyData.int) = 0
    rw [PyData.depthAll, depth_ints r]
    simp [PyData.depth]
theorem shaped_ints (ns : List Int) : SeqAt.shaped (.list (ns.map PyData.int)) = true := by
  unfold SeqAt.shaped
  rw [PyData.canLay0, lay_ints, PyData.depth, depth_ints]
  rfl
theorem shaped_tup (ns : List Int) : SeqAt.shaped (.tuple (ns.map PyData.int)) = true := by
  unfold SeqAt.shaped
  rw [PyData.canLay0, lay_ints, PyData.depth, depth_ints]
  rfl
/-! ### comparisons of lists and tuples of whole numbers that are told alike -/
theorem ne_tup {K : PySem.W.Frag} {H : Hp} {a b : Addr} {ns : List Int} {Q : V → Hp → Prop} (ha : SqT K H a (ns.map V.int)) (hb : SqT K H b (ns.map V.int)) (q : Q (.bl false) H) : rNeD K (.ref a) (.ref b) H Q := by
  refine ⟨.tuple (ns.map PyData.int), .tuple (ns.map PyData.int), .tup ha (dp_ints ns), .tup hb (dp_ints ns), shaped_tup ns, shaped_tup ns, ?_⟩
  rw [PyData.eqv, eqv_ints, decide_eq_true rfl]
  exact q
theorem eq_tup {K : PySem.W.Frag} {H : Hp} {a b : Addr} {ns : List Int} {Q : V → Hp → Prop} (ha : SqT K H a (ns.map V.int)) (hb : SqT K H b (ns.map V.int)) (q : Q (.bl true) H) : rEqD K (.ref a) (.ref b) H Q := by
  refine ⟨.tuple (ns.map PyData.int), .tuple (ns.map PyData.int), .tup ha (dp_ints ns), .tup hb (dp_ints ns), shaped_tup ns, shaped_tup ns, ?_⟩
  rw [PyData.eqv, eqv_ints, decide_eq_true rfl]
  exact q
/-- lists of whole numbers, compared -/
theorem eqD_lst {K : PySem.W.Frag} {H : Hp} {a b : Addr} {ns ms : List Int} {Q : V → Hp → Prop} (ha : SqL K H a (ns.map V.int)) (hb : SqL K H b (ms.map V.int)) (q : Q (.bl (decide (ns = ms))) H) : rEqD K (.ref a) (.ref b) H Q := by
  refine ⟨.list (ns.map PyData.int), .list (ms.map PyData.int), .lst ha (dp_ints ns), .lst hb (dp_ints ms), shaped_ints ns, shaped_ints ms, ?_⟩
  rw [PyData.eqv, eqv_ints]
  exact q
theorem neD_lst {K : PySem.W.Frag} {H : Hp} {a b : Addr} {ns ms : List Int} {Q : V → Hp → Prop} (ha : SqL K H a (ns.map V.int)) (hb : SqL K H b (ms.map V.int)) (q : Q (.bl (!decide (ns = ms))) H) : rNeD K (.ref a) (.ref b) H Q := by
  refine ⟨.list (ns.map PyData.int), .list (ms.map PyData.int), .lst ha (dp_ints ns), .lst hb (dp_ints ms), shaped_ints ns, shaped_ints ms, ?_⟩
  rw [PyData.eqv, eqv_ints]
  exact q
theorem ne_lst {K : PySem.W.Frag} {H : Hp} {a b : Addr} {ns : List Int} {Q : V → Hp → Prop} (ha : SqL K H a (ns.map V.int)) (hb : SqL K H b (ns.map V.int)) (q : Q (.bl false) H) : rNeD K (.ref a) (.ref b) H Q :=
  neD_lst ha hb (by rw [decide_eq_true rfl]; exact q)
theorem eq_lst {K : PySem.W.Frag} {H : Hp} {a b : Addr} {ns : List Int} {Q : V → Hp → Prop} (ha : SqL K H a (ns.map V.int)) (hb : SqL K H b (ns.map V.int)) (q : Q (.bl true) H) : rEqD K (.ref a) (.ref b) H Q :=
  eqD_lst ha hb (by rw [decide_eq_true rfl]; exact q)
/-! ### powers -/
def CPowW (i j : Int) : Prop := 0 ≤ j ∧ (Builtin.Int.intBits i : Int) * j ≤ 2 ^ 27
theorem op_powW {X : Cx} : OpR X (binaryOp .Pow) (rI CPowW fun i j => .int (i ^ j.toNat)) := opI fun _ _ _ _ _ _ _ hc q => pow_int hc.1 hc.2 q
/-! ### comprehensions whose parts leave what is tracked as it is: sel tells of each item what comes of it -/
theorem take_fm {α : Type} {l : List (Option α)} {i : Nat} {o : Option α} (h : l[i]? = some o) : (l.take (i + 1)).filterMap id = (l.take i).filterMap id ++ o.toList := by
  rw [List.take_add_one, h, List.filterMap_append]
  cases o <;> rfl
theorem fm_len {α : Type} (l : List (Option α)) (i : Nat) : ((l.take i).filterMap id).length ≤ l.length :=
  Nat.le_trans (List.length_filterMap_le _ _) (by rw [List.length_take]; omega)
theorem lc_selL {K : PySem.W.Frag} {a : Addr} {xs : List V} {j : Nat} {tt : TT} {te : TE} {vs : List Nat} {σ : L2.St} {H1 : Hp} {D : Addr} {Qd : Hp → Prop} (sel : List (Option V)) (nD : H1 D = none) (hS : SqL K H1 a xs) (hlen : sel.length = xs.length) (hz : xs.length < sizeLine)
    (hw : ∀ x, wipe ((wipe σ vs).set j (some x)) vs = wipe σ vs)
    (hs : ∀ (i : Nat) (x : V) (o : Option V) (H' : Hp), xs[i]? = some x → sel[i]? = some o → Same H1 H' → ∀ Qt : Option V → Hp → Prop, (∀ H'', Same H' H'' → Qt o H'') →
      tt ((wipe σ vs).set j (some x)) H' fun b H3 => if b = true then te ((wipe σ vs).set j (some x)) H3 fun y H4 => Qt (some y) H4 else Qt none H3)
    (hd : ∀ H', Same H1 H' → H' D = some (.lst (sel.filterMap id)) → Qd H') :
    ∃ W : Nat → Nat → Hp → Prop, (∃ m, W 0 m (upd H1 D (.lst []))) ∧ ∀ i m H, W i m H →
      ((Itl K a).stop i H ∧ Qd H) ∨ ((Itl K a).go i H ∧ ∃ Nx : Hp → Prop, (∀ H', Nx H' → ∃ m', m' < m ∧ W (i + 1) m' H') ∧ ∀ x H', (Itl K a).yld i H x H' → gName j x (wipe σ vs) H' fun σ2 H2 => wipe σ2 vs = wipe σ vs ∧ tt σ2 H2 fun b H3 =>
        if b = true then te σ2 H3 fun y H4 => ∃ acc, H4 D = some (.lst acc) ∧ acc.length < sizeLine ∧ Nx (upd H4 D (.lst (acc ++ [y]))) else Nx H3) := by
  refine lc_list (K := K) (a := a) (xs := xs) (fun i H => Same H1 H ∧ H D = some (.lst ((sel.take i).filterMap id))) ⟨same_upd nD, upd_same⟩ (fun i H _ p => p.1.seq hS) ?_ ?_
  · rintro i x H hx ⟨s, hD⟩
    refine ⟨hw x, ?_⟩
    have hi : i < sel.length := by rw [hlen]; exact (List.getElem?_eq_some_iff.mp hx).1
    have ho : sel[i]? = some sel[i] := List.getElem?_eq_getElem hi
    have hl : ((sel.take i).filterMap id).length < sizeLine := Nat.lt_of_le_of_lt (fm_len sel i) (by omega)
    refine hs i x sel[i] H hx ho s (fun o H4 => match o with
      | some y => ∃ acc, H4 D = some (.lst acc) ∧ acc.length < sizeLine ∧ (Same H1 (upd H4 D (.lst (acc ++ [y]))) ∧ (upd H4 D (.lst (acc ++ [y]))) D = some (.lst ((sel.take (i + 1)).filterMap id)))
      | none => Same H1 H4 ∧ H4 D = some (.lst ((sel.take (i + 1)).filterMap id))) fun H4 s4 => ?_
    generalize sel[i] = o at ho ⊢
    cases o with
    | some y =>
      refine ⟨_, s4 _ _ hD, hl, same_over nD (s.trans s4), ?_⟩
      rw [upd_same, take_fm ho]
      rfl
    | none =>
      refine ⟨s.trans s4, ?_⟩
      rw [take_fm ho, s4 _ _ hD]
      simp
  · rintro H ⟨s, hD⟩
    refine hd H s ?_
    rw [hD, ← hlen, List.take_length]
theorem lc_selR {lo : Int} {n : Nat} {j : Nat} {tt : TT} {te : TE} {vs : List Nat} {σ : L2.St} {H1 : Hp} {D : Addr} {Qd : Hp → Prop} (sel : List (Option V)) (nD : H1 D = none) (hlen : sel.length = n) (hz : n < sizeLine)
    (hw : ∀ x, wipe ((wipe σ vs).set j (some x)) vs = wipe σ vs)
    (hs : ∀ (i : Nat) (o : Option V) (H' : Hp), i < n → sel[i]? = some o → Same H1 H' → ∀ Qt : Option V → Hp → Prop, (∀ H'', Same H' H'' → Qt o H'') →
      tt ((wipe σ vs).set j (some (.int (lo + (i : Int))))) H' fun b H3 => if b = true then te ((wipe σ vs).set j (some (.int (lo + (i : Int))))) H3 fun y H4 => Qt (some y) H4 else Qt none H3)
    (hd : ∀ H', Same H1 H' → H' D = some (.lst (sel.filterMap id)) → Qd H') :
    ∃ W : Nat → Nat → Hp → Prop, (∃ m, W 0 m (upd H1 D (.lst []))) ∧ ∀ i m H, W i m H →
      ((Itr lo n).stop i H ∧ Qd H) ∨ ((Itr lo n).go i H ∧ ∃ Nx : Hp → Prop, (∀ H', Nx H' → ∃ m', m' < m ∧ W (i + 1) m' H') ∧ ∀ x H', (Itr lo n).yld i H x H' → gName j x (wipe σ vs) H' fun σ2 H2 => wipe σ2 vs = wipe σ vs ∧ tt σ2 H2 fun b H3 =>
        if b = true then te σ2 H3 fun y H4 => ∃ acc, H4 D = some (.lst acc) ∧ acc.length < sizeLine ∧ Nx (upd H4 D (.lst (acc ++ [y]))) else Nx H3) := by
  refine lc_range (lo := lo) (n := n) (fun i H => Same H1 H ∧ H D = some (.lst ((sel.take i).filterMap id))) ⟨same_upd nD, upd_same⟩ ?_ ?_
  · rintro i H hi' ⟨s, hD⟩
    refine ⟨hw _, ?_⟩
    have hi : i < sel.length := by rw [hlen]; exact hi'
    have ho : sel[i]? = some sel[i] := List.getElem?_eq_getElem hi
    have hl : ((sel.take i).filterMap id).length < sizeLine := Nat.lt_of_le_of_lt (fm_len sel i) (by omega)
    refine hs i sel[i] H hi' ho s (fun o H4 => match o with
      | some y => ∃ acc, H4 D = some (.lst acc) ∧ acc.length < sizeLine ∧ (Same H1 (upd H4 D (.lst (acc ++ [y]))) ∧ (upd H4 D (.lst (acc ++ [y]))) D = some (.lst ((sel.take (i + 1)).filterMap id)))
      | none => Same H1 H4 ∧ H4 D = some (.lst ((sel.take (i + 1)).filterMap id))) fun H4 s4 => ?_
    generalize sel[i] = o at ho ⊢
    cases o with
    | some y =>
      refine ⟨_, s4 _ _ hD, hl, same_over nD (s.trans s4), ?_⟩
      rw [upd_same, take_fm ho]
      rfl
    | none =>
      refine ⟨s.trans s4, ?_⟩
      rw [take_fm ho, s4 _ _ hD]
      simp
  · rintro H ⟨s, hD⟩
    refine hd H s ?_
    rw [hD, ← hlen, List.take_length]
theorem fm_some {α : Type} (ys : List α) : (ys.map some).filterMap id = ys := by
  rw [List.filterMap_map]
  show List.filterMap (fun y => some y) ys = ys
  exact List.filterMap_some
/-- no test: ys tells what comes of each item -/
theorem lc_mapL {K : PySem.W.Frag} {a : Addr} {xs : List V} {j : Nat} {te : TE} {vs : List Nat} {σ : L2.St} {H1 : Hp} {D : Addr} {Qd : Hp → Prop} (ys : List V) (nD : H1 D = none) (hS : SqL K H1 a xs) (hlen : ys.length = xs.length) (hz : xs.length < sizeLine)
    (hw : ∀ x, wipe ((wipe σ vs).set j (some x)) vs = wipe σ vs)
    (hs : ∀ (i : Nat) (x y : V) (H' : Hp), xs[i]? = some x → ys[i]? = some y → Same H1 H' → ∀ Qt : V → Hp → Prop, (∀ H'', Same H' H'' → Qt y H'') → te ((wipe σ vs).set j (some x)) H' Qt)
    (hd : ∀ H', Same H1 H' → H' D = some (.lst ys) → Qd H') :
    ∃ W : Nat → Nat → Hp → Prop, (∃ m, W 0 m (upd H1 D (.lst []))) ∧ ∀ i m H, W i m H →
      ((Itl K a).stop i H ∧ Qd H) ∨ ((Itl K a).go i H ∧ ∃ Nx : Hp → Prop, (∀ H', Nx H' → ∃ m', m' < m ∧ W (i + 1) m' H') ∧ ∀ x H', (Itl K a).yld i H x H' → gName j x (wipe σ vs) H' fun σ2 H2 => wipe σ2 vs = wipe σ vs ∧ tYes σ2 H2 fun b H3 =>
        if b = true then te σ2 H3 fun y H4 => ∃ acc, H4 D = some (.lst acc) ∧ acc.length < sizeLine ∧ Nx (upd H4 D (.lst (acc ++ [y]))) else Nx H3) := by
  refine lc_selL (K := K) (a := a) (xs := xs) (tt := tYes) (ys.map some) nD hS (by rw [List.length_map]; exact hlen) hz hw ?_ ?_
  · intro i x o H' hx ho s Qt qt
    rw [List.getElem?_map] at ho
    obtain ⟨y, hy, rfl⟩ := Option.map_eq_some_iff.mp ho
    show if true = true then te ((wipe σ vs).set j (some x)) H' (fun y H4 => Qt (some y) H4) else Qt none H'
    exact iteT (hs i x y H' hx hy s (fun y H4 => Qt (some y) H4) qt)
  · intro H' s hD
    rw [fm_some] at hD
    exact hd H' s hD
theorem lc_mapR {lo : Int} {n : Nat} {j : Nat} {te : TE} {vs : List Nat} {σ : L2.St} {H1 : Hp} {D : Addr} {Qd : Hp → Prop} (ys : List V) (nD : H1 D = none) (hlen : ys.length = n) (hz : n < sizeLine)
    (hw : ∀ x, wipe ((wipe σ vs).set j (some x)) vs = wipe σ vs)
    (hs : ∀ (i : Nat) (y : V) (H' : Hp), i < n → ys[i]? = some y → Same H1 H' → ∀ Qt : V → Hp → Prop, (∀ H'', Same H' H'' → Qt y H'') → te ((wipe σ vs).set j (some (.int (lo + (i : Int))))) H' Qt)
    (hd : ∀ H', Same H1 H' → H' D = some (.lst ys) → Qd H') :
    ∃ W : Nat → Nat → Hp → Prop, (∃ m, W 0 m (upd H1 D (.lst []))) ∧ ∀ i m H, W i m H →
      ((Itr lo n).stop i H ∧ Qd H) ∨ ((Itr lo n).go i H ∧ ∃ Nx : Hp → Prop, (∀ H', Nx H' → ∃ m', m' < m ∧ W (i + 1) m' H') ∧ ∀ x H', (Itr lo n).yld i H x H' → gName j x (wipe σ vs) H' fun σ2 H2 => wipe σ2 vs = wipe σ vs ∧ tYes σ2 H2 fun b H3 =>
        if b = true then te σ2 H3 fun y H4 => ∃ acc, H4 D = some (.lst acc) ∧ acc.length < sizeLine ∧ Nx (upd H4 D (.lst (acc ++ [y]))) else Nx H3) := by
  refine lc_selR (lo := lo) (n := n) (tt := tYes) (ys.map some) nD (by rw [List.length_map]; exact hlen) hz hw ?_ ?_
  · intro i o H' hi ho s Qt qt
    rw [List.getElem?_map] at ho
    obtain ⟨y, hy, rfl⟩ := Option.map_eq_some_iff.mp ho
    show if true = true then te ((wipe σ vs).set j (some (.int (lo + (i : Int))))) H' (fun y H4 => Qt (some y) H4) else Qt none H'
    exact iteT (hs i y H' hi hy s (fun y H4 => Qt (some y) H4) qt)
  · intro H' s hD
    rw [fm_some] at hD
    exact hd H' s hD
/-- an item of a list of whole numbers -/
theorem int_at {ns : List Int} {i : Nat} {x : V} (h : (ns.map V.int)[i]? = some x) : ∃ n, ns[i]? = some n ∧ x = .int n := by
  rw [List.getElem?_map] at h
  obtain ⟨n, hn, e⟩ := Option.map_eq_some_iff.mp h
  exact ⟨n, hn, e.symm⟩
/-! ### rules with the written part named (within a comprehension Lean doesn't find it) -/
section
variable {X : Cx}
theorem k_len (K : PySem.W.Frag) (h : X.K = K) : CallR X (.builtin "len") (fun xs H Q => ∃ p ys, xs = [.ref p] ∧ (SqL K H p ys ∨ SqT K H p ys) ∧ Q (.int ys.length) H) := by subst h; exact call_len_seq
theorem k_sum (K : PySem.W.Frag) (h : X.K = K) (hc : X.calm = true) : CallR X (.builtin "sum") (rSum K) := by subst h; exact cr_sum hc
theorem k_max (K : PySem.W.Frag) (h : X.K = K) (hc : X.calm = true) : CallR X (.builtin "max") (rMax K) := by subst h; exact cr_max hc
theorem k_min (K : PySem.W.Frag) (h : X.K = K) (hc : X.calm = true) : CallR X (.builtin "min") (rMin K) := by subst h; exact cr_min hc
theorem k_isi (K : PySem.W.Frag) (h : X.K = K) : CallR X (.builtin "isinstance") (rIsi K) := by subst h; exact call_isi
theorem k_listOf (K : PySem.W.Frag) (h : X.K = K) : CallR X (.type "list") (fun xs H Q => ∃ p ys, xs = [.ref p] ∧ (SqL K H p ys ∨ SqT K H p ys) ∧ ∀ l, H l = none → Q (.ref l) (upd H l (.lst ys))) := by subst h; exact call_list_of
theorem k_tupleOf (K : PySem.W.Frag) (h : X.K = K) : CallR X (.type "tuple") (fun xs H Q => ∃ p ys, xs = [.ref p] ∧ ((SqL K H p ys ∧ ∀ l, H l = none → Q (.ref l) (upd H l (.tup ys))) ∨ (SqT K H p ys ∧ Q (.ref p) H))) := by subst h; exact call_tuple_of
theorem k_ixL (K : PySem.W.Frag) (h : X.K = K) : IxR X (rIxL K) := by subst h; exact ix_list
theorem k_ixT (K : PySem.W.Frag) (h : X.K = K) : IxR X (rIxT K) := by subst h; exact ix_tup
theorem k_slL (K : PySem.W.Frag) (h : X.K = K) : SlR X (rSlL K) := by subst h; exact sl_list
theorem k_slT (K : PySem.W.Frag) (h : X.K = K) : SlR X (rSlT K) := by subst h; exact sl_tup
theorem k_eqD (K : PySem.W.Frag) (h : X.K = K) (hu : X.A.units + 64 < cLine) : OpR X (compareOp .Eq) (rEqD K) := by subst h; exact op_eqD hu
theorem k_neD (K : PySem.W.Frag) (h : X.K = K) (hu : X.A.units + 64 < cLine) : OpR X (compareOp .NotEq) (rNeD K) := by subst h; exact op_neD hu
theorem k_in (K : PySem.W.Frag) (h : X.K = K) : OpR X (compareOp .In) (rIn K false) := by subst h; exact op_in_seq
theorem k_notIn (K : PySem.W.Frag) (h : X.K = K) : OpR X (compareOp .NotIn) (rIn K true) := by subst h; exact op_notIn_seq
theorem k_piL (K : PySem.W.Frag) (h : X.K = K) {tg l : Expr} {tl : TE} (hl : PE X l tl) : PI X tg l (iList K tl) := by subst h; exact pi_list hl
theorem k_piT (K : PySem.W.Frag) (h : X.K = K) {tg l : Expr} {tl : TE} (hl : PE X l tl) : PI X tg l (iTup K tl) := by subst h; exact pi_tup hl
theorem k_piE (K : PySem.W.Frag) (h : X.K = K) {e : Expr} {ta : TA} {p pos tpos : Pos} {elts : List Expr} {kk : Nat} (hg : Gl X "enumerate") (hm : X.mg "enumerate" = none) (ha : PA X [e] ta) (hs : starEach [e] X.env = [(false, eval e X.env)] := by rfl) : PI X (.Tuple elts kk tpos) (.Call (.Name "enumerate" p) [e] [] pos) (iEnum K ta) := by subst h; exact pi_enum hg hm ha hs
theorem k_pgT (K : PySem.W.Frag) (h : X.K = K) {es : List Expr} {k : Nat} {t : TGs} {n : Nat} {pos : Pos} (hc : X.calm = true) (hp : PGs X es t) (hn : (assignEach es X.env).length = n := by rfl) (hst : (assignEach es X.env).findIdx? (·.1) = none := by rfl) : PG X (.Tuple es k pos) (gTup K n t) := by subst h; exact pg_tup hc hp hn hst
theorem k_pgL (K : PySem.W.Frag) (h : X.K = K) {es : List Expr} {k : Nat} {t : TGs} {n : Nat} {pos : Pos} (hc : X.calm = true) (hp : PGs X es t) (hn : (assignEach es X.env).length = n := by rfl) (hst : (assignEach es X.env).findIdx? (·.1) = none := by rfl) : PG X (.Tuple es k pos) (gUnl K n t) := by subst h; exact pg_unl hc hp hn hst
theorem k_fld (K : PySem.W.Frag) (h : X.K = K) {e : Expr} {f : Str} {pos : Pos} {ta : TE} (he : PE X e ta) (hb : attributeBase e f X.env (eval e X.env) = eval e X.env) : PE X (.Attribute e f pos) (tFld K ta f) := by subst h; exact pe_fld he hb
theorem k_index (K : PySem.W.Frag) (h : X.K = K) : MtR X "list.index" (rIndex K) := by subst h; exact mt_index
end
/-! ### small things -/
theorem fresh {H : Hp} {p : Addr} (o : HO) (np : H p = none) : ∃ H', upd H p o = H' ∧ Same H H' ∧ H' p = some o := ⟨_, rfl, same_upd np, upd_same⟩
theorem cut_take (xs : List V) (k : Nat) : cutV xs none (some (k : Int)) = xs.take k := by
  unfold cutV
  rw [HT.sIx_nat, HT.sIx_none, List.drop_zero, Nat.sub_zero]
  rcases Nat.le_total k xs.length with h | h
  · rw [Nat.min_eq_left h]
  · rw [Nat.min_eq_right h, List.take_of_length_le h, List.take_length]
theorem cut_drop (xs : List V) (k : Nat) : cutV xs (some (k : Int)) none = xs.drop k := by
  unfold cutV
  rw [HT.sIx_nat, HT.sIx_none]
  rcases Nat.le_total k xs.length with h | h
  · rw [Nat.min_eq_left h, List.take_of_length_le (by rw [List.length_drop]; exact Nat.le_refl _)]
  · rw [Nat.min_eq_right h, List.drop_length, List.drop_of_length_le h, List.take_nil]
theorem rep_ints (k : Nat) (ks : List Int) : (List.replicate k (ks.map V.int)).flatten = ((List.replicate k ks).flatten).map V.int := by
  rw [List.map_flatten, List.map_replicate]
theorem rep_len {α : Type} (k : Nat) (ks : List α) : ((List.replicate k ks).flatten).length = k * ks.length := by
  induction k with
  | zero => simp
  | succ k ih => rw [List.replicate_succ, List.flatten_cons, List.length_append, ih, Nat.succ_mul]; omega
theorem rep_mem {α : Type} {k : Nat} {ks : List α} {x : α} (h : x ∈ (List.replicate k ks).flatten) : x ∈ ks := by
  obtain ⟨l, hl, hx⟩ := List.mem_flatten.mp h
  rw [(List.mem_replicate.mp hl).2] at hx
  exact hx
/-! ### comprehensions that make new things: R tells what is known of the i-th; D is no part of it -/
def Off (D : Addr) (H H' : Hp) : Prop := ∀ b o, b ≠ D → H b = some o → H' b = some o
def RelPv (R : Nat → V → Hp → Prop) (H1 : Hp) (D : Addr) (i : Nat) (H : Hp) : Prop := ∃ ys : List V, Same H1 H ∧ H D = some (.lst ys) ∧ ys.length = i ∧ ∀ (k : Nat) (y : V), ys[k]? = some y → R k y H
theorem lc_relR {lo : Int} {n : Nat} {j : Nat} {te : TE} {vs : List Nat} {σ : L2.St} {H1 : Hp} {D : Addr} {Qd : Hp → Prop} (R : Nat → V → Hp → Prop) (nD : H1 D = none) (hz : n < sizeLine)
    (mono : ∀ i y H H', Off D H H' → R i y H → R i y H')
    (hw : ∀ x, wipe ((wipe σ vs).set j (some x)) vs = wipe σ vs)
    (hs : ∀ (i : Nat) (H' : Hp) (xs : List V), i < n → Same H1 H' → H' D = some (.lst xs) → ∀ Qt : V → Hp → Prop, (∀ y H'', Same H' H'' → R i y H'' → Qt y H'') → te ((wipe σ vs).set j (some (.int (lo + (i : Int))))) H' Qt)
    (hd : ∀ H' ys, Same H1 H' → H' D = some (.lst ys) → ys.length = n → (∀ (i : Nat) (y : V), ys[i]? = some y → R i y H') → Qd H') :
    ∃ W : Nat → Nat → Hp → Prop, (∃ m, W 0 m (upd H1 D (.lst []))) ∧ ∀ i m H, W i m H →
      ((Itr lo n).stop i H ∧ Qd H) ∨ ((Itr lo n).go i H ∧ ∃ Nx : Hp → Prop, (∀ H', Nx H' → ∃ m', m' < m ∧ W (i + 1) m' H') ∧ ∀ x H', (Itr lo n).yld i H x H' → gName j x (wipe σ vs) H' fun σ2 H2 => wipe σ2 vs = wipe σ vs ∧ tYes σ2 H2 fun b H3 =>
        if b = true then te σ2 H3 fun y H4 => ∃ acc, H4 D = some (.lst acc) ∧ acc.length < sizeLine ∧ Nx (upd H4 D (.lst (acc ++ [y]))) else Nx H3) := by
  refine lc_range (lo := lo) (n := n) (RelPv R H1 D) ⟨[], same_upd nD, upd_same, rfl, fun k y h => by simp at h⟩ ?_ ?_
  · rintro i H hi ⟨ys, s, hD, hl, hR⟩
    refine ⟨hw _, ?_⟩
    show if true = true then te ((wipe σ vs).set j (some (.int (lo + (i : Int))))) H (fun y H4 => ∃ acc, H4 D = some (.lst acc) ∧ acc.length < sizeLine ∧ RelPv R H1 D (i + 1) (upd H4 D (.lst (acc ++ [y])))) else RelPv R H1 D (i + 1) H
    refine iteT (hs i H ys hi s hD _ fun y H4 s4 r4 => ?_)
    refine ⟨ys, s4 _ _ hD, by omega, ys ++ [y], same_over nD (s.trans s4), upd_same, by rw [List.length_append, hl]; rfl, fun k z hz => ?_⟩
    have off : Off D H4 (upd H4 D (.lst (ys ++ [y]))) := fun b o nb h => by rw [upd_ne nb]; exact h
    by_cases hk : k < ys.length
    · rw [List.getElem?_append_left hk] at hz
      exact mono k z H _ (fun b o nb h => off b o nb (s4 b o h)) (hR k z hz)
    · rw [List.getElem?_append_right (by omega)] at hz
      have hk2 : k - ys.length = 0 := by
        have h2 := (List.getElem?_eq_some_iff.mp hz).1
        rw [List.length_singleton] at h2
        omega
      rw [hk2] at hz
      cases hz
      have ek : k = i := by omega
      rw [ek]
      exact mono i y H4 _ off r4
  · rintro H ⟨ys, s, hD, hl, hR⟩
    exact hd H ys s hD hl hR
/-! ### ways that are told by whole numbers -/
theorem iteDT {p A B : Prop} [Decidable p] (hp : p) (h : A) : if decide p = true then A else B := by rw [decide_eq_true hp]; exact iteT h
theorem iteDF {p A B : Prop} [Decidable p] (hp : ¬ p) (h : B) : if decide p = true then A else B := by rw [decide_eq_false hp]; exact iteF h
theorem iteNT {p A B : Prop} [Decidable p] (hp : ¬ p) (h : A) : if (!decide p) = true then A else B := by rw [decide_eq_false hp]; exact iteT h
theorem iteNF {p A B : Prop} [Decidable p] (hp : p) (h : B) : if (!decide p) = true then A else B := by rw [decide_eq_true hp]; exact iteF h
theorem iteET {a b : Int} {A B : Prop} [Decidable (V.int a = V.int b)] (hp : a = b) (h : A) : if decide (V.int a = V.int b) = true then A else B := iteDT (congrArg V.int hp) h
theorem iteEF {a b : Int} {A B : Prop} [Decidable (V.int a = V.int b)] (hp : ¬ a = b) (h : B) : if decide (V.int a = V.int b) = true then A else B := iteDF (fun z => hp (V.int.inj z)) h
theorem iteENT {a b : Int} {A B : Prop} [Decidable (V.int a = V.int b)] (hp : ¬ a = b) (h : A) : if (!decide (V.int a = V.int b)) = true then A else B := iteNT (fun z => hp (V.int.inj z)) h
theorem iteENF {a b : Int} {A B : Prop} [Decidable (V.int a = V.int b)] (hp : a = b) (h : B) : if (!decide (V.int a = V.int b)) = true then A else B := iteNF (congrArg V.int hp) h
theorem iteNtt {A B : Prop} (h : B) : if (!true) = true then A else B := h
theorem iteNff {A B : Prop} (h : A) : if (!false) = true then A else B := h
/-- 1 or 0 of a comparison -/
theorem int_if {p : Prop} [Decidable p] : (if decide p = true then (1 : Int) else 0) = if p then 1 else 0 := by by_cases h : p <;> simp [h]
end Pre

namespace My
open PySem PySem.Spec PyProof.Rows L2 Pre
/-! ### == and != of instances by their class's own __eq__ -/
/-- != of a class with own __eq__, without own __ne__ -/
theorem own_ne {prog : Program} {w : World} {A : Around} {E : Value → Shared → Prop} {s : Shared} {K : PySem.W.Frag} {x C f : Addr} {ox : Obj} {od : Option Obj} {b tb : Value} {Q : Value → Shared → Prop} (room : A.units + 1 < cLine) (kin : K.In s.heap)
    (inst : PySem.W.InstAt s.heap x ox C od) (tyb : PySem.W.Looks (model prog w) s.heap (typeOf b) tb) (nf : PySem.W.notFirst K C tb = true) (hne : PySem.W.findIn K (.ref C) "__ne__" = some (some (.builtin "object.__ne__")))
    (heq : PySem.W.findIn K (.ref C) "__eq__" = some (some (.ref f))) (isf : PySem.W.isFn K (.ref f) = true) (hob : PySem.W.subIn K (.ref C) (.type "object") = some true)
    (h : wpAny (model prog w) A.in1 (call (.ref f) [.ref x, b]) (fun v s' => ∃ r, v = .bool r ∧ Q (.bool (!r)) s') E s) : wpAny (model prog w) A (richCompare .NotEq (.ref x) b) Q E s := by
  have body : wpAny (model prog w) A.in1 (Builtin.«object.__ne__» ⟨[.ref x, b], []⟩) (fun fin s' => ∃ r, fin = .done (.ret (.bool r)) ∧ Q (.bool r) s') E s := by
    unfold Builtin.«object.__ne__»
    refine wpAny_bind (wpAny_of_eq (a := ((Value.ref x : Value), [b])) (by first | rfl | (simp only [slotArgs]; rfl)) ?_)
    refine wpAny_bind (wpAny_cRoomFor (show A.in1.units < cLine from room) ?_)
    refine wpAny_bind (PySem.W.ifBound_K kin inst heq isf (wpAny_mono h (fun v s' hv => ?_) fun _ _ e => e))
    obtain ⟨r, rfl, q⟩ := hv
    refine wpAny_bind (wpAny_truthy_bool ?_)
    exact wpAny_pure ⟨!r, rfl, q⟩
  have one : wpAny (model prog w) A (tryCompare (.ref x) "__ne__" b) (fun o s' => ∃ v, o = some v ∧ Q v s') E s := by
    have called : wpAny (model prog w) A (call (.builtin "object.__ne__") ([.ref x] ++ [b]) >>= fun v => pure (some v)) (fun o s' => ∃ v r, o = some v ∧ v = .bool r ∧ Q v s') E s := by
      refine wpAny_bind (wpAny_call (codeAny_call_builtin PySem.F.cmp_object.ne.plain PySem.F.cmpEntry_ne (PySem.W.check_slot PySem.F.cmpKind_ne PySem.F.cmpSplit_ne (inst.type.andThen (PySem.W.looks_subIn kin hob)) (PySem.F.cmpArgs_ne _ _) ?_)))
      refine wpAny_mono body (fun fin s' hf => ?_) fun _ _ e => e
      obtain ⟨r, rfl, q⟩ := hf
      exact wpAny_pure ⟨_, r, rfl, rfl, q⟩
    have inner : wpAny (model prog w) A (callSpecialIfBound? (.ref x) "__ne__" [b]) (fun o s' => ∃ v r, o = some v ∧ v = .bool r ∧ Q v s') E s := by
      simp only [callSpecialIfBound?, bindSpecialIfBound?]
      refine wpAny_holding (wpAny_bind (wpAny_bind (wpAny_bind (inst.type.here ((PySem.W.looks_findIn kin hne).here ?_)))))
      refine wpAny_bind (wpAny_askSetting (wpAny_ite ?_))
      rw [PySem.F.cmp_object.ne.bind]
      split
      · exact wpAny_bind (wpAny_pure (wpAny_pure called))
      · exact wpAny_tryCatch (wpAny_bind (wpAny_pure (wpAny_pure called)))
    unfold tryCompare
    refine wpAny_bind (wpAny_mono inner (fun o s' ho => ?_) fun _ _ e => e)
    obtain ⟨v, r, rfl, rfl, q⟩ := ho
    exact wpAny_pure ⟨_, rfl, q⟩
  unfold richCompare
  simp only [oneThing_ref]
  refine wpAny_holding (wpAny_bind (wpAny_cRoomFor (by omega) ?_))
  refine wpAny_bind (inst.type.here (wpAny_bind (tyb.here ?_)))
  have last : wpAny (model prog w) A (tryCompare (.ref x) "__ne__" b) (fun o s' => ∃ v, o = some v ∧ Q v s') E s := one
  split
  · rename_i q
    have e : PySem.W.subIn K tb (.ref C) = some false := by
      rcases Bool.or_eq_true_iff.mp nf with e | e
      · rw [beq_iff_eq.mp e] at q; simp at q
      · exact beq_iff_eq.mp e
    refine wpAny_bind ((PySem.W.looks_subIn kin e).here ?_)
    simp only [Bool.false_eq_true, if_false]
    refine wpAny_bind (wpAny_mono last (fun o s' z => ?_) fun _ _ e => e)
    obtain ⟨v, rfl, hq⟩ := z
    exact wpAny_pure hq
  · refine wpAny_bind (wpAny_pure ?_)
    simp only [Bool.false_eq_true, if_false]
    refine wpAny_bind (wpAny_mono last (fun o s' z => ?_) fun _ _ e => e)
    obtain ⟨v, rfl, hq⟩ := z
    exact wpAny_pure hq
/-- what is asked of a class with own __eq__ -/
structure EqC (K : PySem.W.Frag) (C f : Addr) : Prop where
  eq : PySem.W.findIn K (.ref C) "__eq__" = some (some (.ref f))
  fn : PySem.W.isFn K (.ref f) = true
  ne : PySem.W.findIn K (.ref C) "__ne__" = some (some (.builtin "object.__ne__"))
  ob : PySem.W.subIn K (.ref C) (.type "object") = some true
  li : PySem.W.subIn K (.type "list") (.ref C) = some false
  ki : PySem.W.kitOne K (.type "list") (.ref C) = some false
  tu : PySem.W.subIn K (.type "tuple") (.ref C) = some false
  kt : PySem.W.kitOne K (.type "tuple") (.ref C) = some false
/-- what stands right of ==: an instance of the same class, a list or a tuple -/
def Rhs (K : PySem.W.Frag) (H : Hp) (C : Addr) (y : V) : Prop := ∃ b, y = .ref b ∧ ((∃ dy gs, H b = some (.ins C dy gs)) ∨ (∃ xs, SqL K H b xs) ∨ ∃ xs, SqT K H b xs)
section
variable {X : Cx} {CX : CXT} {k : Nat} {f C : Addr} {fd : FuncData} {ps : List Str} {sp : Sp} {E : XK}
theorem rhs_ty {pins : List (Addr × Obj)} {σ : L2.St} {H : Hp} {s : Shared} {y : V} {u : Value} (I : Inv X pins σ H s) (c : EqC X.K C f) (h : Rhs X.K H C y) (r : RelV y u) : ∃ tb, PySem.W.Looks (model X.prog X.w) s.heap (typeOf u) tb ∧ PySem.W.notFirst X.K C tb = true := by
  obtain ⟨b, rfl, h⟩ := h
  cases r
  rcases h with ⟨dy, gs, hb⟩ | ⟨xs, hb⟩ | ⟨xs, hb⟩
  · obtain ⟨mB, J, _⟩ := ins_get I.hok hb
    obtain ⟨od, J, _⟩ := J.look
    exact ⟨_, J.type, by simp [PySem.W.notFirst]⟩
  · obtain ⟨us, _, ⟨o, n, ho, hc, _⟩, _⟩ := I.list hb
    refine ⟨.type "list", fun A Q E s' k q => wpAny_typeOf_ref (k _ _ ho) (by rw [hc]; exact q), ?_⟩
    simp only [PySem.W.notFirst, c.li]
    simp
  · obtain ⟨us, _, ⟨o, ho, hc, _⟩, _⟩ := I.tuple hb
    refine ⟨.type "tuple", fun A Q E s' k q => wpAny_typeOf_ref (k _ _ ho) (by rw [hc]; exact q), ?_⟩
    simp only [PySem.W.notFirst, c.tu]
    simp
theorem run_eq {A : Around} {pins : List (Addr × Obj)} {σ : L2.St} {H : Hp} {s : Shared} {Q : VK} {x y : V} {a : Addr} {u : Value} (F : FnOk X.prog X.w X.K X.mg X.base CX k f fd ps sp) (hr : Room k A) (fr : A.frames = X.A.frames) (hb : Binds X.K fd ps [])
    (hx : Passes CX X E) (I : Inv X pins σ H s) (ry : RelV y u) (h : sp [.ref a, y] H Q E) : wpAny (model X.prog X.w) A (call (.ref f) [.ref a, u]) (EP X pins σ Q) X.xe s := by
  have rr : Vals [V.ref a, y] [Value.ref a, u] := .cons rfl (.cons ry .nil)
  have e := I.env0
  have e0 : Env0 X.prog X.w X.K X.mg X.base A X.stack s H := ⟨by rw [fr]; exact e.frames, e.mod, e.bs, e.bsz, e.funs, e.frf, e.hok, e.bare⟩
  have bn := hb s [.ref a, u] I.kIn (by have := F.len _ _ _ _ h; simpa using this)
  rw [List.append_nil] at bn
  refine wpAny_call (codeAny_mono (F.run A X.stack s H ⟨[.ref a, u], []⟩ [.ref a, u] [.ref a, y] Q E hr e0 bn rr h) fun z s2 hz => ?_)
  match z, hz with
  | .error e, hz => exact hx pins σ H s e s2 I hz
  | .ok (.ret v), hz => exact I.after hz
def rOwn (K : PySem.W.Frag) (C : Addr) (sp : Sp) (E : XK) (no : Bool) : R2 := fun x y H Q => ∃ (a dx : Addr) (fs : List (Str × V)), x = .ref a ∧ H a = some (.ins C dx fs) ∧ Rhs K H C y ∧ sp [x, y] H (fun v H' => ∃ b, v = .bl b ∧ Q (.bl (b != no)) H') E
theorem op_own_eq (c : EqC X.K C f) (F : FnOk X.prog X.w X.K X.mg X.base CX k f fd ps sp) (hr : Room (k + 1) X.A) (hb : Binds X.K fd ps []) (hx : Passes CX X E) : OpR X (compareOp .Eq) (rOwn X.K C sp E false) := by
  intro pins s σ H x y v u Q I rx ry h
  obtain ⟨a, dx, fs, rfl, ha, hy, h⟩ := h
  cases rx
  obtain ⟨tb, lb, nf⟩ := rhs_ty I c hy ry
  obtain ⟨mA, J, _⟩ := ins_get I.hok ha
  obtain ⟨od, J, _⟩ := J.look
  obtain ⟨m, hF⟩ := I.fr
  refine PySem.W.cmp_K (op := .Eq) hr.units0 hF I.ok.mod.kin J lb nf c.eq c.fn (wpAny_mono (run_eq (x := .ref a) F (hr.mono (by omega)) rfl hb hx I ry h) (fun v s2 hv => ?_) fun _ _ z => z)
  obtain ⟨z, H2, I2, r2, b, rfl, q⟩ := hv
  cases r2
  refine ⟨.bl b, H2, I2, rfl, ?_⟩
  have e : (b != false) = b := by cases b <;> rfl
  rw [e] at q
  exact q
theorem op_own_ne (c : EqC X.K C f) (F : FnOk X.prog X.w X.K X.mg X.base CX k f fd ps sp) (hr : Room (k + 1) X.A) (hb : Binds X.K fd ps []) (hx : Passes CX X E) : OpR X (compareOp .NotEq) (rOwn X.K C sp E true) := by
  intro pins s σ H x y v u Q I rx ry h
  obtain ⟨a, dx, fs, rfl, ha, hy, h⟩ := h
  cases rx
  obtain ⟨tb, lb, nf⟩ := rhs_ty I c hy ry
  obtain ⟨mA, J, _⟩ := ins_get I.hok ha
  obtain ⟨od, J, _⟩ := J.look
  refine own_ne (by have := hr.units; omega) I.kIn J lb nf c.ne c.eq c.fn c.ob (wpAny_mono (run_eq (x := .ref a) F hr.in1 rfl hb hx I ry h) (fun v s2 hv => ?_) fun _ _ z => z)
  obtain ⟨z, H2, I2, r2, b, rfl, q⟩ := hv
  cases r2
  refine ⟨b, rfl, .bl (!b), H2, I2, rfl, ?_⟩
  have e : (b != true) = !b := by cases b <;> rfl
  rw [e] at q
  exact q
end
end My

namespace My
open PySem PySem.Spec PyProof.Rows L2
theorem nil_binds {K : PySem.W.Frag} {fd : FuncData} {ps : List Str} (h : ∃ ds, Vals [] ds ∧ Binds K fd ps ds) : Binds K fd ps [] := by
  obtain ⟨ds, v, b⟩ := h
  cases v
  exact b
def top (i : Nat) : Stmt := PySem.Challenge.pw_wholesound_k38_whole_fewest_lifts.main.body.getD i (.Pass ⟨0, 0, 0, 0⟩)
abbrev s_is_whole : Stmt := top 8
abbrev N_is_whole : List Str := ["value"]
theorem sc_is_whole : FnScope N_is_whole ["value"] (defScope s_is_whole) := ⟨rfl, rfl, rfl, by decide +kernel, rfl, by decide +kernel, by decide +kernel⟩
abbrev s_is_between : Stmt := top 9
abbrev N_is_between : List Str := ["value", "low", "high"]
theorem sc_is_between : FnScope N_is_between ["value", "low", "high"] (defScope s_is_between) := ⟨rfl, rfl, rfl, by decide +kernel, rfl, by decide +kernel, by decide +kernel⟩
abbrev s_are_wholes : Stmt := top 10
abbrev N_are_wholes : List Str := ["value", "item"]
theorem sc_are_wholes : FnScope N_are_wholes ["value"] (defScope s_are_wholes) := ⟨rfl, rfl, rfl, by decide +kernel, rfl, by decide +kernel, by decide +kernel⟩
abbrev s_common_divisor : Stmt := top 11
abbrev N_common_divisor : List Str := ["one", "other"]
theorem sc_common_divisor : FnScope N_common_divisor ["one", "other"] (defScope s_common_divisor) := ⟨rfl, rfl, rfl, by decide +kernel, rfl, by decide +kernel, by decide +kernel⟩
abbrev s_fraction : Stmt := top 12
abbrev N_fraction : List Str := ["top", "under", "common"]
theorem sc_fraction : FnScope N_fraction ["top", "under"] (defScope s_fraction) := ⟨rfl, rfl, rfl, by decide +kernel, rfl, by decide +kernel, by decide +kernel⟩
abbrev s_check_number : Stmt := top 13
abbrev N_check_number : List Str := ["number", "low", "high"]
theorem sc_check_number : FnScope N_check_number ["number", "low", "high"] (defScope s_check_number) := ⟨rfl, rfl, rfl, by decide +kernel, rfl, by decide +kernel, by decide +kernel⟩
abbrev s_is_lift : Stmt := top 16
abbrev N_is_lift : List Str := ["value", "wide"]
theorem sc_is_lift : FnScope N_is_lift ["value", "wide"] (defScope s_is_lift) := ⟨rfl, rfl, rfl, by decide +kernel, rfl, by decide +kernel, by decide +kernel⟩
abbrev s_is_step : Stmt := top 17
abbrev N_is_step : List Str := ["value", "wide", "at"]
theorem sc_is_step : FnScope N_is_step ["value", "wide"] (defScope s_is_step) := ⟨rfl, rfl, rfl, by decide +kernel, rfl, by decide +kernel, by decide +kernel⟩
abbrev s_closed : Stmt := top 18
abbrev N_closed : List Str := ["step"]
theorem sc_closed : FnScope N_closed ["step"] (defScope s_closed) := ⟨rfl, rfl, rfl, by decide +kernel, rfl, by decide +kernel, by decide +kernel⟩
abbrev s_opened : Stmt := top 19
abbrev N_opened : List Str := ["row"]
theorem sc_opened : FnScope N_opened ["row"] (defScope s_opened) := ⟨rfl, rfl, rfl, by decide +kernel, rfl, by decide +kernel, by decide +kernel⟩
abbrev s_check_mixer : Stmt := top 21
abbrev N_check_mixer : List Str := ["mixer"]
theorem sc_check_mixer : FnScope N_check_mixer ["mixer"] (defScope s_check_mixer) := ⟨rfl, rfl, rfl, by decide +kernel, rfl, by decide +kernel, by decide +kernel⟩
abbrev s_summed : Stmt := top 22
abbrev N_summed : List Str := ["weights", "numbers", "weight", "number"]
theorem sc_summed : FnScope N_summed ["weights", "numbers"] (defScope s_summed) := ⟨rfl, rfl, rfl, by decide +kernel, rfl, by decide +kernel, by decide +kernel⟩
abbrev s_shifts_of : Stmt := top 23
abbrev N_shifts_of : List Str := ["rows", "row"]
theorem sc_shifts_of : FnScope N_shifts_of ["rows"] (defScope s_shifts_of) := ⟨rfl, rfl, rfl, by decide +kernel, rfl, by decide +kernel, by decide +kernel⟩
abbrev s_numbers_of : Stmt := top 24
abbrev N_numbers_of : List Str := ["rows", "wide", "found", "row", "one", "more", "other", "at", "line", "number"]
theorem sc_numbers_of : FnScope N_numbers_of ["rows", "wide"] (defScope s_numbers_of) := ⟨rfl, rfl, rfl, by decide +kernel, rfl, by decide +kernel, by decide +kernel⟩
abbrev s_matrix : Stmt := top 25
abbrev N_matrix : List Str := ["mixer", "under", "line", "number"]
theorem sc_matrix : FnScope N_matrix ["mixer"] (defScope s_matrix) := ⟨rfl, rfl, rfl, by decide +kernel, rfl, by decide +kernel, by decide +kernel⟩
abbrev s_is_turning : Stmt := top 27
abbrev N_is_turning : List Str := ["value", "line"]
theorem sc_is_turning : FnScope N_is_turning ["value"] (defScope s_is_turning) := ⟨rfl, rfl, rfl, by decide +kernel, rfl, by decide +kernel, by decide +kernel⟩
abbrev s_check_matrix : Stmt := top 28
abbrev N_check_matrix : List Str := ["numbers"]
theorem sc_check_matrix : FnScope N_check_matrix ["numbers"] (defScope s_check_matrix) := ⟨rfl, rfl, rfl, by decide +kernel, rfl, by decide +kernel, by decide +kernel⟩
abbrev s_crossed : Stmt := top 29
abbrev N_crossed : List Str := ["one", "other"]
theorem sc_crossed : FnScope N_crossed ["one", "other"] (defScope s_crossed) := ⟨rfl, rfl, rfl, by decide +kernel, rfl, by decide +kernel, by decide +kernel⟩
abbrev s_placed : Stmt := top 30
abbrev N_placed : List Str := ["row"]
theorem sc_placed : FnScope N_placed ["row"] (defScope s_placed) := ⟨rfl, rfl, rfl, by decide +kernel, rfl, by decide +kernel, by decide +kernel⟩
abbrev s_way_to : Stmt := top 31
abbrev N_way_to : List Str := ["place", "found", "ahead", "top", "under", "near", "last"]
theorem sc_way_to : FnScope N_way_to ["place"] (defScope s_way_to) := ⟨rfl, rfl, rfl, by decide +kernel, rfl, by decide +kernel, by decide +kernel⟩
abbrev s_least_way : Stmt := top 32
abbrev N_least_way : List Str := ["numbers", "ends", "ways", "end", "short", "line", "way", "top", "under"]
theorem sc_least_way : FnScope N_least_way ["numbers"] (defScope s_least_way) := ⟨rfl, rfl, rfl, by decide +kernel, rfl, by decide +kernel, by decide +kernel⟩
abbrev s_fewest_lifts : Stmt := top 33
abbrev N_fewest_lifts : List Str := ["numbers"]
theorem sc_fewest_lifts : FnScope N_fewest_lifts ["numbers"] (defScope s_fewest_lifts) := ⟨rfl, rfl, rfl, by decide +kernel, rfl, by decide +kernel, by decide +kernel⟩
abbrev s_lift_to : Stmt := top 34
abbrev N_lift_to : List Str := ["kept", "gone", "goal", "side", "sign"]
theorem sc_lift_to : FnScope N_lift_to ["kept", "gone", "goal"] (defScope s_lift_to) := ⟨rfl, rfl, rfl, by decide +kernel, rfl, by decide +kernel, by decide +kernel⟩
abbrev s_lifts_for : Stmt := top 35
abbrev N_lifts_for : List Str := ["numbers", "way", "goals", "lines", "steps", "many", "place", "here", "goal", "sign", "weight", "line", "at"]
theorem sc_lifts_for : FnScope N_lifts_for ["numbers"] (defScope s_lifts_for) := ⟨rfl, rfl, rfl, by decide +kernel, rfl, by decide +kernel, by decide +kernel⟩
abbrev s_law_purse : Stmt := top 37
abbrev N_law_purse : List Str := ["_law_script", "_law_at", "_law_cell"]
theorem sc_law_purse : FnScope N_law_purse ["_law_script", "_law_at"] (defScope s_law_purse) := ⟨rfl, rfl, rfl, by decide +kernel, rfl, by decide +kernel, by decide +kernel⟩
abbrev s_law_draw : Stmt := top 38
abbrev N_law_draw : List Str := ["_law_purse_here", "_law_many", "_law_number", "_law_digit"]
theorem sc_law_draw : FnScope N_law_draw ["_law_purse_here", "_law_many"] (defScope s_law_draw) := ⟨rfl, rfl, rfl, by decide +kernel, rfl, by decide +kernel, by decide +kernel⟩
abbrev s_law_one_of : Stmt := top 39
abbrev N_law_one_of : List Str := ["_law_purse_here", "_law_some"]
theorem sc_law_one_of : FnScope N_law_one_of ["_law_purse_here", "_law_some"] (defScope s_law_one_of) := ⟨rfl, rfl, rfl, by decide +kernel, rfl, by decide +kernel, by decide +kernel⟩
abbrev s_law_stepped : Stmt := top 40
abbrev N_law_stepped : List Str := ["_law_step", "_law_row", "_law_way", "_law_found", "_law_total", "_law_at"]
theorem sc_law_stepped : FnScope N_law_stepped ["_law_step", "_law_row", "_law_way"] (defScope s_law_stepped) := ⟨rfl, rfl, rfl, by decide +kernel, rfl, by decide +kernel, by decide +kernel⟩
abbrev s_law_played : Stmt := top 41
abbrev N_law_played : List Str := ["_law_steps", "_law_row", "_law_found", "_law_step"]
theorem sc_law_played : FnScope N_law_played ["_law_steps", "_law_row"] (defScope s_law_played) := ⟨rfl, rfl, rfl, by decide +kernel, rfl, by decide +kernel, by decide +kernel⟩
abbrev s_law_whole : Stmt := top 42
abbrev N_law_whole : List Str := ["_law_value"]
theorem sc_law_whole : FnScope N_law_whole ["_law_value"] (defScope s_law_whole) := ⟨rfl, rfl, rfl, by decide +kernel, rfl, by decide +kernel, by decide +kernel⟩
abbrev s_law_lifts_of : Stmt := top 43
abbrev N_law_lifts_of : List Str := ["_law_steps", "_law_at"]
theorem sc_law_lifts_of : FnScope N_law_lifts_of ["_law_steps"] (defScope s_law_lifts_of) := ⟨rfl, rfl, rfl, by decide +kernel, rfl, by decide +kernel, by decide +kernel⟩
abbrev s_law_table : Stmt := top 44
abbrev N_law_table : List Str := ["_law_most", "_law_found", "_law_under", "_law_line", "_law_rest"]
theorem sc_law_table : FnScope N_law_table ["_law_most"] (defScope s_law_table) := ⟨rfl, rfl, rfl, by decide +kernel, rfl, by decide +kernel, by decide +kernel⟩
abbrev s_law_far : Stmt := top 45
abbrev N_law_far : List Str := ["_law_table_here", "_law_over", "_law_under"]
theorem sc_law_far : FnScope N_law_far ["_law_table_here", "_law_over", "_law_under"] (defScope s_law_far) := ⟨rfl, rfl, rfl, by decide +kernel, rfl, by decide +kernel, by decide +kernel⟩
abbrev s_law_due : Stmt := top 46
abbrev N_law_due : List Str := ["_law_table_here", "_law_rows", "_law_places", "_law_down", "_law_row"]
theorem sc_law_due : FnScope N_law_due ["_law_table_here", "_law_rows"] (defScope s_law_due) := ⟨rfl, rfl, rfl, by decide +kernel, rfl, by decide +kernel, by decide +kernel⟩
abbrev s_law_lifted : Stmt := top 47
abbrev N_law_lifted : List Str := ["_law_rows", "_law_to", "_law_weight", "_law_found", "_law_row", "_law_k"]
theorem sc_law_lifted : FnScope N_law_lifted ["_law_rows", "_law_to", "_law_weight"] (defScope s_law_lifted) := ⟨rfl, rfl, rfl, by decide +kernel, rfl, by decide +kernel, by decide +kernel⟩
abbrev s_law_drawn : Stmt := top 48
abbrev N_law_drawn : List Str := ["_law_purse_here", "_law_rows", "_law_turn", "_law_later", "_law_row", "_law_number"]
theorem sc_law_drawn : FnScope N_law_drawn ["_law_purse_here"] (defScope s_law_drawn) := ⟨rfl, rfl, rfl, by decide +kernel, rfl, by decide +kernel, by decide +kernel⟩
abbrev s_law_bent : Stmt := top 49
abbrev N_law_bent : List Str := ["_law_purse_here", "_law_rows", "_law_signs", "_law_found", "_law_row", "_law_at", "_law_number"]
theorem sc_law_bent : FnScope N_law_bent ["_law_purse_here", "_law_rows"] (defScope s_law_bent) := ⟨rfl, rfl, rfl, by decide +kernel, rfl, by decide +kernel, by decide +kernel⟩
abbrev s_law_steep : Stmt := top 50
abbrev N_law_steep : List Str := ["_law_purse_here", "_law_turn", "_law_many", "_law_to", "_law_rows"]
theorem sc_law_steep : FnScope N_law_steep ["_law_purse_here"] (defScope s_law_steep) := ⟨rfl, rfl, rfl, by decide +kernel, rfl, by decide +kernel, by decide +kernel⟩
abbrev s_law_kin : Stmt := top 51
abbrev N_law_kin : List Str := ["_law_rows", "_law_side", "_law_found", "_law_a", "_law_b", "_law_c", "_law_d"]
theorem sc_law_kin : FnScope N_law_kin ["_law_rows"] (defScope s_law_kin) := ⟨rfl, rfl, rfl, by decide +kernel, rfl, by decide +kernel, by decide +kernel⟩
abbrev s_law_right : Stmt := top 52
abbrev N_law_right : List Str := ["_law_rows", "_law_due_here", "_law_handed", "_law_steps", "_law_lifts", "_law_ends", "_law_told", "_law_mixer", "_law_row", "_law_at", "_law_unit", "_law_some", "_law_step", "_law_k", "_law_number"]
theorem sc_law_right : FnScope N_law_right ["_law_rows", "_law_due_here"] (defScope s_law_right) := ⟨rfl, rfl, rfl, by decide +kernel, rfl, by decide +kernel, by decide +kernel⟩
abbrev s_law : Stmt := top 53
abbrev N_law : List Str := ["_law_script", "_law_table_here", "_law_at", "_law_known", "_law_purse_here", "_law_rows", "_law_many"]
theorem sc_law : FnScope N_law ["_law_script"] (defScope s_law) := ⟨rfl, rfl, rfl, by decide +kernel, rfl, by decide +kernel, by decide +kernel⟩
abbrev s_Mixer___init__ : Stmt := inClass (top 20) 0
abbrev N_Mixer___init__ : List Str := ["self", "wide", "steps", "item"]
theorem sc_Mixer___init__ : FnScope N_Mixer___init__ ["self", "wide", "steps"] (defScope s_Mixer___init__) := ⟨rfl, rfl, rfl, by decide +kernel, rfl, by decide +kernel, by decide +kernel⟩
abbrev s_Mixer_wide : Stmt := inClass (top 20) 1
abbrev N_Mixer_wide : List Str := ["self"]
theorem sc_Mixer_wide : FnScope N_Mixer_wide ["self"] (defScope s_Mixer_wide) := ⟨rfl, rfl, rfl, by decide +kernel, rfl, by decide +kernel, by decide +kernel⟩
abbrev s_Mixer_steps : Stmt := inClass (top 20) 2
abbrev N_Mixer_steps : List Str := ["self", "row"]
theorem sc_Mixer_steps : FnScope N_Mixer_steps ["self"] (defScope s_Mixer_steps) := ⟨rfl, rfl, rfl, by decide +kernel, rfl, by decide +kernel, by decide +kernel⟩
abbrev s_Mixer___eq__ : Stmt := inClass (top 20) 3
abbrev N_Mixer___eq__ : List Str := ["self", "other"]
theorem sc_Mixer___eq__ : FnScope N_Mixer___eq__ ["self", "other"] (defScope s_Mixer___eq__) := ⟨rfl, rfl, rfl, by decide +kernel, rfl, by decide +kernel, by decide +kernel⟩
/-- what the top has left -/
structure Top (K : PySem.W.Frag) (mg : Str → Option Value) where
  C_Mixer : Addr
  gc_Mixer : mg "Mixer" = some (.ref C_Mixer)
  cl_Mixer : Cls K C_Mixer
  ic_Mixer : C8.InsC K C_Mixer
  f_Mixer___eq__ : Addr
  ec_Mixer : EqC K C_Mixer f_Mixer___eq__
  na_Mixer_many : NoAttr K C_Mixer "many"
  na_Mixer_rows : NoAttr K C_Mixer "rows"
  f_is_whole : Addr
  fd_is_whole : FuncData
  F_is_whole : FunD K "is_whole" "is_whole" (defArgs s_is_whole) (defBody s_is_whole) (defScope s_is_whole) [] [] f_is_whole fd_is_whole
  b_is_whole : Binds K fd_is_whole ["value"] []
  g_is_whole : mg "is_whole" = some (.ref f_is_whole)
  f_is_between : Addr
  fd_is_between : FuncData
  F_is_between : FunD K "is_between" "is_between" (defArgs s_is_between) (defBody s_is_between) (defScope s_is_between) [] [] f_is_between fd_is_between
  b_is_between : Binds K fd_is_between ["value", "low", "high"] []
  g_is_between : mg "is_between" = some (.ref f_is_between)
  f_are_wholes : Addr
  fd_are_wholes : FuncData
  F_are_wholes : FunD K "are_wholes" "are_wholes" (defArgs s_are_wholes) (defBody s_are_wholes) (defScope s_are_wholes) [] [] f_are_wholes fd_are_wholes
  b_are_wholes : Binds K fd_are_wholes ["value"] []
  g_are_wholes : mg "are_wholes" = some (.ref f_are_wholes)
  f_common_divisor : Addr
  fd_common_divisor : FuncData
  F_common_divisor : FunD K "common_divisor" "common_divisor" (defArgs s_common_divisor) (defBody s_common_divisor) (defScope s_common_divisor) [] [] f_common_divisor fd_common_divisor
  b_common_divisor : Binds K fd_common_divisor ["one", "other"] []
  g_common_divisor : mg "common_divisor" = some (.ref f_common_divisor)
  f_fraction : Addr
  fd_fraction : FuncData
  F_fraction : FunD K "fraction" "fraction" (defArgs s_fraction) (defBody s_fraction) (defScope s_fraction) [] [] f_fraction fd_fraction
  b_fraction : Binds K fd_fraction ["top", "under"] []
  g_fraction : mg "fraction" = some (.ref f_fraction)
  f_check_number : Addr
  fd_check_number : FuncData
  F_check_number : FunD K "check_number" "check_number" (defArgs s_check_number) (defBody s_check_number) (defScope s_check_number) [] [] f_check_number fd_check_number
  b_check_number : Binds K fd_check_number ["number", "low", "high"] []
  g_check_number : mg "check_number" = some (.ref f_check_number)
  f_is_lift : Addr
  fd_is_lift : FuncData
  F_is_lift : FunD K "is_lift" "is_lift" (defArgs s_is_lift) (defBody s_is_lift) (defScope s_is_lift) [] [] f_is_lift fd_is_lift
  b_is_lift : Binds K fd_is_lift ["value", "wide"] []
  g_is_lift : mg "is_lift" = some (.ref f_is_lift)
  f_is_step : Addr
  fd_is_step : FuncData
  F_is_step : FunD K "is_step" "is_step" (defArgs s_is_step) (defBody s_is_step) (defScope s_is_step) [] [] f_is_step fd_is_step
  b_is_step : Binds K fd_is_step ["value", "wide"] []
  g_is_step : mg "is_step" = some (.ref f_is_step)
  f_closed : Addr
  fd_closed : FuncData
  F_closed : FunD K "closed" "closed" (defArgs s_closed) (defBody s_closed) (defScope s_closed) [] [] f_closed fd_closed
  b_closed : Binds K fd_closed ["step"] []
  g_closed : mg "closed" = some (.ref f_closed)
  f_opened : Addr
  fd_opened : FuncData
  F_opened : FunD K "opened" "opened" (defArgs s_opened) (defBody s_opened) (defScope s_opened) [] [] f_opened fd_opened
  b_opened : Binds K fd_opened ["row"] []
  g_opened : mg "opened" = some (.ref f_opened)
  f_check_mixer : Addr
  fd_check_mixer : FuncData
  F_check_mixer : FunD K "check_mixer" "check_mixer" (defArgs s_check_mixer) (defBody s_check_mixer) (defScope s_check_mixer) [] [] f_check_mixer fd_check_mixer
  b_check_mixer : Binds K fd_check_mixer ["mixer"] []
  g_check_mixer : mg "check_mixer" = some (.ref f_check_mixer)
  f_summed : Addr
  fd_summed : FuncData
  F_summed : FunD K "summed" "summed" (defArgs s_summed) (defBody s_summed) (defScope s_summed) [] [] f_summed fd_summed
  b_summed : Binds K fd_summed ["weights", "numbers"] []
  g_summed : mg "summed" = some (.ref f_summed)
  f_shifts_of : Addr
  fd_shifts_of : FuncData
  F_shifts_of : FunD K "shifts_of" "shifts_of" (defArgs s_shifts_of) (defBody s_shifts_of) (defScope s_shifts_of) [] [] f_shifts_of fd_shifts_of
  b_shifts_of : Binds K fd_shifts_of ["rows"] []
  g_shifts_of : mg "shifts_of" = some (.ref f_shifts_of)
  f_numbers_of : Addr
  fd_numbers_of : FuncData
  F_numbers_of : FunD K "numbers_of" "numbers_of" (defArgs s_numbers_of) (defBody s_numbers_of) (defScope s_numbers_of) [] [] f_numbers_of fd_numbers_of
  b_numbers_of : Binds K fd_numbers_of ["rows", "wide"] []
  g_numbers_of : mg "numbers_of" = some (.ref f_numbers_of)
  f_matrix : Addr
  fd_matrix : FuncData
  F_matrix : FunD K "matrix" "matrix" (defArgs s_matrix) (defBody s_matrix) (defScope s_matrix) [] [] f_matrix fd_matrix
  b_matrix : Binds K fd_matrix ["mixer"] []
  g_matrix : mg "matrix" = some (.ref f_matrix)
  f_is_turning : Addr
  fd_is_turning : FuncData
  F_is_turning : FunD K "is_turning" "is_turning" (defArgs s_is_turning) (defBody s_is_turning) (defScope s_is_turning) [] [] f_is_turning fd_is_turning
  b_is_turning : Binds K fd_is_turning ["value"] []
  g_is_turning : mg "is_turning" = some (.ref f_is_turning)
  f_check_matrix : Addr
  fd_check_matrix : FuncData
  F_check_matrix : FunD K "check_matrix" "check_matrix" (defArgs s_check_matrix) (defBody s_check_matrix) (defScope s_check_matrix) [] [] f_check_matrix fd_check_matrix
  b_check_matrix : Binds K fd_check_matrix ["numbers"] []
  g_check_matrix : mg "check_matrix" = some (.ref f_check_matrix)
  f_crossed : Addr
  fd_crossed : FuncData
  F_crossed : FunD K "crossed" "crossed" (defArgs s_crossed) (defBody s_crossed) (defScope s_crossed) [] [] f_crossed fd_crossed
  b_crossed : Binds K fd_crossed ["one", "other"] []
  g_crossed : mg "crossed" = some (.ref f_crossed)
  f_placed : Addr
  fd_placed : FuncData
  F_placed : FunD K "placed" "placed" (defArgs s_placed) (defBody s_placed) (defScope s_placed) [] [] f_placed fd_placed
  b_placed : Binds K fd_placed ["row"] []
  g_placed : mg "placed" = some (.ref f_placed)
  f_way_to : Addr
  fd_way_to : FuncData
  F_way_to : FunD K "way_to" "way_to" (defArgs s_way_to) (defBody s_way_to) (defScope s_way_to) [] [] f_way_to fd_way_to
  b_way_to : Binds K fd_way_to ["place"] []
  g_way_to : mg "way_to" = some (.ref f_way_to)
  f_least_way : Addr
  fd_least_way : FuncData
  F_least_way : FunD K "least_way" "least_way" (defArgs s_least_way) (defBody s_least_way) (defScope s_least_way) [] [] f_least_way fd_least_way
  b_least_way : Binds K fd_least_way ["numbers"] []
  g_least_way : mg "least_way" = some (.ref f_least_way)
  f_fewest_lifts : Addr
  fd_fewest_lifts : FuncData
  F_fewest_lifts : FunD K "fewest_lifts" "fewest_lifts" (defArgs s_fewest_lifts) (defBody s_fewest_lifts) (defScope s_fewest_lifts) [] [] f_fewest_lifts fd_fewest_lifts
  b_fewest_lifts : Binds K fd_fewest_lifts ["numbers"] []
  g_fewest_lifts : mg "fewest_lifts" = some (.ref f_fewest_lifts)
  f_lift_to : Addr
  fd_lift_to : FuncData
  F_lift_to : FunD K "lift_to" "lift_to" (defArgs s_lift_to) (defBody s_lift_to) (defScope s_lift_to) [] [] f_lift_to fd_lift_to
  b_lift_to : Binds K fd_lift_to ["kept", "gone", "goal"] []
  g_lift_to : mg "lift_to" = some (.ref f_lift_to)
  f_lifts_for : Addr
  fd_lifts_for : FuncData
  F_lifts_for : FunD K "lifts_for" "lifts_for" (defArgs s_lifts_for) (defBody s_lifts_for) (defScope s_lifts_for) [] [] f_lifts_for fd_lifts_for
  b_lifts_for : Binds K fd_lifts_for ["numbers"] []
  g_lifts_for : mg "lifts_for" = some (.ref f_lifts_for)
  f_law_purse : Addr
  fd_law_purse : FuncData
  F_law_purse : FunD K "_law_purse" "_law_purse" (defArgs s_law_purse) (defBody s_law_purse) (defScope s_law_purse) [] [] f_law_purse fd_law_purse
  b_law_purse : Binds K fd_law_purse ["_law_script", "_law_at"] []
  g_law_purse : mg "_law_purse" = some (.ref f_law_purse)
  f_law_draw : Addr
  fd_law_draw : FuncData
  F_law_draw : FunD K "_law_draw" "_law_draw" (defArgs s_law_draw) (defBody s_law_draw) (defScope s_law_draw) [] [] f_law_draw fd_law_draw
  b_law_draw : Binds K fd_law_draw ["_law_purse_here", "_law_many"] []
  g_law_draw : mg "_law_draw" = some (.ref f_law_draw)
  f_law_one_of : Addr
  fd_law_one_of : FuncData
  F_law_one_of : FunD K "_law_one_of" "_law_one_of" (defArgs s_law_one_of) (defBody s_law_one_of) (defScope s_law_one_of) [] [] f_law_one_of fd_law_one_of
  b_law_one_of : Binds K fd_law_one_of ["_law_purse_here", "_law_some"] []
  g_law_one_of : mg "_law_one_of" = some (.ref f_law_one_of)
  f_law_stepped : Addr
  fd_law_stepped : FuncData
  F_law_stepped : FunD K "_law_stepped" "_law_stepped" (defArgs s_law_stepped) (defBody s_law_stepped) (defScope s_law_stepped) [] [] f_law_stepped fd_law_stepped
  b_law_stepped : Binds K fd_law_stepped ["_law_step", "_law_row", "_law_way"] []
  g_law_stepped : mg "_law_stepped" = some (.ref f_law_stepped)
  f_law_played : Addr
  fd_law_played : FuncData
  F_law_played : FunD K "_law_played" "_law_played" (defArgs s_law_played) (defBody s_law_played) (defScope s_law_played) [] [] f_law_played fd_law_played
  b_law_played : Binds K fd_law_played ["_law_steps", "_law_row"] []
  g_law_played : mg "_law_played" = some (.ref f_law_played)
  f_law_whole : Addr
  fd_law_whole : FuncData
  F_law_whole : FunD K "_law_whole" "_law_whole" (defArgs s_law_whole) (defBody s_law_whole) (defScope s_law_whole) [] [] f_law_whole fd_law_whole
  b_law_whole : Binds K fd_law_whole ["_law_value"] []
  g_law_whole : mg "_law_whole" = some (.ref f_law_whole)
  f_law_lifts_of : Addr
  fd_law_lifts_of : FuncData
  F_law_lifts_of : FunD K "_law_lifts_of" "_law_lifts_of" (defArgs s_law_lifts_of) (defBody s_law_lifts_of) (defScope s_law_lifts_of) [] [] f_law_lifts_of fd_law_lifts_of
  b_law_lifts_of : Binds K fd_law_lifts_of ["_law_steps"] []
  g_law_lifts_of : mg "_law_lifts_of" = some (.ref f_law_lifts_of)
  f_law_table : Addr
  fd_law_table : FuncData
  F_law_table : FunD K "_law_table" "_law_table" (defArgs s_law_table) (defBody s_law_table) (defScope s_law_table) [] [] f_law_table fd_law_table
  b_law_table : Binds K fd_law_table ["_law_most"] []
  g_law_table : mg "_law_table" = some (.ref f_law_table)
  f_law_far : Addr
  fd_law_far : FuncData
  F_law_far : FunD K "_law_far" "_law_far" (defArgs s_law_far) (defBody s_law_far) (defScope s_law_far) [] [] f_law_far fd_law_far
  b_law_far : Binds K fd_law_far ["_law_table_here", "_law_over", "_law_under"] []
  g_law_far : mg "_law_far" = some (.ref f_law_far)
  f_law_due : Addr
  fd_law_due : FuncData
  F_law_due : FunD K "_law_due" "_law_due" (defArgs s_law_due) (defBody s_law_due) (defScope s_law_due) [] [] f_law_due fd_law_due
  b_law_due : Binds K fd_law_due ["_law_table_here", "_law_rows"] []
  g_law_due : mg "_law_due" = some (.ref f_law_due)
  f_law_lifted : Addr
  fd_law_lifted : FuncData
  F_law_lifted : FunD K "_law_lifted" "_law_lifted" (defArgs s_law_lifted) (defBody s_law_lifted) (defScope s_law_lifted) [] [] f_law_lifted fd_law_lifted
  b_law_lifted : Binds K fd_law_lifted ["_law_rows", "_law_to", "_law_weight"] []
  g_law_lifted : mg "_law_lifted" = some (.ref f_law_lifted)
  f_law_drawn : Addr
  fd_law_drawn : FuncData
  F_law_drawn : FunD K "_law_drawn" "_law_drawn" (defArgs s_law_drawn) (defBody s_law_drawn) (defScope s_law_drawn) [] [] f_law_drawn fd_law_drawn
  b_law_drawn : Binds K fd_law_drawn ["_law_purse_here"] []
  g_law_drawn : mg "_law_drawn" = some (.ref f_law_drawn)
  f_law_bent : Addr
  fd_law_bent : FuncData
  F_law_bent : FunD K "_law_bent" "_law_bent" (defArgs s_law_bent) (defBody s_law_bent) (defScope s_law_bent) [] [] f_law_bent fd_law_bent
  b_law_bent : Binds K fd_law_bent ["_law_purse_here", "_law_rows"] []
  g_law_bent : mg "_law_bent" = some (.ref f_law_bent)
  f_law_steep : Addr
  fd_law_steep : FuncData
  F_law_steep : FunD K "_law_steep" "_law_steep" (defArgs s_law_steep) (defBody s_law_steep) (defScope s_law_steep) [] [] f_law_steep fd_law_steep
  b_law_steep : Binds K fd_law_steep ["_law_purse_here"] []
  g_law_steep : mg "_law_steep" = some (.ref f_law_steep)
  f_law_kin : Addr
  fd_law_kin : FuncData
  F_law_kin : FunD K "_law_kin" "_law_kin" (defArgs s_law_kin) (defBody s_law_kin) (defScope s_law_kin) [] [] f_law_kin fd_law_kin
  b_law_kin : Binds K fd_law_kin ["_law_rows"] []
  g_law_kin : mg "_law_kin" = some (.ref f_law_kin)
  f_law_right : Addr
  fd_law_right : FuncData
  F_law_right : FunD K "_law_right" "_law_right" (defArgs s_law_right) (defBody s_law_right) (defScope s_law_right) [] [] f_law_right fd_law_right
  b_law_right : Binds K fd_law_right ["_law_rows", "_law_due_here"] []
  g_law_right : mg "_law_right" = some (.ref f_law_right)
  f_law : Addr
  fd_law : FuncData
  F_law : FunD K "law" "law" (defArgs s_law) (defBody s_law) (defScope s_law) [] [] f_law fd_law
  b_law : Binds K fd_law ["_law_script"] []
  g_law : mg "law" = some (.ref f_law)
  f_Mixer___init__ : Addr
  fd_Mixer___init__ : FuncData
  F_Mixer___init__ : FunD K "__init__" "Mixer.__init__" (defArgs s_Mixer___init__) (defBody s_Mixer___init__) (defScope s_Mixer___init__) [] [] f_Mixer___init__ fd_Mixer___init__
  b_Mixer___init__ : Binds K fd_Mixer___init__ ["self", "wide", "steps"] []
  me_Mixer___init__ : Meth K C_Mixer "__init__" f_Mixer___init__
  mk_Mixer : Mk K C_Mixer f_Mixer___init__
  f_Mixer_wide : Addr
  fd_Mixer_wide : FuncData
  F_Mixer_wide : FunD K "wide" "Mixer.wide" (defArgs s_Mixer_wide) (defBody s_Mixer_wide) (defScope s_Mixer_wide) [] [] f_Mixer_wide fd_Mixer_wide
  b_Mixer_wide : Binds K fd_Mixer_wide ["self"] []
  me_Mixer_wide : Meth K C_Mixer "wide" f_Mixer_wide
  f_Mixer_steps : Addr
  fd_Mixer_steps : FuncData
  F_Mixer_steps : FunD K "steps" "Mixer.steps" (defArgs s_Mixer_steps) (defBody s_Mixer_steps) (defScope s_Mixer_steps) [] [] f_Mixer_steps fd_Mixer_steps
  b_Mixer_steps : Binds K fd_Mixer_steps ["self"] []
  me_Mixer_steps : Meth K C_Mixer "steps" f_Mixer_steps
  fd_Mixer___eq__ : FuncData
  F_Mixer___eq__ : FunD K "__eq__" "Mixer.__eq__" (defArgs s_Mixer___eq__) (defBody s_Mixer___eq__) (defScope s_Mixer___eq__) [] [] f_Mixer___eq__ fd_Mixer___eq__
  b_Mixer___eq__ : Binds K fd_Mixer___eq__ ["self", "other"] []
  me_Mixer___eq__ : Meth K C_Mixer "__eq__" f_Mixer___eq__
  n_len : mg "len" = none
  n_sum : mg "sum" = none
  n_max : mg "max" = none
  n_min : mg "min" = none
  n_int : mg "int" = none
  n_bool : mg "bool" = none
  n_list : mg "list" = none
  n_tuple : mg "tuple" = none
  n_range : mg "range" = none
  n_isinstance : mg "isinstance" = none
  n_abs : mg "abs" = none
  n_enumerate : mg "enumerate" = none
  n_zip : mg "zip" = none
  n_sorted : mg "sorted" = none
  t_MOST_WAYS : Tok
  m_MOST_WAYS : mg "MOST_WAYS" = some (.int 4 t_MOST_WAYS)
def d_is_whole : He.DefD := ⟨("is_whole", none), "is_whole", "is_whole", defArgs s_is_whole, defBody s_is_whole, defScope s_is_whole, [], []⟩
def d_is_between : He.DefD := ⟨("is_between", none), "is_between", "is_between", defArgs s_is_between, defBody s_is_between, defScope s_is_between, [], []⟩
def d_are_wholes : He.DefD := ⟨("are_wholes", none), "are_wholes", "are_wholes", defArgs s_are_wholes, defBody s_are_wholes, defScope s_are_wholes, [], []⟩
def d_common_divisor : He.DefD := ⟨("common_divisor", none), "common_divisor", "common_divisor", defArgs s_common_divisor, defBody s_common_divisor, defScope s_common_divisor, [], []⟩
def d_fraction : He.DefD := ⟨("fraction", none), "fraction", "fraction", defArgs s_fraction, defBody s_fraction, defScope s_fraction, [], []⟩
def d_check_number : He.DefD := ⟨("check_number", none), "check_number", "check_number", defArgs s_check_number, defBody s_check_number, defScope s_check_number, [], []⟩
def d_is_lift : He.DefD := ⟨("is_lift", none), "is_lift", "is_lift", defArgs s_is_lift, defBody s_is_lift, defScope s_is_lift, [], []⟩
def d_is_step : He.DefD := ⟨("is_step", none), "is_step", "is_step", defArgs s_is_step, defBody s_is_step, defScope s_is_step, [], []⟩
def d_closed : He.DefD := ⟨("closed", none), "closed", "closed", defArgs s_closed, defBody s_closed, defScope s_closed, [], []⟩
def d_opened : He.DefD := ⟨("opened", none), "opened", "opened", defArgs s_opened, defBody s_opened, defScope s_opened, [], []⟩
def d_check_mixer : He.DefD := ⟨("check_mixer", none), "check_mixer", "check_mixer", defArgs s_check_mixer, defBody s_check_mixer, defScope s_check_mixer, [], []⟩
def d_summed : He.DefD := ⟨("summed", none), "summed", "summed", defArgs s_summed, defBody s_summed, defScope s_summed, [], []⟩
def d_shifts_of : He.DefD := ⟨("shifts_of", none), "shifts_of", "shifts_of", defArgs s_shifts_of, defBody s_shifts_of, defScope s_shifts_of, [], []⟩
def d_numbers_of : He.DefD := ⟨("numbers_of", none), "numbers_of", "numbers_of", defArgs s_numbers_of, defBody s_numbers_of, defScope s_numbers_of, [], []⟩
def d_matrix : He.DefD := ⟨("matrix", none), "matrix", "matrix", defArgs s_matrix, defBody s_matrix, defScope s_matrix, [], []⟩
def d_is_turning : He.DefD := ⟨("is_turning", none), "is_turning", "is_turning", defArgs s_is_turning, defBody s_is_turning, defScope s_is_turning, [], []⟩
def d_check_matrix : He.DefD := ⟨("check_matrix", none), "check_matrix", "check_matrix", defArgs s_check_matrix, defBody s_check_matrix, defScope s_check_matrix, [], []⟩
def d_crossed : He.DefD := ⟨("crossed", none), "crossed", "crossed", defArgs s_crossed, defBody s_crossed, defScope s_crossed, [], []⟩
def d_placed : He.DefD := ⟨("placed", none), "placed", "placed", defArgs s_placed, defBody s_placed, defScope s_placed, [], []⟩
def d_way_to : He.DefD := ⟨("way_to", none), "way_to", "way_to", defArgs s_way_to, defBody s_way_to, defScope s_way_to, [], []⟩
def d_least_way : He.DefD := ⟨("least_way", none), "least_way", "least_way", defArgs s_least_way, defBody s_least_way, defScope s_least_way, [], []⟩
def d_fewest_lifts : He.DefD := ⟨("fewest_lifts", none), "fewest_lifts", "fewest_lifts", defArgs s_fewest_lifts, defBody s_fewest_lifts, defScope s_fewest_lifts, [], []⟩
def d_lift_to : He.DefD := ⟨("lift_to", none), "lift_to", "lift_to", defArgs s_lift_to, defBody s_lift_to, defScope s_lift_to, [], []⟩
def d_lifts_for : He.DefD := ⟨("lifts_for", none), "lifts_for", "lifts_for", defArgs s_lifts_for, defBody s_lifts_for, defScope s_lifts_for, [], []⟩
def d_law_purse : He.DefD := ⟨("_law_purse", none), "_law_purse", "_law_purse", defArgs s_law_purse, defBody s_law_purse, defScope s_law_purse, [], []⟩
def d_law_draw : He.DefD := ⟨("_law_draw", none), "_law_draw", "_law_draw", defArgs s_law_draw, defBody s_law_draw, defScope s_law_draw, [], []⟩
def d_law_one_of : He.DefD := ⟨("_law_one_of", none), "_law_one_of", "_law_one_of", defArgs s_law_one_of, defBody s_law_one_of, defScope s_law_one_of, [], []⟩
def d_law_stepped : He.DefD := ⟨("_law_stepped", none), "_law_stepped", "_law_stepped", defArgs s_law_stepped, defBody s_law_stepped, defScope s_law_stepped, [], []⟩
def d_law_played : He.DefD := ⟨("_law_played", none), "_law_played", "_law_played", defArgs s_law_played, defBody s_law_played, defScope s_law_played, [], []⟩
def d_law_whole : He.DefD := ⟨("_law_whole", none), "_law_whole", "_law_whole", defArgs s_law_whole, defBody s_law_whole, defScope s_law_whole, [], []⟩
def d_law_lifts_of : He.DefD := ⟨("_law_lifts_of", none), "_law_lifts_of", "_law_lifts_of", defArgs s_law_lifts_of, defBody s_law_lifts_of, defScope s_law_lifts_of, [], []⟩
def d_law_table : He.DefD := ⟨("_law_table", none), "_law_table", "_law_table", defArgs s_law_table, defBody s_law_table, defScope s_law_table, [], []⟩
def d_law_far : He.DefD := ⟨("_law_far", none), "_law_far", "_law_far", defArgs s_law_far, defBody s_law_far, defScope s_law_far, [], []⟩
def d_law_due : He.DefD := ⟨("_law_due", none), "_law_due", "_law_due", defArgs s_law_due, defBody s_law_due, defScope s_law_due, [], []⟩
def d_law_lifted : He.DefD := ⟨("_law_lifted", none), "_law_lifted", "_law_lifted", defArgs s_law_lifted, defBody s_law_lifted, defScope s_law_lifted, [], []⟩
def d_law_drawn : He.DefD := ⟨("_law_drawn", none), "_law_drawn", "_law_drawn", defArgs s_law_drawn, defBody s_law_drawn, defScope s_law_drawn, [], []⟩
def d_law_bent : He.DefD := ⟨("_law_bent", none), "_law_bent", "_law_bent", defArgs s_law_bent, defBody s_law_bent, defScope s_law_bent, [], []⟩
def d_law_steep : He.DefD := ⟨("_law_steep", none), "_law_steep", "_law_steep", defArgs s_law_steep, defBody s_law_steep, defScope s_law_steep, [], []⟩
def d_law_kin : He.DefD := ⟨("_law_kin", none), "_law_kin", "_law_kin", defArgs s_law_kin, defBody s_law_kin, defScope s_law_kin, [], []⟩
def d_law_right : He.DefD := ⟨("_law_right", none), "_law_right", "_law_right", defArgs s_law_right, defBody s_law_right, defScope s_law_right, [], []⟩
def d_law : He.DefD := ⟨("law", none), "law", "law", defArgs s_law, defBody s_law, defScope s_law, [], []⟩
def d_Mixer___init__ : He.DefD := ⟨("Mixer", some "__init__"), "__init__", "Mixer.__init__", defArgs s_Mixer___init__, defBody s_Mixer___init__, defScope s_Mixer___init__, [], []⟩
def d_Mixer_wide : He.DefD := ⟨("Mixer", some "wide"), "wide", "Mixer.wide", defArgs s_Mixer_wide, defBody s_Mixer_wide, defScope s_Mixer_wide, [], []⟩
def d_Mixer_steps : He.DefD := ⟨("Mixer", some "steps"), "steps", "Mixer.steps", defArgs s_Mixer_steps, defBody s_Mixer_steps, defScope s_Mixer_steps, [], []⟩
def d_Mixer___eq__ : He.DefD := ⟨("Mixer", some "__eq__"), "__eq__", "Mixer.__eq__", defArgs s_Mixer___eq__, defBody s_Mixer___eq__, defScope s_Mixer___eq__, [], []⟩
def fn : List He.DefD := [d_is_whole, d_is_between, d_are_wholes, d_common_divisor, d_fraction, d_check_number, d_is_lift, d_is_step, d_closed, d_opened, d_check_mixer, d_summed, d_shifts_of, d_numbers_of, d_matrix, d_is_turning, d_check_matrix, d_crossed, d_placed, d_way_to, d_least_way, d_fewest_lifts, d_lift_to, d_lifts_for, d_law_purse, d_law_draw, d_law_one_of, d_law_stepped, d_law_played, d_law_whole, d_law_lifts_of, d_law_table, d_law_far, d_law_due, d_law_lifted, d_law_drawn, d_law_bent, d_law_steep, d_law_kin, d_law_right, d_law, d_Mixer___init__, d_Mixer_wide, d_Mixer_steps, d_Mixer___eq__]
def fa0 : List He.Fa := [.glo "is_whole", .glo "is_between", .glo "are_wholes", .glo "common_divisor", .glo "fraction", .glo "check_number", .glo "is_lift", .glo "is_step", .glo "closed", .glo "opened", .glo "check_mixer", .glo "summed", .glo "shifts_of", .glo "numbers_of", .glo "matrix", .glo "is_turning", .glo "check_matrix", .glo "crossed", .glo "placed", .glo "way_to", .glo "least_way", .glo "fewest_lifts", .glo "lift_to", .glo "lifts_for", .glo "_law_purse", .glo "_law_draw", .glo "_law_one_of", .glo "_law_stepped", .glo "_law_played", .glo "_law_whole"]
def fa1 : List He.Fa := [.glo "_law_lifts_of", .glo "_law_table", .glo "_law_far", .glo "_law_due", .glo "_law_lifted", .glo "_law_drawn", .glo "_law_bent", .glo "_law_steep", .glo "_law_kin", .glo "_law_right", .glo "law", .free "len", .free "sum", .free "max", .free "min", .free "int", .free "bool", .free "list", .free "tuple", .free "range", .free "isinstance", .free "abs", .free "enumerate", .free "zip", .free "sorted", .int "MOST_WAYS" 4, .glo "Mixer", .cls "Mixer", .noat "Mixer" "many", .noat "Mixer" "rows"]
def fa2 : List He.Fa := [.mkr "Mixer", .meth "Mixer" "__init__", .meth "Mixer" "wide", .meth "Mixer" "steps", .meth "Mixer" "__eq__"]
def fa : List He.Fa := fa0 ++ fa1 ++ fa2
/-- isinstance of an own class -/
def insB (K : PySem.W.Frag) (x : Str) : Bool := decide (PySem.W.findIn K (.ref (He.ga K x)) "__class__" = some (some (.builtin "object.__class__"))) && (decide (PySem.W.specialIn K (.builtin "object.__class__") "__get__" = some (some (.builtin "getset_descriptor.__get__"))) && (decide (PySem.W.takesIn K (.builtin "object.__class__") = some true) && (decide (PySem.W.mroIn K (He.ga K x) (.type "object") = some true) && decide (PySem.W.kitOne K (.ref (He.ga K x)) (.ref (He.ga K x)) = some true))))
theorem insB_ok {K : PySem.W.Frag} {x : Str} (cl : Cls K (He.ga K x)) (h : insB K x = true) : C8.InsC K (He.ga K x) := by
  unfold insB at h
  simp only [Bool.and_eq_true, decide_eq_true_eq] at h
  exact ⟨cl, h.1, h.2.1, h.2.2.1, h.2.2.2.1, h.2.2.2.2⟩
def eqB (K : PySem.W.Frag) (x : Str) : Bool := decide (PySem.W.findIn K (.ref (He.ga K x)) "__ne__" = some (some (.builtin "object.__ne__"))) && (decide (PySem.W.subIn K (.ref (He.ga K x)) (.type "object") = some true) && (decide (PySem.W.subIn K (.type "list") (.ref (He.ga K x)) = some false) && (decide (PySem.W.kitOne K (.type "list") (.ref (He.ga K x)) = some false) && (decide (PySem.W.subIn K (.type "tuple") (.ref (He.ga K x)) = some false) && decide (PySem.W.kitOne K (.type "tuple") (.ref (He.ga K x)) = some false)))))
theorem eqB_ok {K : PySem.W.Frag} {x : Str} {f : Addr} (m : Meth K (He.ga K x) "__eq__" f) (h : eqB K x = true) : EqC K (He.ga K x) f := by
  unfold eqB at h
  simp only [Bool.and_eq_true, decide_eq_true_eq] at h
  exact ⟨m.at_, m.fn, h.1, h.2.1, h.2.2.1, h.2.2.2.1, h.2.2.2.2.1, h.2.2.2.2.2⟩
def eqs : List Str := ["Mixer"]
def own : List Str := ["Mixer"]
def ex (K : PySem.W.Frag) : Bool := (own.all fun x => insB K x) && eqs.all fun x => eqB K x
abbrev R : PySem.W.OpenRow := PySem.W.OpenLaw.row PySem.Challenge.rw_wholesound_k38_whole_fewest_lifts
abbrev Al : Type := He.AlD × Bool
def obsG (g : Addr → Option Obj) : Al := (He.obsDG 5 fa fn g, ex (He.frG g (He.asD g 5)))
def Says (K : PySem.W.Frag) : Prop := He.SaysD fa fn K ∧ ex K = true
def hk : PySem.W.Hook where
  α := Al
  obs := fun s => obsG s.heap.get?
  val := fun _ => (He.valD fn, true)
  says := fun _ h => ∃ K : PySem.W.Frag, K.In h ∧ Says K
  of := fun _ _ e => ⟨_, He.frG_in, congrArg Prod.fst e, congrArg Prod.snd e⟩
  keeps := fun _ _ _ ⟨K, hK, c⟩ k => ⟨K, PySem.W.Frag.In.keeps hK k, c⟩
def ob (s : PySem.W.SharedT) : Al := obsG (HandSHeadRun.getT s)
theorem ob_eq (s : PySem.W.SharedT) : ob s = hk.obs s.abs := by
  have e : HandSHeadRun.getT s = s.abs.heap.get? := funext (HandSHeadRun.getT_eq s)
  show obsG (HandSHeadRun.getT s) = obsG s.abs.heap.get?
  rw [e]
def loose0 : List PySem.Str := ["SoundError", "InvalidNumber", "InvalidList", "InvalidItem", "InvalidMixer", "InvalidMatrix", "is_whole", "is_between", "are_wholes", "common_divisor", "fraction", "check_number", "MOST_WAYS", "is_lift", "is_step", "closed", "opened", "Mixer", "check_mixer", "summed", "shifts_of", "numbers_of", "matrix", "is_turning", "check_matrix", "crossed", "placed", "way_to", "least_way", "fewest_lifts"]
def loose1 : List PySem.Str := ["lift_to", "lifts_for", "_law_purse", "_law_draw", "_law_one_of", "_law_stepped", "_law_played", "_law_whole", "_law_lifts_of", "_law_table", "_law_far", "_law_due", "_law_lifted", "_law_drawn", "_law_bent", "_law_steep", "_law_kin", "_law_right"]
abbrev loose : List PySem.Str := loose0 ++ loose1
theorem run (w : World) : HandSHeadRun.RunEq R (PySem.W.view R.prog [53]) hk ob 8000 loose w := by
  intro os
  kernel_rfl
noncomputable def top_mk {K : PySem.W.Frag} {h : Heap} {mg : Str → Option Value} (X : K.In h) (G : h.Ns mainGlobals mg) (c : Says K) : Top K mg :=
  let p0 := c.1.def_ 0 (d := d_is_whole) rfl
  let p1 := c.1.def_ 1 (d := d_is_between) rfl
  let p2 := c.1.def_ 2 (d := d_are_wholes) rfl
  let p3 := c.1.def_ 3 (d := d_common_divisor) rfl
  let p4 := c.1.def_ 4 (d := d_fraction) rfl
  let p5 := c.1.def_ 5 (d := d_check_number) rfl
  let p6 := c.1.def_ 6 (d := d_is_lift) rfl
  let p7 := c.1.def_ 7 (d := d_is_step) rfl
  let p8 := c.1.def_ 8 (d := d_closed) rfl
  let p9 := c.1.def_ 9 (d := d_opened) rfl
  let p10 := c.1.def_ 10 (d := d_check_mixer) rfl
  let p11 := c.1.def_ 11 (d := d_summed) rfl
  let p12 := c.1.def_ 12 (d := d_shifts_of) rfl
  let p13 := c.1.def_ 13 (d := d_numbers_of) rfl
  let p14 := c.1.def_ 14 (d := d_matrix) rfl
  let p15 := c.1.def_ 15 (d := d_is_turning) rfl
  let p16 := c.1.def_ 16 (d := d_check_matrix) rfl
  let p17 := c.1.def_ 17 (d := d_crossed) rfl
  let p18 := c.1.def_ 18 (d := d_placed) rfl
  let p19 := c.1.def_ 19 (d := d_way_to) rfl
  let p20 := c.1.def_ 20 (d := d_least_way) rfl
  let p21 := c.1.def_ 21 (d := d_fewest_lifts) rfl
  let p22 := c.1.def_ 22 (d := d_lift_to) rfl
  let p23 := c.1.def_ 23 (d := d_lifts_for) rfl
  let p24 := c.1.def_ 24 (d := d_law_purse) rfl
  let p25 := c.1.def_ 25 (d := d_law_draw) rfl
  let p26 := c.1.def_ 26 (d := d_law_one_of) rfl
  let p27 := c.1.def_ 27 (d := d_law_stepped) rfl
  let p28 := c.1.def_ 28 (d := d_law_played) rfl
  let p29 := c.1.def_ 29 (d := d_law_whole) rfl
  let p30 := c.1.def_ 30 (d := d_law_lifts_of) rfl
  let p31 := c.1.def_ 31 (d := d_law_table) rfl
  let p32 := c.1.def_ 32 (d := d_law_far) rfl
  let p33 := c.1.def_ 33 (d := d_law_due) rfl
  let p34 := c.1.def_ 34 (d := d_law_lifted) rfl
  let p35 := c.1.def_ 35 (d := d_law_drawn) rfl
  let p36 := c.1.def_ 36 (d := d_law_bent) rfl
  let p37 := c.1.def_ 37 (d := d_law_steep) rfl
  let p38 := c.1.def_ 38 (d := d_law_kin) rfl
  let p39 := c.1.def_ 39 (d := d_law_right) rfl
  let p40 := c.1.def_ 40 (d := d_law) rfl
  let p41 := c.1.def_ 41 (d := d_Mixer___init__) rfl
  let p42 := c.1.def_ 42 (d := d_Mixer_wide) rfl
  let p43 := c.1.def_ 43 (d := d_Mixer_steps) rfl
  let p44 := c.1.def_ 44 (d := d_Mixer___eq__) rfl
  let q0 := He.int_ok X G (c.1.fact 55 (f := .int "MOST_WAYS" 4) rfl)
  { C_Mixer := _, gc_Mixer := He.glo_ok X G (c.1.fact 56 (f := .glo "Mixer") rfl), cl_Mixer := He.cls_ok (c.1.fact 57 (f := .cls "Mixer") rfl), ic_Mixer := insB_ok (x := "Mixer") (He.cls_ok (c.1.fact 57 (f := .cls "Mixer") rfl)) (List.all_eq_true.mp (Bool.and_eq_true_iff.mp c.2).1 "Mixer" (by decide +kernel)),
    ec_Mixer := eqB_ok (x := "Mixer") (He.meth_ok (c.1.fact 64 (f := .meth "Mixer" "__eq__") rfl)) (List.all_eq_true.mp (Bool.and_eq_true_iff.mp c.2).2 "Mixer" (by decide +kernel)),
    na_Mixer_many := He.noat_ok (c.1.fact 58 (f := .noat "Mixer" "many") rfl),
    na_Mixer_rows := He.noat_ok (c.1.fact 59 (f := .noat "Mixer" "rows") rfl),
    f_is_whole := _, fd_is_whole := p0.choose, F_is_whole := p0.choose_spec, b_is_whole := p0.choose_spec.bindsN fun _ _ _ _ _ _ us hl => match us, hl with | [_], _ => rfl, g_is_whole := He.glo_ok X G (c.1.fact 0 (f := .glo "is_whole") rfl),
    f_is_between := _, fd_is_between := p1.choose, F_is_between := p1.choose_spec, b_is_between := p1.choose_spec.bindsN fun _ _ _ _ _ _ us hl => match us, hl with | [_, _, _], _ => rfl, g_is_between := He.glo_ok X G (c.1.fact 1 (f := .glo "is_between") rfl),
    f_are_wholes := _, fd_are_wholes := p2.choose, F_are_wholes := p2.choose_spec, b_are_wholes := p2.choose_spec.bindsN fun _ _ _ _ _ _ us hl => match us, hl with | [_], _ => rfl, g_are_wholes := He.glo_ok X G (c.1.fact 2 (f := .glo "are_wholes") rfl),
    f_common_divisor := _, fd_common_divisor := p3.choose, F_common_divisor := p3.choose_spec, b_common_divisor := p3.choose_spec.bindsN fun _ _ _ _ _ _ us hl => match us, hl with | [_, _], _ => rfl, g_common_divisor := He.glo_ok X G (c.1.fact 3 (f := .glo "common_divisor") rfl),
    f_fraction := _, fd_fraction := p4.choose, F_fraction := p4.choose_spec, b_fraction := p4.choose_spec.bindsN fun _ _ _ _ _ _ us hl => match us, hl with | [_, _], _ => rfl, g_fraction := He.glo_ok X G (c.1.fact 4 (f := .glo "fraction") rfl),
    f_check_number := _, fd_check_number := p5.choose, F_check_number := p5.choose_spec, b_check_number := p5.choose_spec.bindsN fun _ _ _ _ _ _ us hl => match us, hl with | [_, _, _], _ => rfl, g_check_number := He.glo_ok X G (c.1.fact 5 (f := .glo "check_number") rfl),
    f_is_lift := _, fd_is_lift := p6.choose, F_is_lift := p6.choose_spec, b_is_lift := p6.choose_spec.bindsN fun _ _ _ _ _ _ us hl => match us, hl with | [_, _], _ => rfl, g_is_lift := He.glo_ok X G (c.1.fact 6 (f := .glo "is_lift") rfl),
    f_is_step := _, fd_is_step := p7.choose, F_is_step := p7.choose_spec, b_is_step := p7.choose_spec.bindsN fun _ _ _ _ _ _ us hl => match us, hl with | [_, _], _ => rfl, g_is_step := He.glo_ok X G (c.1.fact 7 (f := .glo "is_step") rfl),
    f_closed := _, fd_closed := p8.choose, F_closed := p8.choose_spec, b_closed := p8.choose_spec.bindsN fun _ _ _ _ _ _ us hl => match us, hl with | [_], _ => rfl, g_closed := He.glo_ok X G (c.1.fact 8 (f := .glo "closed") rfl),
    f_opened := _, fd_opened := p9.choose, F_opened := p9.choose_spec, b_opened := p9.choose_spec.bindsN fun _ _ _ _ _ _ us hl => match us, hl with | [_], _ => rfl, g_opened := He.glo_ok X G (c.1.fact 9 (f := .glo "opened") rfl),
    f_check_mixer := _, fd_check_mixer := p10.choose, F_check_mixer := p10.choose_spec, b_check_mixer := p10.choose_spec.bindsN fun _ _ _ _ _ _ us hl => match us, hl with | [_], _ => rfl, g_check_mixer := He.glo_ok X G (c.1.fact 10 (f := .glo "check_mixer") rfl),
    f_summed := _, fd_summed := p11.choose, F_summed := p11.choose_spec, b_summed := p11.choose_spec.bindsN fun _ _ _ _ _ _ us hl => match us, hl with | [_, _], _ => rfl, g_summed := He.glo_ok X G (c.1.fact 11 (f := .glo "summed") rfl),
    f_shifts_of := _, fd_shifts_of := p12.choose, F_shifts_of := p12.choose_spec, b_shifts_of := p12.choose_spec.bindsN fun _ _ _ _ _ _ us hl => match us, hl with | [_], _ => rfl, g_shifts_of := He.glo_ok X G (c.1.fact 12 (f := .glo "shifts_of") rfl),
    f_numbers_of := _, fd_numbers_of := p13.choose, F_numbers_of := p13.choose_spec, b_numbers_of := p13.choose_spec.bindsN fun _ _ _ _ _ _ us hl => match us, hl with | [_, _], _ => rfl, g_numbers_of := He.glo_ok X G (c.1.fact 13 (f := .glo "numbers_of") rfl),
    f_matrix := _, fd_matrix := p14.choose, F_matrix := p14.choose_spec, b_matrix := p14.choose_spec.bindsN fun _ _ _ _ _ _ us hl => match us, hl with | [_], _ => rfl, g_matrix := He.glo_ok X G (c.1.fact 14 (f := .glo "matrix") rfl),
    f_is_turning := _, fd_is_turning := p15.choose, F_is_turning := p15.choose_spec, b_is_turning := p15.choose_spec.bindsN fun _ _ _ _ _ _ us hl => match us, hl with | [_], _ => rfl, g_is_turning := He.glo_ok X G (c.1.fact 15 (f := .glo "is_turning") rfl),
    f_check_matrix := _, fd_check_matrix := p16.choose, F_check_matrix := p16.choose_spec, b_check_matrix := p16.choose_spec.bindsN fun _ _ _ _ _ _ us hl => match us, hl with | [_], _ => rfl, g_check_matrix := He.glo_ok X G (c.1.fact 16 (f := .glo "check_matrix") rfl),
    f_crossed := _, fd_crossed := p17.choose, F_crossed := p17.choose_spec, b_crossed := p17.choose_spec.bindsN fun _ _ _ _ _ _ us hl => match us, hl with | [_, _], _ => rfl, g_crossed := He.glo_ok X G (c.1.fact 17 (f := .glo "crossed") rfl),
    f_placed := _, fd_placed := p18.choose, F_placed := p18.choose_spec, b_placed := p18.choose_spec.bindsN fun _ _ _ _ _ _ us hl => match us, hl with | [_], _ => rfl, g_placed := He.glo_ok X G (c.1.fact 18 (f := .glo "placed") rfl),
    f_way_to := _, fd_way_to := p19.choose, F_way_to := p19.choose_spec, b_way_to := p19.choose_spec.bindsN fun _ _ _ _ _ _ us hl => match us, hl with | [_], _ => rfl, g_way_to := He.glo_ok X G (c.1.fact 19 (f := .glo "way_to") rfl),
    f_least_way := _, fd_least_way := p20.choose, F_least_way := p20.choose_spec, b_least_way := p20.choose_spec.bindsN fun _ _ _ _ _ _ us hl => match us, hl with | [_], _ => rfl, g_least_way := He.glo_ok X G (c.1.fact 20 (f := .glo "least_way") rfl),
    f_fewest_lifts := _, fd_fewest_lifts := p21.choose, F_fewest_lifts := p21.choose_spec, b_fewest_lifts := p21.choose_spec.bindsN fun _ _ _ _ _ _ us hl => match us, hl with | [_], _ => rfl, g_fewest_lifts := He.glo_ok X G (c.1.fact 21 (f := .glo "fewest_lifts") rfl),
    f_lift_to := _, fd_lift_to := p22.choose, F_lift_to := p22.choose_spec, b_lift_to := p22.choose_spec.bindsN fun _ _ _ _ _ _ us hl => match us, hl with | [_, _, _], _ => rfl, g_lift_to := He.glo_ok X G (c.1.fact 22 (f := .glo "lift_to") rfl),
    f_lifts_for := _, fd_lifts_for := p23.choose, F_lifts_for := p23.choose_spec, b_lifts_for := p23.choose_spec.bindsN fun _ _ _ _ _ _ us hl => match us, hl with | [_], _ => rfl, g_lifts_for := He.glo_ok X G (c.1.fact 23 (f := .glo "lifts_for") rfl),
    f_law_purse := _, fd_law_purse := p24.choose, F_law_purse := p24.choose_spec, b_law_purse := p24.choose_spec.bindsN fun _ _ _ _ _ _ us hl => match us, hl with | [_, _], _ => rfl, g_law_purse := He.glo_ok X G (c.1.fact 24 (f := .glo "_law_purse") rfl),
    f_law_draw := _, fd_law_draw := p25.choose, F_law_draw := p25.choose_spec, b_law_draw := p25.choose_spec.bindsN fun _ _ _ _ _ _ us hl => match us, hl with | [_, _], _ => rfl, g_law_draw := He.glo_ok X G (c.1.fact 25 (f := .glo "_law_draw") rfl),
    f_law_one_of := _, fd_law_one_of := p26.choose, F_law_one_of := p26.choose_spec, b_law_one_of := p26.choose_spec.bindsN fun _ _ _ _ _ _ us hl => match us, hl with | [_, _], _ => rfl, g_law_one_of := He.glo_ok X G (c.1.fact 26 (f := .glo "_law_one_of") rfl),
    f_law_stepped := _, fd_law_stepped := p27.choose, F_law_stepped := p27.choose_spec, b_law_stepped := p27.choose_spec.bindsN fun _ _ _ _ _ _ us hl => match us, hl with | [_, _, _], _ => rfl, g_law_stepped := He.glo_ok X G (c.1.fact 27 (f := .glo "_law_stepped") rfl),
    f_law_played := _, fd_law_played := p28.choose, F_law_played := p28.choose_spec, b_law_played := p28.choose_spec.bindsN fun _ _ _ _ _ _ us hl => match us, hl with | [_, _], _ => rfl, g_law_played := He.glo_ok X G (c.1.fact 28 (f := .glo "_law_played") rfl),
    f_law_whole := _, fd_law_whole := p29.choose, F_law_whole := p29.choose_spec, b_law_whole := p29.choose_spec.bindsN fun _ _ _ _ _ _ us hl => match us, hl with | [_], _ => rfl, g_law_whole := He.glo_ok X G (c.1.fact 29 (f := .glo "_law_whole") rfl),
    f_law_lifts_of := _, fd_law_lifts_of := p30.choose, F_law_lifts_of := p30.choose_spec, b_law_lifts_of := p30.choose_spec.bindsN fun _ _ _ _ _ _ us hl => match us, hl with | [_], _ => rfl, g_law_lifts_of := He.glo_ok X G (c.1.fact 30 (f := .glo "_law_lifts_of") rfl),
    f_law_table := _, fd_law_table := p31.choose, F_law_table := p31.choose_spec, b_law_table := p31.choose_spec.bindsN fun _ _ _ _ _ _ us hl => match us, hl with | [_], _ => rfl, g_law_table := He.glo_ok X G (c.1.fact 31 (f := .glo "_law_table") rfl),
    f_law_far := _, fd_law_far := p32.choose, F_law_far := p32.choose_spec, b_law_far := p32.choose_spec.bindsN fun _ _ _ _ _ _ us hl => match us, hl with | [_, _, _], _ => rfl, g_law_far := He.glo_ok X G (c.1.fact 32 (f := .glo "_law_far") rfl),
    f_law_due := _, fd_law_due := p33.choose, F_law_due := p33.choose_spec, b_law_due := p33.choose_spec.bindsN fun _ _ _ _ _ _ us hl => match us, hl with | [_, _], _ => rfl, g_law_due := He.glo_ok X G (c.1.fact 33 (f := .glo "_law_due") rfl),
    f_law_lifted := _, fd_law_lifted := p34.choose, F_law_lifted := p34.choose_spec, b_law_lifted := p34.choose_spec.bindsN fun _ _ _ _ _ _ us hl => match us, hl with | [_, _, _], _ => rfl, g_law_lifted := He.glo_ok X G (c.1.fact 34 (f := .glo "_law_lifted") rfl),
    f_law_drawn := _, fd_law_drawn := p35.choose, F_law_drawn := p35.choose_spec, b_law_drawn := p35.choose_spec.bindsN fun _ _ _ _ _ _ us hl => match us, hl with | [_], _ => rfl, g_law_drawn := He.glo_ok X G (c.1.fact 35 (f := .glo "_law_drawn") rfl),
    f_law_bent := _, fd_law_bent := p36.choose, F_law_bent := p36.choose_spec, b_law_bent := p36.choose_spec.bindsN fun _ _ _ _ _ _ us hl => match us, hl with | [_, _], _ => rfl, g_law_bent := He.glo_ok X G (c.1.fact 36 (f := .glo "_law_bent") rfl),
    f_law_steep := _, fd_law_steep := p37.choose, F_law_steep := p37.choose_spec, b_law_steep := p37.choose_spec.bindsN fun _ _ _ _ _ _ us hl => match us, hl with | [_], _ => rfl, g_law_steep := He.glo_ok X G (c.1.fact 37 (f := .glo "_law_steep") rfl),
    f_law_kin := _, fd_law_kin := p38.choose, F_law_kin := p38.choose_spec, b_law_kin := p38.choose_spec.bindsN fun _ _ _ _ _ _ us hl => match us, hl with | [_], _ => rfl, g_law_kin := He.glo_ok X G (c.1.fact 38 (f := .glo "_law_kin") rfl),
    f_law_right := _, fd_law_right := p39.choose, F_law_right := p39.choose_spec, b_law_right := p39.choose_spec.bindsN fun _ _ _ _ _ _ us hl => match us, hl with | [_, _], _ => rfl, g_law_right := He.glo_ok X G (c.1.fact 39 (f := .glo "_law_right") rfl),
    f_law := _, fd_law := p40.choose, F_law := p40.choose_spec, b_law := p40.choose_spec.bindsN fun _ _ _ _ _ _ us hl => match us, hl with | [_], _ => rfl, g_law := He.glo_ok X G (c.1.fact 40 (f := .glo "law") rfl),
    f_Mixer___init__ := _, fd_Mixer___init__ := p41.choose, F_Mixer___init__ := p41.choose_spec, b_Mixer___init__ := p41.choose_spec.bindsN fun _ _ _ _ _ _ us hl => match us, hl with | [_, _, _], _ => rfl, me_Mixer___init__ := He.meth_ok (c.1.fact 61 (f := .meth "Mixer" "__init__") rfl), mk_Mixer := He.mkr_ok (c.1.fact 60 (f := .mkr "Mixer") rfl),
    f_Mixer_wide := _, fd_Mixer_wide := p42.choose, F_Mixer_wide := p42.choose_spec, b_Mixer_wide := p42.choose_spec.bindsN fun _ _ _ _ _ _ us hl => match us, hl with | [_], _ => rfl, me_Mixer_wide := He.meth_ok (c.1.fact 62 (f := .meth "Mixer" "wide") rfl),
    f_Mixer_steps := _, fd_Mixer_steps := p43.choose, F_Mixer_steps := p43.choose_spec, b_Mixer_steps := p43.choose_spec.bindsN fun _ _ _ _ _ _ us hl => match us, hl with | [_], _ => rfl, me_Mixer_steps := He.meth_ok (c.1.fact 63 (f := .meth "Mixer" "steps") rfl),
    f_Mixer___eq__ := _, fd_Mixer___eq__ := p44.choose, F_Mixer___eq__ := p44.choose_spec, b_Mixer___eq__ := p44.choose_spec.bindsN fun _ _ _ _ _ _ us hl => match us, hl with | [_, _], _ => rfl, me_Mixer___eq__ := He.meth_ok (c.1.fact 64 (f := .meth "Mixer" "__eq__") rfl),
    n_len := He.free_ok X G (c.1.fact 41 (f := .free "len") rfl),
    n_sum := He.free_ok X G (c.1.fact 42 (f := .free "sum") rfl),
    n_max := He.free_ok X G (c.1.fact 43 (f := .free "max") rfl),
    n_min := He.free_ok X G (c.1.fact 44 (f := .free "min") rfl),
    n_int := He.free_ok X G (c.1.fact 45 (f := .free "int") rfl),
    n_bool := He.free_ok X G (c.1.fact 46 (f := .free "bool") rfl),
    n_list := He.free_ok X G (c.1.fact 47 (f := .free "list") rfl),
    n_tuple := He.free_ok X G (c.1.fact 48 (f := .free "tuple") rfl),
    n_range := He.free_ok X G (c.1.fact 49 (f := .free "range") rfl),
    n_isinstance := He.free_ok X G (c.1.fact 50 (f := .free "isinstance") rfl),
    n_abs := He.free_ok X G (c.1.fact 51 (f := .free "abs") rfl),
    n_enumerate := He.free_ok X G (c.1.fact 52 (f := .free "enumerate") rfl),
    n_zip := He.free_ok X G (c.1.fact 53 (f := .free "zip") rfl),
    n_sorted := He.free_ok X G (c.1.fact 54 (f := .free "sorted") rfl),
    t_MOST_WAYS := q0.choose, m_MOST_WAYS := q0.choose_spec }
end My

namespace My
open PySem PySem.Spec PyProof.Rows L2 Pre
section
variable {P : Program} {w : World} {K : PySem.W.Frag} {mg : Str → Option Value} {base : Heap}
/-! ### is_whole, is_between, of whole numbers -/
def sp_is_whole : Sp := fun vs H Q _ => ∃ i : Int, vs = [.int i] ∧ Q (.bl true) H
theorem G_is_whole (T : Top K mg) : FnOk P w K mg base CX0 1 T.f_is_whole T.fd_is_whole ["value"] sp_is_whole := by
  refine T.F_is_whole.ok sc_is_whole (fun vs H Q E h => by obtain ⟨i, rfl, _⟩ := h; rfl) (fun cdv A outer s H vs Q E hr h => ?_)
  obtain ⟨i, rfl, q⟩ := h
  refine ⟨_, PSs.nox (pss_one (ps_ret (pe_and (pe_callB (k_isi K rfl) (by rfl) T.n_isinstance (by decide +kernel) (pa_cons (pv 0) (pa_cons (pe_bltn (v := .ty "int") (by rfl) T.n_int (by decide +kernel) rfl) pa_nil))) (pe_one (pe_not (pe_callB (k_isi K rfl) (by rfl) T.n_isinstance (by decide +kernel) (pa_cons (pv 0) (pa_cons (pe_bltn (v := .ty "bool") (by rfl) T.n_bool (by decide +kernel) rfl) pa_nil)))))))), ?_⟩
  refine ⟨_, rfl, _, _, _, _, true, rfl, .ty _, .base (.int i), kit_ty (by decide +kernel), true, rfl, iteT ?_⟩
  exact ⟨_, rfl, _, _, _, _, false, rfl, .ty _, .base (.int i), kit_ty (by decide +kernel), false, rfl, q⟩
/-- value a whole number, low one, high None or one -/
def sp_is_between : Sp := fun vs H Q _ => ∃ (i lo : Int) (hi : Option Int), vs = [.int i, .int lo, (match hi with | some j => .int j | none => .non)] ∧ Q (.bl (decide (lo ≤ i ∧ ∀ j, hi = some j → i ≤ j))) H
theorem G_is_between (T : Top K mg) : FnOk P w K mg base CX0 2 T.f_is_between T.fd_is_between ["value", "low", "high"] sp_is_between := by
  refine T.F_is_between.ok sc_is_between (fun vs H Q E h => by obtain ⟨i, lo, hi, rfl, _⟩ := h; rfl) (fun cdv A outer s H vs Q E hr h => ?_)
  obtain ⟨i, lo, hi, rfl, q⟩ := h
  refine ⟨_, PSs.nox (pss_one (ps_ret (pe_and (pe_call (G_is_whole T) (hr.mono (by decide)) (by rfl) T.g_is_whole T.F_is_whole.kp T.b_is_whole .nil pass0 (pa_cons (pv 0) pa_nil)) (pe_and (pe_cmpR op_le (pv 1) (pv 0) (nomark _)) (pe_one (pe_or (pe_cmpR op_isN (pv 2) pe_non (nomark _)) (pe_one (pe_cmpR op_le (pv 0) (pv 2) (nomark _))))))))), ?_⟩
  refine ⟨_, rfl, i, rfl, true, rfl, iteT ?_⟩
  refine ⟨_, rfl, _, rfl, _, _, rfl, rfl, _, rfl, ite2 (fun e => ?_) (fun e => ?_)⟩
  · have e1 : lo ≤ i := of_decide_eq_true e
    cases hi with
    | none =>
      refine ⟨_, rfl, rfl, _, rfl, iteT ?_⟩
      rw [decide_eq_true ⟨e1, fun j h => nomatch h⟩] at q
      exact q
    | some j =>
      refine ⟨_, rfl, rfl, _, rfl, iteF ⟨_, rfl, _, rfl, _, _, rfl, rfl, ?_⟩⟩
      have e2 : decide (lo ≤ i ∧ ∀ j', some j = some j' → i ≤ j') = decide (i ≤ j) := by
        by_cases h : i ≤ j
        · rw [decide_eq_true h, decide_eq_true]
          exact ⟨e1, fun j' e => by cases e; exact h⟩
        · rw [decide_eq_false h, decide_eq_false]
          exact fun z => h (z.2 j rfl)
      rw [e2] at q
      exact q
  · have e1 : ¬ lo ≤ i := fun h => e (decide_eq_true h)
    rw [decide_eq_false fun z => e1 z.1] at q
    exact q
end
end My

set_option exponentiation.threshold 100000
namespace My
open PySem PySem.Spec PyProof.Rows L2 Pre
section
variable {P : Program} {w : World} {K : PySem.W.Frag} {mg : Str → Option Value} {base : Heap}
/-! ### the law's draws -/
/-- a generator: its count is at most n -/
def GenAt (H : Hp) (g : Addr) (n : Nat) : Prop := ∃ x y z : Int, H g = some (.lst [.int x, .int y, .int z]) ∧ 0 ≤ z ∧ z ≤ (n : Int)
/-- all but one thing stand as they stood -/
def But (g : Addr) (H H' : Hp) : Prop := ∀ b o, b ≠ g → H b = some o → H' b = some o
theorem But.refl {g : Addr} {H : Hp} : But g H H := fun _ _ _ h => h
theorem But.trans {g : Addr} {H H1 H2 : Hp} (a : But g H H1) (b : But g H1 H2) : But g H H2 := fun c o n h => b c o n (a c o n h)
theorem But.same {g : Addr} {H H1 H2 : Hp} (a : But g H H1) (b : Same H1 H2) : But g H H2 := fun c o n h => b c o (a c o n h)
theorem But.of {g : Addr} {H H1 : Hp} (b : Same H H1) : But g H H1 := fun c o _ h => b c o h
theorem But.upd {g : Addr} {H H1 : Hp} {o : HO} (a : But g H H1) : But g H (upd H1 g o) := fun c u n h => by
  rw [upd_ne n]
  exact a c u n h
theorem But.free {g : Addr} {H H1 : Hp} (a : But g H H1) {p : Addr} (n : p ≠ g) (h : H1 p = none) : H p = none := by
  cases e : H p with
  | none => rfl
  | some o => rw [a p o n e] at h; cases h
/-- what is changed was not there at first -/
theorem But.fresh {g : Addr} {H H1 H2 : Hp} (s : Same H H1) (n : H g = none) (b : But g H1 H2) : Same H H2 := fun c o h => b c o (ne_of_none h n) (s c o h)
theorem GenAt.mono {H : Hp} {g : Addr} {n m : Nat} (h : GenAt H g n) (l : n ≤ m) : GenAt H g m := by
  obtain ⟨x, y, z, a, b, c⟩ := h
  exact ⟨x, y, z, a, b, by omega⟩
theorem GenAt.same {H H' : Hp} {g : Addr} {n : Nat} (h : GenAt H g n) (s : Same H H') : GenAt H' g n := by
  obtain ⟨x, y, z, a, b⟩ := h
  exact ⟨x, y, z, s _ _ a, b⟩
theorem GenAt.ne {H : Hp} {g : Addr} {n : Nat} {p : Addr} (h : GenAt H g n) (np : H p = none) : p ≠ g := by
  obtain ⟨x, y, z, a, _⟩ := h
  exact (ne_of_none a np).symm
theorem small_2900 {b : Int} (h : b ≤ 2 ^ 60) : b < 2 ^ 2900 := by omega
theorem pow_pos' (w : Nat) : (0 : Int) < 2 ^ w := Int.pow_pos (by decide)
theorem pow2_le {k m : Nat} (h : k ≤ m) : (2 : Int) ^ k ≤ 2 ^ m := by
  have e := Nat.pow_le_pow_right (show 0 < 2 by decide) h
  have e2 : ((2 ^ k : Nat) : Int) ≤ ((2 ^ m : Nat) : Int) := Int.ofNat_le.mpr e
  rw [Int.natCast_pow, Int.natCast_pow] at e2
  exact e2
theorem cmul_mod (x m j : Int) (h0 : 0 < m) (h1 : m ≤ 2 ^ 60) : CMul (x % m) j := by
  have a := Int.emod_nonneg x (show m ≠ 0 by omega)
  have b := Int.emod_lt_of_pos x h0
  exact .inl ⟨by omega, by omega⟩
def sp_law_hash : Sp := fun vs H Q _ => ∃ i j : Int, vs = [.int i, .int j] ∧ 0 ≤ j ∧ j < 2 ^ 60 ∧ ∀ n : Int, Q (.int n) H

/-- a comprehension over a range that draws whole numbers -/
theorem lc_drawR {lo : Int} {n : Nat} {j : Nat} {te : TE} {vs : List Nat} {σ : L2.St} {H1 : Hp} {D : Addr} {Qd : Hp → Prop} (g : Addr) (m step : Nat) (P : Int → Prop) (nD : H1 D = none) (hG : GenAt H1 g m) (hz : n < sizeLine)
    (hw : ∀ x, wipe ((wipe σ vs).set j (some x)) vs = wipe σ vs)
    (hs : ∀ (i : Nat) (H' : Hp), i < n → But g H1 H' → GenAt H' g (m + step * i) → ∀ Qt : V → Hp → Prop, (∀ (y : Int) H'', P y → But g H' H'' → GenAt H'' g (m + step * (i + 1)) → Qt (.int y) H'') → te ((wipe σ vs).set j (some (.int (lo + (i : Int))))) H' Qt)
    (hd : ∀ H' (ys : List Int), But g H1 H' → GenAt H' g (m + step * n) → H' D = some (.lst (ys.map V.int)) → ys.length = n → (∀ y ∈ ys, P y) → Qd H') :
    ∃ W : Nat → Nat → Hp → Prop, (∃ m, W 0 m (upd H1 D (.lst []))) ∧ ∀ i m H, W i m H →
      ((Itr lo n).stop i H ∧ Qd H) ∨ ((Itr lo n).go i H ∧ ∃ Nx : Hp → Prop, (∀ H', Nx H' → ∃ m', m' < m ∧ W (i + 1) m' H') ∧ ∀ x H', (Itr lo n).yld i H x H' → gName j x (wipe σ vs) H' fun σ2 H2 => wipe σ2 vs = wipe σ vs ∧ tYes σ2 H2 fun b H3 =>
        if b = true then te σ2 H3 fun y H4 => ∃ acc, H4 D = some (.lst acc) ∧ acc.length < sizeLine ∧ Nx (upd H4 D (.lst (acc ++ [y]))) else Nx H3) := by
  have nDg : D ≠ g := hG.ne nD
  refine lc_range (lo := lo) (n := n) (fun i H => ∃ ys : List Int, But g H1 H ∧ GenAt H g (m + step * i) ∧ H D = some (.lst (ys.map V.int)) ∧ ys.length = i ∧ ∀ y ∈ ys, P y)
    ⟨[], But.of (same_upd nD), hG.same (same_upd nD), upd_same, rfl, (fun _ h => nomatch h)⟩ ?_ ?_
  · rintro i H hi ⟨ys, b, hg, hD, hl, hP⟩
    refine ⟨hw _, ?_⟩
    unfold tYes
    dsimp only
    rw [if_pos (show true = true from rfl)]
    refine hs i H hi b hg _ fun y H2 py b2 hg2 => ?_
    refine ⟨_, b2 _ _ nDg hD, by rw [List.length_map]; omega, ys ++ [y], ?_, ?_, ?_, ?_, ?_⟩
    · intro c o nc hc
      rw [upd_ne (ne_of_none hc nD)]
      exact b2 _ _ nc (b _ _ nc hc)
    · obtain ⟨x1, x2, x3, e1, e2⟩ := hg2
      exact ⟨x1, x2, x3, by rw [upd_ne nDg.symm]; exact e1, e2⟩
    · rw [upd_same, List.map_append]
      rfl
    · rw [List.length_append, hl]
      rfl
    · intro z hz
      rcases List.mem_append.mp hz with hz | hz
      · exact hP z hz
      · rw [List.mem_singleton.mp hz]
        exact py
  · rintro H ⟨ys, b, hg, hD, hl, hP⟩
    exact hd H ys b hg hD hl hP
end
end My

namespace My
open PySem PySem.Spec PyProof.Rows L2 Pre
/-- a comprehension over a list that makes new things: R tells what is known of the i-th -/
theorem lc_relL {K : PySem.W.Frag} {a : Addr} {xs : List V} {j : Nat} {te : TE} {vs : List Nat} {σ : L2.St} {H1 : Hp} {D : Addr} {Qd : Hp → Prop} (R : Nat → V → Hp → Prop) (nD : H1 D = none) (hS : SqL K H1 a xs) (hz : xs.length < sizeLine)
    (mono : ∀ (i : Nat) (y : V) (H H' : Hp), Pre.Off D H H' → R i y H → R i y H') (hw : ∀ x, wipe ((wipe σ vs).set j (some x)) vs = wipe σ vs)
    (hs : ∀ (i : Nat) (x : V) (H' : Hp) (zs : List V), xs[i]? = some x → Same H1 H' → H' D = some (.lst zs) → ∀ Qt : V → Hp → Prop, (∀ y H'', Same H' H'' → R i y H'' → Qt y H'') → te ((wipe σ vs).set j (some x)) H' Qt)
    (hd : ∀ H' ys, Same H1 H' → H' D = some (.lst ys) → ys.length = xs.length → (∀ (i : Nat) (y : V), ys[i]? = some y → R i y H') → Qd H') :
    ∃ W : Nat → Nat → Hp → Prop, (∃ m, W 0 m (upd H1 D (.lst []))) ∧ ∀ i m H, W i m H →
      ((Itl K a).stop i H ∧ Qd H) ∨ ((Itl K a).go i H ∧ ∃ Nx : Hp → Prop, (∀ H', Nx H' → ∃ m', m' < m ∧ W (i + 1) m' H') ∧ ∀ x H', (Itl K a).yld i H x H' → gName j x (wipe σ vs) H' fun σ2 H2 => wipe σ2 vs = wipe σ vs ∧ tYes σ2 H2 fun b H3 =>
        if b = true then te σ2 H3 fun y H4 => ∃ acc, H4 D = some (.lst acc) ∧ acc.length < sizeLine ∧ Nx (upd H4 D (.lst (acc ++ [y]))) else Nx H3) := by
  refine lc_list (K := K) (a := a) (xs := xs) (RelPv R H1 D) ⟨[], same_upd nD, upd_same, rfl, fun k y h => by simp at h⟩ (fun i H _ ⟨_, s, _⟩ => s.seq hS) ?_ ?_
  · rintro i x H hx ⟨ys, s, hD, hl, hR⟩
    have hi : i < xs.length := (List.getElem?_eq_some_iff.mp hx).1
    refine ⟨hw _, ?_⟩
    unfold tYes
    dsimp only
    rw [if_pos (show true = true from rfl)]
    refine hs i x H ys hx s hD _ fun y H4 s4 r4 => ?_
    refine ⟨ys, s4 _ _ hD, by omega, ys ++ [y], same_over nD (s.trans s4), upd_same, by rw [List.length_append, hl]; rfl, fun k z hz => ?_⟩
    have off : Pre.Off D H4 (upd H4 D (.lst (ys ++ [y]))) := fun b o nb h => by rw [upd_ne nb]; exact h
    by_cases hk : k < ys.length
    · rw [List.getElem?_append_left hk] at hz
      exact mono k z H _ (fun b o nb h => off b o nb (s4 b o h)) (hR k z hz)
    · rw [List.getElem?_append_right (by omega)] at hz
      have hk2 : k - ys.length = 0 := by
        have h2 := (List.getElem?_eq_some_iff.mp hz).1
        rw [List.length_singleton] at h2
        omega
      rw [hk2] at hz
      cases hz
      have ek : k = i := by omega
      rw [ek]
      exact mono i y H4 _ off r4
  · rintro H ⟨ys, s, hD, hl, hR⟩
    exact hd H ys s hD hl hR
/-- a list of lists of whole numbers -/
def RowsIn (H : Hp) (p : Addr) (rows : List (List Int)) : Prop := ∃ as : List Addr, H p = some (.lst (as.map V.ref)) ∧ as.length = rows.length ∧ ∀ (i : Nat) (a : Addr) (r : List Int), as[i]? = some a → rows[i]? = some r → H a = some (.lst (r.map V.int))
theorem RowsIn.same {H H' : Hp} {p : Addr} {rows : List (List Int)} (h : RowsIn H p rows) (s : Same H H') : RowsIn H' p rows := by
  obtain ⟨as, h1, h2, h3⟩ := h
  exact ⟨as, s _ _ h1, h2, fun i a r ha hr => s _ _ (h3 i a r ha hr)⟩
section
variable {X : Cx}
theorem huD {k : Nat} {A : Around} (r : Room k A) : A.units + 65 < cLine := by have := r.un; omega
theorem k_inD (K : PySem.W.Frag) (h : X.K = K) (hu : X.A.units + 65 < cLine) : OpR X (compareOp .In) (rInD K) := by subst h; exact op_inD hu
theorem k_notInD (K : PySem.W.Frag) (h : X.K = K) (hu : X.A.units + 65 < cLine) : OpR X (compareOp .NotIn) (rNotInD K) := by subst h; exact op_notInD hu
theorem k_indexD (K : PySem.W.Frag) (h : X.K = K) (hu : X.A.units + 65 < cLine) : MtR X "list.index" (rIndexD K) := by subst h; exact mt_indexD hu
end
/-- rows as data -/
def rowD (r : List Int) : PyData := .list (r.map PyData.int)
theorem rows_dp {K : PySem.W.Frag} {H : Hp} : ∀ {as : List Addr} {rows : List (List Int)}, as.length = rows.length → (∀ (i : Nat) (a : Addr) (r : List Int), as[i]? = some a → rows[i]? = some r → H a = some (.lst (r.map V.int))) → DpAll K H (as.map V.ref) (rows.map rowD)
  | [], [], _, _ => .nil
  | [], _ :: _, h, _ => by simp at h
  | _ :: _, [], h, _ => by simp at h
  | a :: as, r :: rows, h, k => .cons (.lst (.inl (.inl (k 0 a r rfl rfl))) (Pre.dp_ints r)) (rows_dp (by simpa using h) fun i t q ht hq => k (i + 1) t q (by simpa using ht) (by simpa using hq))
theorem rowD_eqv (r q : List Int) : PyData.eqv (rowD r) (rowD q) = decide (r = q) := by
  unfold rowD
  rw [PyData.eqv, eqv_ints]
theorem rows_shaped (rows : List (List Int)) : SeqAt.shaped (.list (rows.map rowD)) = true := by
  have h1 : ∀ l : List (List Int), PyData.canLayAll0 (l.map rowD) = true := fun l => by
    induction l with
    | nil => rfl
    | cons r l ih =>
      show (PyData.canLay0 (rowD r) && PyData.canLayAll0 (l.map rowD)) = true
      rw [ih]
      unfold rowD
      rw [PyData.canLay0, lay_ints]
      rfl
  have h2 : ∀ l : List (List Int), PyData.depthAll (l.map rowD) ≤ 1 := fun l => by
    induction l with
    | nil => simp [PyData.depthAll]
    | cons r l ih =>
      show PyData.depthAll (rowD r :: l.map rowD) ≤ 1
      rw [PyData.depthAll]
      unfold rowD at *
      rw [PyData.depth, depth_ints]
      omega
  show (PyData.canLay0 (.list (rows.map rowD)) && decide (PyData.depth (.list (rows.map rowD)) ≤ 64)) = true
  rw [Bool.and_eq_true]
  have := h2 rows
  exact ⟨by rw [PyData.canLay0]; exact h1 rows, decide_eq_true (by rw [PyData.depth]; omega)⟩
end My

namespace My
open PySem PySem.Spec PyProof.Rows L2 Pre
/-! ### min and max of a list of pairs of whole numbers -/
def pairD (p : Int × Int) : PyData := .tuple [.int p.1, .int p.2]
def ltP2 (p q : Int × Int) : Prop := p.1 < q.1 ∨ (p.1 = q.1 ∧ p.2 < q.2)
instance (p q : Int × Int) : Decidable (ltP2 p q) := by unfold ltP2; infer_instance
theorem pair_lt (p q : Int × Int) : PySem.W.dataLt (pairD p) (pairD q) = decide (ltP2 p q) := PySem.W.dataLt_ii p.1 p.2 q.1 q.2
theorem ltP2_trans {p q r : Int × Int} (h : ¬ ltP2 q p) (k : ¬ ltP2 r q) : ¬ ltP2 r p := by
  unfold ltP2 at *
  omega
def minP (p : Int × Int) (ps : List (Int × Int)) : Int × Int := ps.foldl (fun a y => if ltP2 y a then y else a) p
def maxP (p : Int × Int) (ps : List (Int × Int)) : Int × Int := ps.foldl (fun a y => if ltP2 a y then y else a) p
theorem minP_data : ∀ (ps : List (Int × Int)) (p : Int × Int), PySem.W.minD (pairD p) (ps.map pairD) = pairD (minP p ps)
  | [], _ => rfl
  | q :: ps, p => by
    show PySem.W.minD (if PySem.W.dataLt (pairD q) (pairD p) = true then pairD q else pairD p) (ps.map pairD) = pairD (minP (if ltP2 q p then q else p) ps)
    rw [pair_lt]
    by_cases h : ltP2 q p
    · rw [decide_eq_true h, if_pos rfl, if_pos h, minP_data ps q]
    · rw [decide_eq_false h, if_neg (by decide), if_neg h, minP_data ps p]
theorem maxP_data : ∀ (ps : List (Int × Int)) (p : Int × Int), PySem.W.maxD (pairD p) (ps.map pairD) = pairD (maxP p ps)
  | [], _ => rfl
  | q :: ps, p => by
    show PySem.W.maxD (if PySem.W.dataLt (pairD p) (pairD q) = true then pairD q else pairD p) (ps.map pairD) = pairD (maxP (if ltP2 p q then q else p) ps)
    rw [pair_lt]
    by_cases h : ltP2 p q
    · rw [decide_eq_true h, if_pos rfl, if_pos h, maxP_data ps q]
    · rw [decide_eq_false h, if_neg (by decide), if_neg h, maxP_data ps p]
theorem minP_spec : ∀ (ps : List (Int × Int)) (p : Int × Int), minP p ps ∈ p :: ps ∧ ∀ q ∈ p :: ps, ¬ ltP2 q (minP p ps)
  | [], p => ⟨List.mem_cons_self, fun q hq => by
      rw [List.mem_singleton.mp hq]
      show ¬ ltP2 p p
      unfold ltP2
      omega⟩
  | r :: ps, p => by
    show minP (if ltP2 r p then r else p) ps ∈ _ ∧ ∀ q ∈ p :: r :: ps, ¬ ltP2 q (minP (if ltP2 r p then r else p) ps)
    by_cases h : ltP2 r p
    · rw [if_pos h]
      obtain ⟨h1, h2⟩ := minP_spec ps r
      refine ⟨List.mem_cons_of_mem _ h1, fun q hq => ?_⟩
      rcases List.mem_cons.mp hq with rfl | hq
      · have := h2 r List.mem_cons_self
        exact fun z => this (by unfold ltP2 at *; omega)
      · exact h2 q hq
    · rw [if_neg h]
      obtain ⟨h1, h2⟩ := minP_spec ps p
      refine ⟨?_, fun q hq => ?_⟩
      · rcases List.mem_cons.mp h1 with e | e
        · rw [e]; exact List.mem_cons_self
        · exact List.mem_cons_of_mem _ (List.mem_cons_of_mem _ e)
      · rcases List.mem_cons.mp hq with rfl | hq
        · exact h2 q List.mem_cons_self
        · rcases List.mem_cons.mp hq with rfl | hq
          · have := h2 p List.mem_cons_self
            exact fun z => this (by unfold ltP2 at *; omega)
          · exact h2 q (List.mem_cons_of_mem _ hq)
theorem maxP_spec : ∀ (ps : List (Int × Int)) (p : Int × Int), maxP p ps ∈ p :: ps ∧ ∀ q ∈ p :: ps, ¬ ltP2 (maxP p ps) q
  | [], p => ⟨List.mem_cons_self, fun q hq => by
      rw [List.mem_singleton.mp hq]
      show ¬ ltP2 p p
      unfold ltP2
      omega⟩
  | r :: ps, p => by
    show maxP (if ltP2 p r then r else p) ps ∈ _ ∧ ∀ q ∈ p :: r :: ps, ¬ ltP2 (maxP (if ltP2 p r then r else p) ps) q
    by_cases h : ltP2 p r
    · rw [if_pos h]
      obtain ⟨h1, h2⟩ := maxP_spec ps r
      refine ⟨List.mem_cons_of_mem _ h1, fun q hq => ?_⟩
      rcases List.mem_cons.mp hq with rfl | hq
      · have := h2 r List.mem_cons_self
        exact fun z => this (by unfold ltP2 at *; omega)
      · exact h2 q hq
    · rw [if_neg h]
      obtain ⟨h1, h2⟩ := maxP_spec ps p
      refine ⟨?_, fun q hq => ?_⟩
      · rcases List.mem_cons.mp h1 with e | e
        · rw [e]; exact List.mem_cons_self
        · exact List.mem_cons_of_mem _ (List.mem_cons_of_mem _ e)
      · rcases List.mem_cons.mp hq with rfl | hq
        · exact h2 q List.mem_cons_self
        · rcases List.mem_cons.mp hq with rfl | hq
          · have := h2 p List.mem_cons_self
            exact fun z => this (by unfold ltP2 at *; omega)
          · exact h2 q (List.mem_cons_of_mem _ hq)
theorem pairs_alike (ps : List (Int × Int)) : PySem.W.AlikeAll (ps.map pairD) := by
  refine ⟨fun x hx y hy => ?_, fun x hx => ?_⟩
  · obtain ⟨p, _, rfl⟩ := List.mem_map.mp hx
    obtain ⟨q, _, rfl⟩ := List.mem_map.mp hy
    rfl
  · obtain ⟨p, _, rfl⟩ := List.mem_map.mp hx
    exact fun z => nomatch z
theorem pairs_lay : ∀ ps : List (Int × Int), PyData.canLayAll0 (ps.map pairD) = true
  | [] => rfl
  | p :: ps => by simp [PyData.canLayAll0, PyData.canLay0, pairD, pairs_lay ps]
theorem pairs_depth : ∀ ps : List (Int × Int), PyData.depthAll (ps.map pairD) ≤ 2
  | [] => by simp [PyData.depthAll]
  | p :: ps => by
    have := pairs_depth ps
    simp only [List.map_cons, PyData.depthAll, pairD, PyData.depth]
    omega
/-- a list of pairs, at a -/
def PairsAt (K : PySem.W.Frag) (H : Hp) (a : Addr) (ps : List (Int × Int)) : Prop := ∃ as : List Addr, SqL K H a (as.map V.ref) ∧ as.length = ps.length ∧ ∀ (i : Nat) (t : Addr) (p : Int × Int), as[i]? = some t → ps[i]? = some p → SqT K H t [.int p.1, .int p.2]
theorem pairs_dp {K : PySem.W.Frag} {H : Hp} : ∀ {as : List Addr} {ps : List (Int × Int)}, as.length = ps.length → (∀ (i : Nat) (t : Addr) (p : Int × Int), as[i]? = some t → ps[i]? = some p → SqT K H t [.int p.1, .int p.2]) → DpAll K H (as.map V.ref) (ps.map pairD)
  | [], [], _, _ => .nil
  | [], _ :: _, h, _ => by simp at h
  | _ :: _, [], h, _ => by simp at h
  | a :: as, p :: ps, h, k => .cons (.tup (k 0 a p rfl rfl) (.cons (.int _) (.cons (.int _) .nil))) (pairs_dp (by simpa using h) fun i t q ht hq => k (i + 1) t q (by simpa using ht) (by simpa using hq))
def rMnP (K : PySem.W.Frag) (best : Int × Int → List (Int × Int) → Int × Int) : List V → Hp → VK → Prop := fun xs H Q => ∃ (a : Addr) (p : Int × Int) (ps : List (Int × Int)), xs = [.ref a] ∧ PairsAt K H a (p :: ps) ∧ ∀ t, SqT K H t [.int (best p ps).1, .int (best p ps).2] → Q (.ref t) H
section
variable {X : Cx} {K : PySem.W.Frag}
theorem pick {H : Hp} {s : Shared} {as : List Addr} {ps : List (Int × Int)} {its : List Value} {i : Nat} {v : Value} {h' : Heap} {bs cs : List Addr} {b : Int × Int} (hl : as.length = ps.length)
    (hT : ∀ (i : Nat) (t : Addr) (p : Int × Int), as[i]? = some t → ps[i]? = some p → SqT K H t [.int p.1, .int p.2]) (rv : Vals (as.map V.ref) its) (hr : ReadsAll s.heap its (ps.map pairD) cs) (hv : its.toArray[i]? = some v) (rd : Reads h' v (pairD b) bs)
    (hk : ∀ b o, s.heap.get? b = some o → h'.get? b = some o) : ∃ t, v = .ref t ∧ SqT K H t [.int b.1, .int b.2] := by
  have hv' : its[i]? = some v := by simpa using hv
  have hil : i < its.length := (List.getElem?_eq_some_iff.mp hv').1
  have hvl := rv.length
  rw [List.length_map] at hvl
  obtain ⟨u, hu, ru⟩ := rv.get (show (as.map V.ref)[i]? = some (.ref (as[i]'(by omega))) by rw [List.getElem?_map, List.getElem?_eq_getElem (by omega)]; rfl)
  rw [hv'] at hu
  cases hu
  have hp : ps[i]? = some (ps[i]'(by omega)) := List.getElem?_eq_getElem (by omega)
  obtain ⟨ds, r1, _, _, _⟩ := PySem.W.readsAll_at hr i v hv'
  have e1 : (ps.map pairD).getD i .none = pairD (ps[i]'(by omega)) := by
    rw [List.getD_eq_getElem?_getD, List.getElem?_map, hp]
    rfl
  rw [e1] at r1
  have e2 := PySem.SeqAt.Reads.unique (pairD b) _ v _ _ (by simp [pairD, PyData.canLay0, PyData.canLayAll0]) rd (Reads.keeps hk r1)
  have e3 : b = ps[i]'(by omega) := by
    unfold pairD at e2
    injection e2 with e2
    injection e2 with e4 e5
    injection e5 with e5 _
    injection e4 with e4
    injection e5 with e5
    exact Prod.ext e4 e5
  refine ⟨as[i]'(by omega), ru, ?_⟩
  rw [e3]
  exact hT i _ _ (List.getElem?_eq_getElem (by omega)) hp
theorem k_minP (K : PySem.W.Frag) (h : X.K = K) (hc : X.calm = true) (hu : X.A.units + 65 < cLine) : CallR X (.builtin "min") (rMnP K minP) := by
  subst h
  intro pins s σ H xs us Q I r h
  obtain ⟨a, p, ps, rfl, ⟨as, hS, hl, hT⟩, q⟩ := h
  obtain ⟨its, rv, hL, _⟩ := I.list hS
  rw [Vals.ref1 r]
  obtain ⟨cs, hr⟩ := Dp.readsAll I _ _ its (pairs_dp hl hT) rv
  have hd := pairs_depth (p :: ps)
  refine PySem.W.min_list_data (I.ok.hd hc) hL.isList (show ReadsAll s.heap its.toArray.toList (pairD p :: ps.map pairD) cs by simpa using hr) (pairs_alike (p :: ps)) (by rw [List.map_cons] at hd; omega) fun i v h' tk bs hv rd hk => ?_
  rw [minP_data] at rd
  obtain ⟨t, rfl, ht⟩ := pick hl hT rv hr hv rd hk
  exact ⟨.ref t, H, I.kept hk, rfl, q t ht⟩
theorem k_maxP (K : PySem.W.Frag) (h : X.K = K) (hc : X.calm = true) (hu : X.A.units + 65 < cLine) : CallR X (.builtin "max") (rMnP K maxP) := by
  subst h
  intro pins s σ H xs us Q I r h
  obtain ⟨a, p, ps, rfl, ⟨as, hS, hl, hT⟩, q⟩ := h
  obtain ⟨its, rv, hL, _⟩ := I.list hS
  rw [Vals.ref1 r]
  obtain ⟨cs, hr⟩ := Dp.readsAll I _ _ its (pairs_dp hl hT) rv
  have hd := pairs_depth (p :: ps)
  refine PySem.W.max_list_data (I.ok.hd hc) hL.isList (show ReadsAll s.heap its.toArray.toList (pairD p :: ps.map pairD) cs by simpa using hr) (pairs_alike (p :: ps)) (by rw [List.map_cons] at hd; omega) fun i v h' tk bs hv rd hk => ?_
  rw [maxP_data] at rd
  obtain ⟨t, rfl, ht⟩ := pick hl hT rv hr hv rd hk
  exact ⟨.ref t, H, I.kept hk, rfl, q t ht⟩
theorem huM {k : Nat} {A : Around} (r : Room k A) : A.units + 65 < cLine := by have := r.un; omega
end
end My

namespace My
open PySem PySem.Spec PyProof.Rows L2 Pre
/-! ### data in a heap: what is told of a value by lists and tuples that stand there (none of them frozen) -/
mutual
inductive Dt (H : Hp) : V → PyData → Prop
  | non : Dt H .non .none
  | bl (b : Bool) : Dt H (.bl b) (.bool b)
  | int (n : Int) : Dt H (.int n) (.int n)
  | str (x : Str) : Dt H (.str x) (.str x)
  | lst {a : Addr} {xs : List V} {ds : List PyData} : H a = some (.lst xs) → DtA H xs ds → Dt H (.ref a) (.list ds)
  | tup {a : Addr} {xs : List V} {ds : List PyData} : H a = some (.tup xs) → DtA H xs ds → Dt H (.ref a) (.tuple ds)
inductive DtA (H : Hp) : List V → List PyData → Prop
  | nil : DtA H [] []
  | cons {v : V} {vs : List V} {d : PyData} {ds : List PyData} : Dt H v d → DtA H vs ds → DtA H (v :: vs) (d :: ds)
end
mutual
theorem Dt.same {H H' : Hp} (s : Same H H') : ∀ {d : PyData} {v : V}, Dt H v d → Dt H' v d
  | .none, _, h => by cases h; exact .non
  | .bool _, _, h => by cases h; exact .bl _
  | .int _, _, h => by cases h; exact .int _
  | .str _, _, h => by cases h; exact .str _
  | .list _, _, h => by cases h with | lst a b => exact .lst (s _ _ a) (DtA.same s b)
  | .tuple _, _, h => by cases h with | tup a b => exact .tup (s _ _ a) (DtA.same s b)
  | .dict _, _, h => nomatch h
theorem DtA.same {H H' : Hp} (s : Same H H') : ∀ {ds : List PyData} {vs : List V}, DtA H vs ds → DtA H' vs ds
  | [], _, h => by cases h; exact .nil
  | _ :: _, _, h => by cases h with | cons a b => exact .cons (Dt.same s a) (DtA.same s b)
end
mutual
theorem Dt.dp {K : PySem.W.Frag} {H : Hp} : ∀ {d : PyData} {v : V}, Dt H v d → Dp K H v d
  | .none, _, h => by cases h; exact .non
  | .bool _, _, h => by cases h; exact .bl _
  | .int _, _, h => by cases h; exact .int _
  | .str _, _, h => by cases h; exact .str _
  | .list _, _, h => by cases h with | lst a b => exact .lst (.inl (.inl a)) (DtA.dp b)
  | .tuple _, _, h => by cases h with | tup a b => exact .tup (.inl (.inl a)) (DtA.dp b)
  | .dict _, _, h => nomatch h
theorem DtA.dp {K : PySem.W.Frag} {H : Hp} : ∀ {ds : List PyData} {vs : List V}, DtA H vs ds → DpAll K H vs ds
  | [], _, h => by cases h; exact .nil
  | _ :: _, _, h => by cases h with | cons a b => exact .cons (Dt.dp a) (DtA.dp b)
end
theorem DtA.len {H : Hp} : ∀ {ds : List PyData} {vs : List V}, DtA H vs ds → vs.length = ds.length
  | [], _, h => by cases h; rfl
  | _ :: _, _, h => by cases h with | cons a b => rw [List.length_cons, List.length_cons, DtA.len b]
theorem DtA.app {H : Hp} : ∀ {ds : List PyData} {vs : List V} {es : List PyData} {us : List V}, DtA H vs ds → DtA H us es → DtA H (vs ++ us) (ds ++ es)
  | [], _, _, _, h, k => by cases h; exact k
  | _ :: _, _, _, _, h, k => by cases h with | cons a b => exact .cons a (DtA.app b k)
theorem DtA.get {H : Hp} : ∀ {ds : List PyData} {vs : List V} {i : Nat} {d : PyData}, DtA H vs ds → ds[i]? = some d → ∃ v, vs[i]? = some v ∧ Dt H v d
  | [], _, _, _, _, k => by simp at k
  | _ :: _, _, 0, _, h, k => by
    cases h with
    | cons a b => rw [List.getElem?_cons_zero] at k; cases k; exact ⟨_, rfl, a⟩
  | _ :: _, _, i + 1, _, h, k => by
    cases h with
    | cons a b => rw [List.getElem?_cons_succ] at k; rw [List.getElem?_cons_succ]; exact DtA.get b k
theorem DtA.got {H : Hp} {ds : List PyData} {vs : List V} {i : Nat} {v : V} (h : DtA H vs ds) (k : vs[i]? = some v) : ∃ d, ds[i]? = some d ∧ Dt H v d := by
  have hi := (List.getElem?_eq_some_iff.mp k).1
  have hl := h.len
  obtain ⟨u, hu, d⟩ := h.get (List.getElem?_eq_getElem (show i < ds.length by omega))
  rw [k] at hu
  cases hu
  exact ⟨_, List.getElem?_eq_getElem (by omega), d⟩
theorem DtA.take {H : Hp} : ∀ {ds : List PyData} {vs : List V} (n : Nat), DtA H vs ds → DtA H (vs.take n) (ds.take n)
  | _, _, 0, _ => .nil
  | [], _, _ + 1, h => by cases h; exact .nil
  | _ :: _, _, n + 1, h => by cases h with | cons a b => exact .cons a (DtA.take n b)
theorem DtA.drop {H : Hp} : ∀ {ds : List PyData} {vs : List V} (n : Nat), DtA H vs ds → DtA H (vs.drop n) (ds.drop n)
  | _, _, 0, h => h
  | [], _, _ + 1, h => by cases h; exact .nil
  | _ :: _, _, n + 1, h => by cases h with | cons a b => exact DtA.drop n b
theorem DtA.rev {H : Hp} : ∀ {ds : List PyData} {vs : List V}, DtA H vs ds → DtA H vs.reverse ds.reverse
  | [], _, h => by cases h; exact .nil
  | _ :: _, _, h => by
    cases h with
    | cons a b => rw [List.reverse_cons, List.reverse_cons]; exact DtA.app (DtA.rev b) (.cons a .nil)
theorem DtA.ints {H : Hp} : ∀ ns : List Int, DtA H (ns.map V.int) (ns.map PyData.int)
  | [] => .nil
  | n :: r => .cons (.int n) (DtA.ints r)
theorem DtA.intsE {H : Hp} : ∀ {ns : List Int} {vs : List V}, DtA H vs (ns.map PyData.int) → vs = ns.map V.int
  | [], _, h => by cases h; rfl
  | n :: r, _, h => by
    cases h with
    | cons a b => cases a; rw [DtA.intsE b]; rfl
/-- a list of whole numbers -/
theorem Dt.ints {H : Hp} {a : Addr} {ns : List Int} (h : H a = some (.lst (ns.map V.int))) : Dt H (.ref a) (rowD ns) := .lst h (DtA.ints ns)
theorem Dt.intsE {H : Hp} {v : V} {ns : List Int} (h : Dt H v (rowD ns)) : ∃ a, v = .ref a ∧ H a = some (.lst (ns.map V.int)) := by
  unfold rowD at h
  cases h with
  | lst a b => rw [DtA.intsE b] at a; exact ⟨_, rfl, a⟩
theorem Dt.listE {H : Hp} {v : V} {ds : List PyData} (h : Dt H v (.list ds)) : ∃ a xs, v = .ref a ∧ H a = some (.lst xs) ∧ DtA H xs ds := by
  cases h with
  | lst a b => exact ⟨_, _, rfl, a, b⟩
theorem Dt.tupE {H : Hp} {v : V} {ds : List PyData} (h : Dt H v (.tuple ds)) : ∃ a xs, v = .ref a ∧ H a = some (.tup xs) ∧ DtA H xs ds := by
  cases h with
  | tup a b => exact ⟨_, _, rfl, a, b⟩
/-! ### what is owned (and changes) is left out -/
def rs (S : List Addr) (H : Hp) : Hp := fun a => if a ∈ S then none else H a
theorem rs_nil (H : Hp) : rs [] H = H := by funext a; simp [rs]
theorem rs_in {S : List Addr} {H : Hp} {a : Addr} (h : a ∈ S) : rs S H a = none := if_pos h
theorem rs_out {S : List Addr} {H : Hp} {a : Addr} (h : a ∉ S) : rs S H a = H a := if_neg h
theorem rs_some {S : List Addr} {H : Hp} {a : Addr} {o : HO} (h : rs S H a = some o) : a ∉ S ∧ H a = some o := by
  by_cases m : a ∈ S
  · rw [rs_in m] at h; cases h
  · rw [rs_out m] at h; exact ⟨m, h⟩
theorem rs_le {S : List Addr} {H : Hp} : Same (rs S H) H := fun _ _ h => (rs_some h).2
theorem rs_same {S : List Addr} {H H' : Hp} (s : Same H H') : Same (rs S H) (rs S H') := fun b o h => by
  obtain ⟨m, e⟩ := rs_some h
  rw [rs_out m]
  exact s b o e
theorem rs_upd {S : List Addr} {H : Hp} {p : Addr} {o : HO} (h : p ∈ S) : rs S (L2.upd H p o) = rs S H := by
  funext a
  by_cases m : a ∈ S
  · rw [rs_in m, rs_in m]
  · rw [rs_out m, rs_out m, upd_ne (fun e => m (by rw [e]; exact h))]
/-- all of them stand -/
def Has (S : List Addr) (H : Hp) : Prop := ∀ a ∈ S, ∃ o, H a = some o
theorem Has.nil {H : Hp} : Has [] H := fun _ h => nomatch h
theorem Has.same {S : List Addr} {H H' : Hp} (h : Has S H) (s : Same H H') : Has S H' := fun a m => by
  obtain ⟨o, e⟩ := h a m
  exact ⟨o, s a o e⟩
theorem Has.cons {S : List Addr} {H : Hp} {p : Addr} {o : HO} (h : Has S H) (e : H p = some o) : Has (p :: S) H := fun a m => by
  rcases List.mem_cons.mp m with rfl | m
  · exact ⟨o, e⟩
  · exact h a m
theorem Has.upd {S : List Addr} {H : Hp} {p : Addr} {o : HO} (h : Has S H) : Has S (L2.upd H p o) := fun a m => by
  by_cases e : a = p
  · subst e; exact ⟨o, upd_same⟩
  · rw [upd_ne e]; exact h a m
theorem Has.out {S : List Addr} {H : Hp} {p : Addr} (h : Has S H) (n : H p = none) : p ∉ S := fun m => by
  obtain ⟨o, e⟩ := h p m
  rw [n] at e
  cases e
theorem GenAt.has {H : Hp} {g : Addr} {n : Nat} (h : GenAt H g n) : Has [g] H := by
  obtain ⟨x, y, z, e, _⟩ := h
  exact Has.nil.cons e
/-- all but what is owned stays -/
def Sta (S : List Addr) (H H' : Hp) : Prop := Same (rs S H) (rs S H')
theorem Sta.of {S : List Addr} {H H' : Hp} (s : Same H H') : Sta S H H' := rs_same s
theorem Sta.trans {S : List Addr} {H H1 H2 : Hp} (a : Sta S H H1) (b : Sta S H1 H2) : Sta S H H2 := fun c o h => b c o (a c o h)
theorem Sta.at_ {S : List Addr} {H H' : Hp} (s : Sta S H H') {a : Addr} {o : HO} (m : a ∉ S) (h : H a = some o) : H' a = some o := (rs_some (s a o (by rw [rs_out m]; exact h))).2
theorem Sta.upd {S : List Addr} {H : Hp} {p : Addr} {o : HO} (h : p ∈ S) : Sta S H (L2.upd H p o) := fun c u e => by rw [rs_upd h]; exact e
theorem Sta.more {S : List Addr} {H H' : Hp} {p : Addr} (s : Sta S H H') : Sta (p :: S) H H' := fun c o h => by
  obtain ⟨m, e⟩ := rs_some h
  have m2 : c ∉ S := fun z => m (List.mem_cons_of_mem _ z)
  rw [rs_out m]
  exact s.at_ m2 e
theorem But.sta {g : Addr} {H H' : Hp} (b : But g H H') : Sta [g] H H' := fun c o h => by
  obtain ⟨m, e⟩ := rs_some h
  rw [rs_out m]
  exact b c o (fun z => m (by rw [z]; exact List.mem_cons_self)) e
/-- what was there ahead of a new thing does not speak of it -/
theorem under {S : List Addr} {H H' : Hp} {p : Addr} (n : H p = none) (s : Same H H') : Same (rs S H) (rs (p :: S) H') := fun c o h => by
  obtain ⟨m, e⟩ := rs_some h
  rw [rs_out (fun z => by
    rcases List.mem_cons.mp z with rfl | z
    · rw [n] at e; cases e
    · exact m z)]
  exact s c o e
theorem over {S : List Addr} {H : Hp} {p : Addr} : Same (rs (p :: S) H) (rs S H) := fun c o h => by
  obtain ⟨m, e⟩ := rs_some h
  rw [rs_out (fun z => m (List.mem_cons_of_mem _ z))]
  exact e
/-! ### a new list, a new tuple, a sum of lists -/
theorem dt_new {S : List Addr} {H : Hp} {p : Addr} {xs : List V} {ds : List PyData} (hS : Has S H) (n : H p = none) (h : DtA (rs S H) xs ds) : Dt (rs S (upd H p (.lst xs))) (.ref p) (.list ds) :=
  .lst (by rw [rs_out (hS.out n)]; exact upd_same) (h.same (rs_same (same_upd n)))
theorem dt_newT {S : List Addr} {H : Hp} {p : Addr} {xs : List V} {ds : List PyData} (hS : Has S H) (n : H p = none) (h : DtA (rs S H) xs ds) : Dt (rs S (upd H p (.tup xs))) (.ref p) (.tuple ds) :=
  .tup (by rw [rs_out (hS.out n)]; exact upd_same) (h.same (rs_same (same_upd n)))
theorem d_lst {S : List Addr} {H : Hp} {xs : List V} {ds : List PyData} {Q : VK} (hS : Has S H) (h : DtA (rs S H) xs ds) (hz : xs.length ≤ sizeLine) (k : ∀ p H', Same H H' → H p = none → H' p = some (.lst xs) → Dt (rs S H') (.ref p) (.list ds) → Q (.ref p) H') : xs.length ≤ sizeLine ∧ ∀ p, H p = none → Q (.ref p) (upd H p (.lst xs)) :=
  ⟨hz, fun p n => k p _ (same_upd n) n upd_same (dt_new hS n h)⟩
theorem d_tup {S : List Addr} {H : Hp} {xs : List V} {ds : List PyData} {Q : VK} (hS : Has S H) (h : DtA (rs S H) xs ds) (hz : xs.length ≤ sizeLine) (k : ∀ p H', Same H H' → H p = none → H' p = some (.tup xs) → Dt (rs S H') (.ref p) (.tuple ds) → Q (.ref p) H') : xs.length ≤ sizeLine ∧ ∀ p, H p = none → Q (.ref p) (upd H p (.tup xs)) :=
  ⟨hz, fun p n => k p _ (same_upd n) n upd_same (dt_newT hS n h)⟩
theorem d_cat {S : List Addr} {H : Hp} {v w : V} {ds es : List PyData} {Q : VK} (hS : Has S H) (hv : Dt (rs S H) v (.list ds)) (hw : Dt (rs S H) w (.list es)) (hz : ds.length + es.length ≤ sizeLine) (k : ∀ p H', Same H H' → H p = none → Dt (rs S H') (.ref p) (.list (ds ++ es)) → Q (.ref p) H') : rCat v w H Q := by
  obtain ⟨a, xs, rfl, ha, hx⟩ := hv.listE
  obtain ⟨b, ys, rfl, hb, hy⟩ := hw.listE
  exact ⟨a, b, xs, ys, rfl, rfl, (rs_some ha).2, (rs_some hb).2, by rw [hx.len, hy.len]; exact hz, fun p n => k p _ (same_upd n) n (dt_new hS n (hx.app hy))⟩
theorem d_eq {K : PySem.W.Frag} {H : Hp} {v w : V} {d e : PyData} {Q : VK} (hv : Dt H v d) (hw : Dt H w e) (sd : SeqAt.shaped d = true) (se : SeqAt.shaped e = true) (q : Q (.bl (PyData.eqv d e)) H) : rEqD K v w H Q := ⟨d, e, hv.dp, hw.dp, sd, se, q⟩
theorem d_ne {K : PySem.W.Frag} {H : Hp} {v w : V} {d e : PyData} {Q : VK} (hv : Dt H v d) (hw : Dt H w e) (sd : SeqAt.shaped d = true) (se : SeqAt.shaped e = true) (q : Q (.bl (!PyData.eqv d e)) H) : rNeD K v w H Q := ⟨d, e, hv.dp, hw.dp, sd, se, q⟩
/-! ### comprehensions -/
/-- what comes of an item: nothing, or data -/
def Out (S : List Addr) (H : Hp) : Option PyData → Option V → Prop
  | some d, some v => Dt (rs S H) v d
  | none, none => True
  | _, _ => False
def accP (S : List Addr) (H1 : Hp) (D : Addr) (ds : List PyData) (H : Hp) : Prop := Same H1 H ∧ ∃ ys, H D = some (.lst ys) ∧ DtA (rs (D :: S) H) ys ds
theorem acc_step {S : List Addr} {H1 : Hp} {D : Addr} {sel : List (Option PyData)} {i : Nat} {o : Option PyData} {H H4 : Hp} (nD : H1 D = none) (ho : sel[i]? = some o) (hz : sel.length < sizeLine) (h : accP S H1 D ((sel.take i).filterMap id) H) (s4 : Same H H4) :
    ∀ y : Option V, Out (D :: S) H4 o y → match y with
      | some v => ∃ acc, H4 D = some (.lst acc) ∧ acc.length < sizeLine ∧ accP S H1 D ((sel.take (i + 1)).filterMap id) (upd H4 D (.lst (acc ++ [v])))
      | none => accP S H1 D ((sel.take (i + 1)).filterMap id) H4 := by
  obtain ⟨s, ys, hD, hy⟩ := h
  intro y hO
  rw [take_fm ho]
  cases o with
  | none =>
    cases y with
    | none => exact ⟨s.trans s4, ys, s4 _ _ hD, by simpa using hy.same (rs_same s4)⟩
    | some v => exact absurd hO (fun z => z)
  | some d =>
    cases y with
    | none => exact absurd hO (fun z => z)
    | some v =>
      refine ⟨ys, s4 _ _ hD, ?_, same_over nD (s.trans s4), ys ++ [v], upd_same, ?_⟩
      · rw [hy.len]
        exact Nat.lt_of_le_of_lt (fm_len sel i) hz
      · rw [rs_upd List.mem_cons_self]
        exact (hy.same (rs_same s4)).app (.cons hO .nil)
theorem acc_end {S : List Addr} {H1 : Hp} {D : Addr} {ds : List PyData} {H : Hp} (hS : Has S H1) (nD : H1 D = none) (h : accP S H1 D ds H) : Dt (rs S H) (.ref D) (.list ds) := by
  obtain ⟨s, ys, hD, hy⟩ := h
  exact .lst (by rw [rs_out (hS.out nD)]; exact hD) (hy.same over)
theorem lc_dR {lo : Int} {n : Nat} {j : Nat} {tt : TT} {te : TE} {vs : List Nat} {σ : L2.St} {H1 : Hp} {D : Addr} {Qd : Hp → Prop} {S : List Addr} (hS : Has S H1) (sel : List (Option PyData)) (nD : H1 D = none) (hlen : sel.length = n) (hz : n < sizeLine)
    (hw : ∀ x, wipe ((wipe σ vs).set j (some x)) vs = wipe σ vs)
    (hs : ∀ (i : Nat) (o : Option PyData) (H' : Hp), i < n → sel[i]? = some o → Same H1 H' → Has (D :: S) H' → ∀ Qt : Option V → Hp → Prop, (∀ y H'', Same H' H'' → Out (D :: S) H'' o y → Qt y H'') →
      tt ((wipe σ vs).set j (some (.int (lo + (i : Int))))) H' fun b H3 => if b = true then te ((wipe σ vs).set j (some (.int (lo + (i : Int))))) H3 fun y H4 => Qt (some y) H4 else Qt none H3)
    (hd : ∀ H', Same H1 H' → H' D ≠ none → Dt (rs S H') (.ref D) (.list (sel.filterMap id)) → Qd H') :
    ∃ W : Nat → Nat → Hp → Prop, (∃ m, W 0 m (upd H1 D (.lst []))) ∧ ∀ i m H, W i m H →
      ((Itr lo n).stop i H ∧ Qd H) ∨ ((Itr lo n).go i H ∧ ∃ Nx : Hp → Prop, (∀ H', Nx H' → ∃ m', m' < m ∧ W (i + 1) m' H') ∧ ∀ x H', (Itr lo n).yld i H x H' → gName j x (wipe σ vs) H' fun σ2 H2 => wipe σ2 vs = wipe σ vs ∧ tt σ2 H2 fun b H3 =>
        if b = true then te σ2 H3 fun y H4 => ∃ acc, H4 D = some (.lst acc) ∧ acc.length < sizeLine ∧ Nx (upd H4 D (.lst (acc ++ [y]))) else Nx H3) := by
  refine lc_range (lo := lo) (n := n) (fun i H => accP S H1 D ((sel.take i).filterMap id) H) ⟨same_upd nD, [], upd_same, .nil⟩ ?_ ?_
  · rintro i H hi h
    refine ⟨hw _, ?_⟩
    have ho : sel[i]? = some (sel[i]'(by omega)) := List.getElem?_eq_getElem (by omega)
    obtain ⟨s, ys, hD, hy⟩ := id h
    exact hs i _ H hi ho s ((hS.same s).cons hD) (fun o H4 => match o with
      | some y => ∃ acc, H4 D = some (.lst acc) ∧ acc.length < sizeLine ∧ accP S H1 D ((sel.take (i + 1)).filterMap id) (upd H4 D (.lst (acc ++ [y])))
      | none => accP S H1 D ((sel.take (i + 1)).filterMap id) H4) fun y H4 s4 hO => acc_step nD ho (by omega) h s4 y hO
  · rintro H h
    rw [← hlen, List.take_length] at h
    refine hd H h.1 ?_ (acc_end hS nD h)
    obtain ⟨_, ys, hD, _⟩ := h
    rw [hD]
    exact fun z => nomatch z
theorem lc_dL {K : PySem.W.Frag} {a : Addr} {xs : List V} {j : Nat} {tt : TT} {te : TE} {vs : List Nat} {σ : L2.St} {H1 : Hp} {D : Addr} {Qd : Hp → Prop} {S : List Addr} (hS : Has S H1) (sel : List (Option PyData)) (nD : H1 D = none) (hA : SqL K H1 a xs) (hlen : sel.length = xs.length) (hz : xs.length < sizeLine)
    (hw : ∀ x, wipe ((wipe σ vs).set j (some x)) vs = wipe σ vs)
    (hs : ∀ (i : Nat) (x : V) (o : Option PyData) (H' : Hp), xs[i]? = some x → sel[i]? = some o → Same H1 H' → Has (D :: S) H' → ∀ Qt : Option V → Hp → Prop, (∀ y H'', Same H' H'' → Out (D :: S) H'' o y → Qt y H'') →
      tt ((wipe σ vs).set j (some x)) H' fun b H3 => if b = true then te ((wipe σ vs).set j (some x)) H3 fun y H4 => Qt (some y) H4 else Qt none H3)
    (hd : ∀ H', Same H1 H' → H' D ≠ none → Dt (rs S H') (.ref D) (.list (sel.filterMap id)) → Qd H') :
    ∃ W : Nat → Nat → Hp → Prop, (∃ m, W 0 m (upd H1 D (.lst []))) ∧ ∀ i m H, W i m H →
      ((Itl K a).stop i H ∧ Qd H) ∨ ((Itl K a).go i H ∧ ∃ Nx : Hp → Prop, (∀ H', Nx H' → ∃ m', m' < m ∧ W (i + 1) m' H') ∧ ∀ x H', (Itl K a).yld i H x H' → gName j x (wipe σ vs) H' fun σ2 H2 => wipe σ2 vs = wipe σ vs ∧ tt σ2 H2 fun b H3 =>
        if b = true then te σ2 H3 fun y H4 => ∃ acc, H4 D = some (.lst acc) ∧ acc.length < sizeLine ∧ Nx (upd H4 D (.lst (acc ++ [y]))) else Nx H3) := by
  refine lc_list (K := K) (a := a) (xs := xs) (fun i H => accP S H1 D ((sel.take i).filterMap id) H) ⟨same_upd nD, [], upd_same, .nil⟩ (fun i H _ p => p.1.seq hA) ?_ ?_
  · rintro i x H hx h
    refine ⟨hw _, ?_⟩
    have hi := (List.getElem?_eq_some_iff.mp hx).1
    have ho : sel[i]? = some (sel[i]'(by omega)) := List.getElem?_eq_getElem (by omega)
    obtain ⟨s, ys, hD, hy⟩ := id h
    exact hs i x _ H hx ho s ((hS.same s).cons hD) (fun o H4 => match o with
      | some y => ∃ acc, H4 D = some (.lst acc) ∧ acc.length < sizeLine ∧ accP S H1 D ((sel.take (i + 1)).filterMap id) (upd H4 D (.lst (acc ++ [y])))
      | none => accP S H1 D ((sel.take (i + 1)).filterMap id) H4) fun y H4 s4 hO => acc_step nD ho (by omega) h s4 y hO
  · rintro H h
    rw [← hlen, List.take_length] at h
    refine hd H h.1 ?_ (acc_end hS nD h)
    obtain ⟨_, ys, hD, _⟩ := h
    rw [hD]
    exact fun z => nomatch z
/-- maps: each item's data -/
theorem sel_map {α : Type} (l : List α) (f : α → PyData) : (l.map fun x => some (f x)).filterMap id = l.map f := by
  induction l with
  | nil => rfl
  | cons x l ih =>
    show f x :: (l.map fun x => some (f x)).filterMap id = _
    rw [ih]
    rfl
/-- over any walk -/
theorem lc_dW {J : It} {n : Nat} {G : Hp → Prop} {Y : Nat → Hp → V → Hp → Prop} (w : Walk J n G Y) {g : TG} {tt : TT} {te : TE} {vs : List Nat} {σ : L2.St} {H1 : Hp} {D : Addr} {Qd : Hp → Prop} {S : List Addr} (hS : Has S H1) (sel : List (Option PyData)) (nD : H1 D = none) (hlen : sel.length = n) (hz : n < sizeLine)
    (hG : ∀ H', Same H1 H' → G H')
    (hs : ∀ (i : Nat) (o : Option PyData) (H0 : Hp) (x : V) (H' : Hp), i < n → sel[i]? = some o → Same H1 H0 → Has (D :: S) H0 → Y i H0 x H' → ∀ Qt : Option V → Hp → Prop, (∀ y H'', Same H0 H'' → Out (D :: S) H'' o y → Qt y H'') →
      g x (wipe σ vs) H' fun σ2 H2 => wipe σ2 vs = wipe σ vs ∧ tt σ2 H2 fun b H3 => if b = true then te σ2 H3 fun y H4 => Qt (some y) H4 else Qt none H3)
    (hd : ∀ H', Same H1 H' → H' D ≠ none → Dt (rs S H') (.ref D) (.list (sel.filterMap id)) → Qd H') :
    ∃ W : Nat → Nat → Hp → Prop, (∃ m, W 0 m (upd H1 D (.lst []))) ∧ ∀ i m H, W i m H →
      (J.stop i H ∧ Qd H) ∨ (J.go i H ∧ ∃ Nx : Hp → Prop, (∀ H', Nx H' → ∃ m', m' < m ∧ W (i + 1) m' H') ∧ ∀ x H', J.yld i H x H' → g x (wipe σ vs) H' fun σ2 H2 => wipe σ2 vs = wipe σ vs ∧ tt σ2 H2 fun b H3 =>
        if b = true then te σ2 H3 fun y H4 => ∃ acc, H4 D = some (.lst acc) ∧ acc.length < sizeLine ∧ Nx (upd H4 D (.lst (acc ++ [y]))) else Nx H3) := by
  refine lc_it w (fun i H => accP S H1 D ((sel.take i).filterMap id) H) ⟨same_upd nD, [], upd_same, .nil⟩ (fun i H _ p => hG H p.1) ?_ ?_
  · rintro i x H H' hi h y
    have ho : sel[i]? = some (sel[i]'(by omega)) := List.getElem?_eq_getElem (by omega)
    obtain ⟨s, ys, hD, hy⟩ := id h
    exact hs i _ H x H' hi ho s ((hS.same s).cons hD) y (fun o H4 => match o with
      | some y => ∃ acc, H4 D = some (.lst acc) ∧ acc.length < sizeLine ∧ accP S H1 D ((sel.take (i + 1)).filterMap id) (upd H4 D (.lst (acc ++ [y])))
      | none => accP S H1 D ((sel.take (i + 1)).filterMap id) H4) fun y H4 s4 hO => acc_step nD ho (by omega) h s4 y hO
  · rintro H h
    rw [← hlen, List.take_length] at h
    refine hd H h.1 ?_ (acc_end hS nD h)
    obtain ⟨_, ys, hD, _⟩ := h
    rw [hD]
    exact fun z => nomatch z
theorem dt_pairs {K : PySem.W.Frag} {H : Hp} {a : Addr} {ps : List (Int × Int)} (h : Dt H (.ref a) (.list (ps.map pairD))) : PairsAt K H a ps := by
  cases h with
  | lst ha hx =>
    rename_i xs
    have key : ∀ (ps : List (Int × Int)) (xs : List V), DtA H xs (ps.map pairD) → ∃ as : List Addr, xs = as.map V.ref ∧ as.length = ps.length ∧ ∀ (i : Nat) (t : Addr) (p : Int × Int), as[i]? = some t → ps[i]? = some p → SqT K H t [.int p.1, .int p.2] := fun ps => by
      induction ps with
      | nil => intro xs h; cases h; exact ⟨[], rfl, rfl, fun i t p ht => by simp at ht⟩
      | cons p ps ih =>
        intro xs h
        cases h with
        | cons b c =>
          obtain ⟨as, rfl, hl, k⟩ := ih _ c
          obtain ⟨t, ys, rfl, ht, hy⟩ := (show Dt H _ (.tuple [.int p.1, .int p.2]) from b).tupE
          rw [DtA.intsE (ns := [p.1, p.2]) hy] at ht
          refine ⟨t :: as, rfl, by rw [List.length_cons, List.length_cons, hl], fun i u q hu hq => ?_⟩
          cases i with
          | zero =>
            rw [List.getElem?_cons_zero] at hu hq
            cases hu
            cases hq
            exact .inl (.inl ht)
          | succ i =>
            rw [List.getElem?_cons_succ] at hu hq
            exact k i u q hu hq
    obtain ⟨as, rfl, hl, k⟩ := key ps xs hx
    exact ⟨as, .inl (.inl ha), hl, k⟩
end My

namespace My
open PySem PySem.Spec PyProof.Rows PySem.W L2 Pre
/-! ### sorted, of rows of whole numbers -/
def rowDt (r : List Int) : PyData := .list (r.map PyData.int)
def rSortedR (K : PySem.W.Frag) : List V → Hp → VK → Prop := fun vs H Q => ∃ (a : Addr) (ps : List (V × List Int)), vs = [V.ref a] ∧ SqL K H a (ps.map Prod.fst) ∧ (∀ q ∈ ps, Dp K H q.1 (rowDt q.2)) ∧ ∀ (qs : List (V × List Int)) (p : Addr), qs.Perm ps → qs.Pairwise (fun x y => x.2 ≤ y.2) → H p = none → Q (.ref p) (upd H p (.lst (qs.map Prod.fst)))
theorem row_depth (r : List Int) : (rowDt r).depth ≤ 2 := by
  show (PyData.list (r.map .int)).depth ≤ 2
  rw [PyData.depth, Pre.depth_ints]
  omega
theorem rows_each {X : Cx} {pins : List (Addr × Obj)} {σ : L2.St} {H : Hp} {s : Shared} (I : Inv X pins σ H s) : ∀ {ps : List (V × List Int)} {us : List Value}, Vals (ps.map Prod.fst) us → (∀ q ∈ ps, Dp X.K H q.1 (rowDt q.2)) →
    EachIs (fun u q => RelV q.1 u) us ps ∧ EachIs (fun u q => ∃ as, Reads s.heap u (rowDt (Prod.snd q)) as) us ps
  | [], _, r, _ => by
    cases r
    exact ⟨.nil, .nil⟩
  | q :: ps, _, r, h => by
    rw [List.map_cons] at r
    cases r with
    | cons r1 r2 =>
      have ih := rows_each I r2 fun z hz => h z (List.mem_cons_of_mem _ hz)
      exact ⟨.cons r1 ih.1, .cons (Dp.reads I _ _ _ (h q List.mem_cons_self) r1) ih.2⟩
theorem each_vals : ∀ {us : List Value} {ps : List (V × List Int)}, EachIs (fun u q => RelV q.1 u) us ps → Vals (ps.map Prod.fst) us
  | _, _, .nil => .nil
  | _, _, .cons h t => by rw [List.map_cons]; exact .cons h (each_vals t)
theorem k_sortedR {X : Cx} (K : PySem.W.Frag) (h : X.K = K) (hu : X.A.units + 65 < cLine) : CallR X (.builtin "sorted") (rSortedR K) := by
  subst h
  intro pins s σ H vs us Q I r h
  obtain ⟨a, ps, rfl, hs, hp, q⟩ := h
  obtain ⟨its, rv, hl, hz⟩ := I.list hs
  rw [Vals.ref1 r]
  obtain ⟨e1, e2⟩ := rows_each I rv hp
  refine sorted_data (enc := fun q : V × List Int => rowDt q.2) hl.isList e1 e2 (AllAlike.of fun x y => by simp [rowDt, alike, W.alike_ints]) (Sortable.others fun x => ⟨by simp [rowDt], by simp [rowDt]⟩) (by rw [List.length_map] at hz; exact hz) (fun b _ => by have := row_depth b.2; show _ + _ + (rowDt b.2).depth < _; omega) fun out h1 h2 => ?_
  have le : (dataLe false fun q : V × List Int => rowDt q.2) = fun p q => decide (p.2 ≤ q.2) := dataLe_rows (fun q : V × List Int => q.2)
  rw [le] at h2
  have hperm := List.mergeSort_perm ps fun p q : V × List Int => decide (p.2 ≤ q.2)
  have hpw := List.pairwise_mergeSort (le := fun p q : V × List Int => decide (p.2 ≤ q.2)) (fun a b c h1 h2 => decide_eq_true (List.le_trans (of_decide_eq_true h1) (of_decide_eq_true h2))) (fun a b => by
    rw [Bool.or_eq_true, decide_eq_true_eq, decide_eq_true_eq]
    exact List.le_total _ _) ps
  obtain ⟨ep, at_⟩ := sortedAll_at s.heap its out.toArray
  refine ⟨.ref _, upd H (s.heap.objs.size + 1) (.lst ((ps.mergeSort fun p q : V × List Int => decide (p.2 ≤ q.2)).map Prod.fst)), I.laid (t' := s.toks) (fun _ _ => sortedAll_old) (Nat.le_succ _) ⟨?_, out.toArray.toList, ep, by simpa using each_vals h2, at_⟩, rfl, q _ _ hperm (hpw.imp fun h => of_decide_eq_true h) (I.hok.fresh (Nat.le_succ _))⟩
  rw [List.length_map, hperm.length_eq]
  rw [List.length_map] at hz
  exact hz
end My

namespace My
open PySem PySem.Spec PyProof.Rows PySem.W L2 Pre
/-! ### sorted, > of tuples of whole numbers; an item of a list or of a tuple -/
def prL (r : Int × Int) : List Int := [r.1, r.2]
def tupDt (r : Int × Int) : PyData := .tuple ((prL r).map PyData.int)
def rSortedU (K : PySem.W.Frag) : List V → Hp → VK → Prop := fun vs H Q => ∃ (a : Addr) (ps : List (V × (Int × Int))), vs = [V.ref a] ∧ SqL K H a (ps.map Prod.fst) ∧ (∀ q ∈ ps, Dp K H q.1 (tupDt q.2)) ∧ ∀ (qs : List (V × (Int × Int))) (p : Addr), qs.Perm ps → qs.Pairwise (fun x y => prL x.2 ≤ prL y.2) → H p = none → Q (.ref p) (upd H p (.lst (qs.map Prod.fst)))
theorem tup_depth (r : Int × Int) : (tupDt r).depth ≤ 2 := by
  show (PyData.tuple ((prL r).map .int)).depth ≤ 2
  rw [PyData.depth, Pre.depth_ints]
  omega
theorem tups_each {X : Cx} {pins : List (Addr × Obj)} {σ : L2.St} {H : Hp} {s : Shared} (I : Inv X pins σ H s) : ∀ {ps : List (V × (Int × Int))} {us : List Value}, Vals (ps.map Prod.fst) us → (∀ q ∈ ps, Dp X.K H q.1 (tupDt q.2)) →
    EachIs (fun u q => RelV q.1 u) us ps ∧ EachIs (fun u q => ∃ as, Reads s.heap u (tupDt (Prod.snd q)) as) us ps
  | [], _, r, _ => by
    cases r
    exact ⟨.nil, .nil⟩
  | q :: ps, _, r, h => by
    rw [List.map_cons] at r
    cases r with
    | cons r1 r2 =>
      have ih := tups_each I r2 fun z hz => h z (List.mem_cons_of_mem _ hz)
      exact ⟨.cons r1 ih.1, .cons (Dp.reads I _ _ _ (h q List.mem_cons_self) r1) ih.2⟩
theorem each_uvals : ∀ {us : List Value} {ps : List (V × (Int × Int))}, EachIs (fun u q => RelV q.1 u) us ps → Vals (ps.map Prod.fst) us
  | _, _, .nil => .nil
  | _, _, .cons h t => by rw [List.map_cons]; exact .cons h (each_uvals t)
theorem dataLt_tup (xs ys : List Int) : dataLt (.tuple (xs.map PyData.int)) (.tuple (ys.map PyData.int)) = decide (xs < ys) := by
  have e : dataLt (.tuple (xs.map PyData.int)) (.tuple (ys.map PyData.int)) = dataLt (.list (xs.map PyData.int)) (.list (ys.map PyData.int)) := rfl
  rw [e, dataLt_list]
  exact dataLt_ints xs ys
theorem dataLe_tups {β : Type} (x : β → Int × Int) : (dataLe false fun b => tupDt (x b)) = fun p q => decide (prL (x p) ≤ prL (x q)) := by
  have e : (dataLe false fun b => tupDt (x b)) = dataLe false fun b => PyData.list ((prL (x b)).map PyData.int) := rfl
  rw [e]
  exact dataLe_rows fun b => prL (x b)
theorem k_sortedU {X : Cx} (K : PySem.W.Frag) (h : X.K = K) (hu : X.A.units + 65 < cLine) : CallR X (.builtin "sorted") (rSortedU K) := by
  subst h
  intro pins s σ H vs us Q I r h
  obtain ⟨a, ps, rfl, hs, hp, q⟩ := h
  obtain ⟨its, rv, hl, hz⟩ := I.list hs
  rw [Vals.ref1 r]
  obtain ⟨e1, e2⟩ := tups_each I rv hp
  refine sorted_data (enc := fun q : V × (Int × Int) => tupDt q.2) hl.isList e1 e2 (AllAlike.of fun x y => by simp only [tupDt, alike]; exact W.alike_ints _ _) (Sortable.tuples fun x => ⟨_, _, rfl⟩) (by rw [List.length_map] at hz; exact hz) (fun b _ => by have := tup_depth b.2; show _ + _ + (tupDt b.2).depth < _; omega) fun out h1 h2 => ?_
  have le : (dataLe false fun q : V × (Int × Int) => tupDt q.2) = fun p q => decide (prL p.2 ≤ prL q.2) := dataLe_tups (fun q : V × (Int × Int) => q.2)
  rw [le] at h2
  have hperm := List.mergeSort_perm ps fun p q : V × (Int × Int) => decide (prL p.2 ≤ prL q.2)
  have hpw := List.pairwise_mergeSort (le := fun p q : V × (Int × Int) => decide (prL p.2 ≤ prL q.2)) (fun a b c h1 h2 => decide_eq_true (List.le_trans (of_decide_eq_true h1) (of_decide_eq_true h2))) (fun a b => by
    rw [Bool.or_eq_true, decide_eq_true_eq, decide_eq_true_eq]
    exact List.le_total _ _) ps
  obtain ⟨ep, at_⟩ := sortedAll_at s.heap its out.toArray
  refine ⟨.ref _, upd H (s.heap.objs.size + 1) (.lst ((ps.mergeSort fun p q : V × (Int × Int) => decide (prL p.2 ≤ prL q.2)).map Prod.fst)), I.laid (t' := s.toks) (fun _ _ => sortedAll_old) (Nat.le_succ _) ⟨?_, out.toArray.toList, ep, by simpa using each_uvals h2, at_⟩, rfl, q _ _ hperm (hpw.imp fun h => of_decide_eq_true h) (I.hok.fresh (Nat.le_succ _))⟩
  rw [List.length_map, hperm.length_eq]
  rw [List.length_map] at hz
  exact hz
def rGtU (K : PySem.W.Frag) : R2 := fun x y H Q => ∃ ns ms : List Int, Dp K H x (.tuple (ns.map PyData.int)) ∧ Dp K H y (.tuple (ms.map PyData.int)) ∧ Q (.bl (decide (ms < ns))) H
theorem op_gtU {X : Cx} (hu : X.A.units + 64 < cLine) : OpR X (compareOp .Gt) (rGtU X.K) := by
  intro pins s σ H x y v u Q I rx ry h
  obtain ⟨ns, ms, hd, he, q⟩ := h
  obtain ⟨as, r1⟩ := Dp.reads I _ x v hd rx
  obtain ⟨bs, r2⟩ := Dp.reads I _ y u he ry
  have d1 : (PyData.tuple (ns.map PyData.int)).depth ≤ 2 := by
    rw [PyData.depth, Pre.depth_ints]
    omega
  refine gt_data r1 r2 (by simp [alike, W.alike_ints]) (by simp) (by omega) ?_
  rw [dataLt_tup]
  exact ⟨.bl _, H, I, rfl, q⟩
theorem k_gtU {X : Cx} (K : PySem.W.Frag) (h : X.K = K) (hu : X.A.units + 64 < cLine) : OpR X (compareOp .Gt) (rGtU K) := by subst h; exact op_gtU hu
def rIxB (K : PySem.W.Frag) : R2 := fun x y H Q => rIxL K x y H Q ∨ rIxT K x y H Q
theorem k_ixB {X : Cx} (K : PySem.W.Frag) (h : X.K = K) : IxR X (rIxB K) := by
  intro value slice pins s σ H x y v u Q I rx ry h2 hs
  rcases h2 with h2 | h2
  · exact k_ixL K h value slice pins s σ H x y v u Q I rx ry h2 hs
  · exact k_ixT K h value slice pins s σ H x y v u Q I rx ry h2 hs
end My

namespace My
open PySem PySem.Spec PyProof.Rows L2 Pre
open Sem (wp)
/-! ### zip(xs, ys, strict=True) of lists and tuples of one length -/
/-- a strict zip object -/
abbrev SZip (h : Heap) (z TI TO : Addr) (f0 : Value) : Prop :=
  h.get? z = some { cls := .type "zip", dict := none, data := .fields #[f0, .bool false, .bool true, .ref TI, .ref TO], slots := #[] }
section
variable {prog : Program} {w : World} {A : Around} {E : Value → Shared → Prop} {s : Shared}
theorem draw_some {it : Addr} {fp : List Addr} {n i : Nat} {Pd : Nat → Value → Prop} {St : Nat → Heap → Prop} {Q : Option Value → Shared → Prop} (Dr : Draws prog w A it fp n Pd St) (lt : i < n) (st : St i s.heap)
    (go : ∀ x g' tk, Pd i x → St (i + 1) g' → Heap.SameBut it s.heap g' → Q (some x) { s with heap := g', toks := tk }) : wpAny (model prog w) A (Builtin.SmallTypes.nextOrEnd (.ref it)) Q E s := by
  unfold Builtin.SmallTypes.nextOrEnd
  exact wpAny_bind (wpAny_attempt (Dr.item i _ _ _ lt st fun x g' tk px st' sb => wpAny_pure (go x g' tk px st' sb)))
theorem draw_none {it : Addr} {fp : List Addr} {n : Nat} {Pd : Nat → Value → Prop} {St : Nat → Heap → Prop} {Q : Option Value → Shared → Prop} (Dr : Draws prog w A it fp n Pd St) (st : St n s.heap)
    (go : ∀ g', Heap.ExtBut it s.heap g' → Q none { s with heap := g' }) : wpAny (model prog w) A (Builtin.SmallTypes.nextOrEnd (.ref it)) Q E s := by
  unfold Builtin.SmallTypes.nextOrEnd
  refine wpAny_bind (wpAny_attempt (Dr.done _ _ _ st fun g' e ext he => ?_))
  obtain ⟨o, ho, hc⟩ := he
  exact wpAny_bind (wpAny_isInstance (T := "StopIteration") (b := true) ⟨o, ho, hc⟩ isSubtype_stop (wpAny_pure (go g' ext)))
theorem stop_raised {α : Type} {Q : α → Shared → Prop} (hh : A.handled = none) (go : ∀ g' e, (∀ c o, s.heap.get? c = some o → g'.get? c = some o) → (∃ o, g'.get? e = some o ∧ o.cls = .type "StopIteration") → E (.ref e) { s with heap := g' }) :
    wpAny (model prog w) A (Builtin.SmallTypes.stopIteration (α := α)) Q E s := by
  (show wpAny _ _ (newExc (.type "StopIteration") [] >>= _) _ _ _); refine wpAny_bind ?_; simp only [newExc, newTuple]
  refine wpAny_bind (wpAny_newObj_type (wpAny_bind (m := firstArgMember _ _) (wpAny_of_eq (a := Value.none) (by first | rfl | (simp only [firstArgMember]; rfl)) (wpAny_newObj_type ?_ (by size_fits)))) (by size_fits))
  simp only [raiseNew]; refine wpAny_bind (wpAny_handled ?_); rw [hh]; refine wpAny_bind (wpAny_pure (wpAny_throw ?_))
  exact go _ _ (fun c o e => Heap.get?_push_of_some _ (Heap.get?_push_of_some _ e)) ⟨_, Heap.get?_push_size _ rfl, rfl⟩
theorem zs_next (hh : A.handled = none) {z TI TO i1 i2 : Addr} {fp1 fp2 : List Addr} {n i : Nat} {Pa Pb : Nat → Value → Prop} {Sa Sb : Nat → Heap → Prop} {a b : Value} {Q : Value → Shared → Prop} (S : ZipSep2 z TI TO i1 i2 fp1 fp2)
    (Da : Draws prog w A i1 fp1 n Pa Sa) (Db : Draws prog w A i2 fp2 n Pb Sb) (hz : SZip s.heap z TI TO .none) (hI : IsTupOf2 s.heap TI (.ref i1) (.ref i2)) (hO : IsTupOf2 s.heap TO a b) (sa : Sa i s.heap) (sb : Sb i s.heap) (le : i ≤ n)
    (goes : i < n → ∀ x y g' tk, Pa i x → Pb i y → SZip g' z TI TO (rawInt s.heap.objs.size) → IsTupOf2 g' TO x y → Sa (i + 1) g' → Sb (i + 1) g' → IsTupOf2 g' s.heap.objs.size x y → g'.objs.size = s.heap.objs.size + 1 →
      (∀ c o, c ≠ z → c ≠ TO → c ≠ i1 → c ≠ i2 → s.heap.get? c = some o → g'.get? c = some o) → Q (.ref s.heap.objs.size) { s with heap := g', toks := tk })
    (ends : i = n → ∀ g' tk e, (∀ c o, c ≠ z → c ≠ TO → c ≠ i1 → c ≠ i2 → s.heap.get? c = some o → g'.get? c = some o) → (∃ o, g'.get? e = some o ∧ o.cls = .type "StopIteration") → E (.ref e) { s with heap := g', toks := tk }) :
    wpAny (model prog w) A (Builtin.«zip.__next__» ⟨[.ref z], []⟩) (fun fin s' => ∃ v, fin = .done (.ret v) ∧ Q v s') E s := by
  obtain ⟨hp, gs, dr, tk0, os⟩ := s
  (show wpAny _ _ (field (.ref z) 2 >>= _) _ _ _); refine wpAny_bind (wpAny_field hz rfl (x := .bool true) rfl ?_)
  (show wpAny _ _ (field (.ref z) 3 >>= _) _ _ _); refine wpAny_bind (wpAny_field hz rfl (x := .ref TI) rfl (wpAny_bind (wpAny_seqItems hI rfl ?_)))
  (show wpAny _ _ (Builtin.SmallTypes.ownedTupleIsFree (.ref z) >>= _) _ _ _); refine wpAny_bind ?_; unfold Builtin.SmallTypes.ownedTupleIsFree
  refine wpAny_bind (wpAny_field hz rfl (x := .none) rfl (wpAny_pure ?_)); simp only [if_true]; refine wpAny_bind (wpAny_rule (wpAny_bind (wpAny_field hz rfl (x := .ref TO) rfl ?_)))
  refine wpAny_bind (wpAny_setField_rec hz (by simp) fun g0 hz0 k0 => ?_)
  replace hz0 : SZip g0 z TI TO .ellipsis := hz0; replace k0 : Heap.SameBut z hp g0 := k0
  refine wpAny_bind ?_; simp only [List.zipIdx_cons, List.zipIdx_nil, List.forIn_cons, List.forIn_nil]; refine wpAny_bind (wpAny_bind (wpAny_onRaise ?_))
  (show wpAny _ _ (Builtin.SmallTypes.nextOrEnd (.ref i1)) _ _ ⟨g0, gs, dr, tk0, os⟩)
  rcases Nat.lt_or_ge i n with lt | ge
  · refine draw_some Da lt (Da.over sa k0 S.zf1) fun x p1 tk1 hx sn1 k1 => ?_
    have u1 : IsTupOf2 p1 TO a b := k1.extBut _ _ S.Ti1 (k0.extBut _ _ S.TOz hO)
    refine wpAny_bind (wpAny_seqItems (s := ⟨p1, gs, dr, tk1, os⟩) u1 rfl (wpAny_bind (updateSeq_IsTupOf2 (s := ⟨p1, gs, dr, tk1, os⟩) u1 fun g1 t1 m1 => wpAny_bind (wpAny_letGo (wpAny_pure ?_)))))
    replace t1 : IsTupOf2 g1 TO x b := t1; replace m1 : Heap.SameBut TO p1 g1 := m1
    refine wpAny_bind (wpAny_bind (wpAny_onRaise ?_)); (show wpAny _ _ (Builtin.SmallTypes.nextOrEnd (.ref i2)) _ _ ⟨g1, gs, dr, tk1, os⟩)
    refine draw_some Db lt (Db.over (Db.over (Db.over sb k0 S.zf2) k1 S.sep1_2) m1 S.Tf2) fun y p2 tk2 hy sn2 k2 => ?_
    replace k2 : Heap.SameBut i2 g1 p2 := k2
    have u2 : IsTupOf2 p2 TO x b := k2.extBut _ _ S.Ti2 t1
    refine wpAny_bind (wpAny_seqItems (s := ⟨p2, gs, dr, tk2, os⟩) u2 rfl (wpAny_bind (updateSeq_IsTupOf2 (s := ⟨p2, gs, dr, tk2, os⟩) u2 fun g2 t2 m2 => wpAny_bind (wpAny_letGo (wpAny_pure (wpAny_pure ?_))))))
    replace t2 : IsTupOf2 g2 TO x y := t2; replace m2 : Heap.SameBut TO p2 g2 := m2
    refine wpAny_bind (wpAny_seqItems (s := ⟨g2, gs, dr, tk2, os⟩) t2 rfl (wpAny_bind (wpAny_newTuple ?_)))
    have size2 : g2.objs.size = hp.objs.size := by rw [m2.1, k2.1, m1.1, k1.1, k0.1]
    have zz : SZip g2 z TI TO .ellipsis := m2.extBut _ _ S.TOz.symm (k2.extBut _ _ S.zi2 (m1.extBut _ _ S.TOz.symm (k1.extBut _ _ S.zi1 hz0)))
    have stay : ∀ c o, c ≠ z → c ≠ TO → c ≠ i1 → c ≠ i2 → hp.get? c = some o → g2.get? c = some o := fun c o cz cT c1 c2 e => m2.extBut _ _ cT (k2.extBut _ _ c2 (m1.extBut _ _ cT (k1.extBut _ _ c1 (k0.extBut _ _ cz e))))
    have na : Sa (i + 1) g2 := Da.over (Da.over (Da.over sn1 m1 S.Tf1) k2 S.sep2_1) m2 S.Tf1
    have nb : Sb (i + 1) g2 := Db.over sn2 m2 S.Tf2
    have zl : z < g2.objs.size := Heap.lt_size zz
    (show wpAny _ _ (Builtin.SmallTypes.ownedTupleHandOut (.ref z) (.ref g2.objs.size) >>= _) _ _ ⟨g2.push { cls := .type "tuple", data := .seq #[x, y] }, gs, dr, tk2, os⟩); refine wpAny_bind ?_; unfold Builtin.SmallTypes.ownedTupleHandOut
    have z3 : SZip (g2.push { cls := .type "tuple", data := .seq #[x, y] }) z TI TO .ellipsis := Heap.get?_push_of_some _ zz
    refine wpAny_bind (wpAny_setField_rec z3 (by simp) fun g4 z4 k4 => ?_)
    replace z4 : SZip g4 z TI TO (rawInt g2.objs.size) := z4
    refine wpAny_setField_rec z4 (by simp) fun g5 z5 k5 => ?_
    replace z5 : SZip g5 z TI TO (rawInt g2.objs.size) := z5; replace k4 : Heap.SameBut z (g2.push { cls := .type "tuple", data := .seq #[x, y] }) g4 := k4; replace k5 : Heap.SameBut z g4 g5 := k5
    have up5 : ∀ c o, c ≠ z → g2.get? c = some o → g5.get? c = some o := fun c o cz e => k5.extBut _ _ cz (k4.extBut _ _ cz (Heap.get?_push_of_some _ e))
    have t5 : IsTupOf2 g5 g2.objs.size x y := k5.extBut _ _ (Nat.ne_of_gt zl) (k4.extBut _ _ (Nat.ne_of_gt zl) (Heap.get?_push_size _ rfl))
    have size5 : g5.objs.size = g2.objs.size + 1 := by rw [k5.1, k4.1, Heap.size_push]
    rw [size2] at z5 t5 size5
    refine wpAny_pure ⟨_, rfl, ?_⟩; (show Q (.ref g2.objs.size) ⟨g5, gs, dr, tk2, os⟩); rw [size2]
    exact goes lt x y g5 tk2 hx hy z5 (up5 _ _ S.TOz t2) (Da.frame _ _ _ na fun c hc o e => up5 c o (fun q => S.zf1 (q ▸ hc)) e) (Db.frame _ _ _ nb fun c hc o e => up5 c o (fun q => S.zf2 (q ▸ hc)) e) t5 size5 fun c o cz cT c1 c2 e => up5 c o cz (stay c o cz cT c1 c2 e)
  · have ei : i = n := Nat.le_antisymm le ge
    subst ei
    refine draw_none Da (Da.over sa k0 S.zf1) fun g1 x1 => ?_
    replace x1 : Heap.ExtBut i1 g0 g1 := x1
    have z1 : SZip g1 z TI TO .ellipsis := x1 _ _ S.zi1 hz0
    refine wpAny_bind (wpAny_setField_rec (s := ⟨g1, gs, dr, tk0, os⟩) z1 (by simp) fun g2 z2 k2 => ?_)
    replace k2 : Heap.SameBut z g1 g2 := k2
    refine wpAny_bind ?_
    (show wpAny _ _ (forIn _ _ _ >>= _) _ _ ⟨g2, gs, dr, tk0, os⟩)
    simp only [List.drop_succ_cons, List.drop_zero, List.zipIdx_cons, List.zipIdx_nil, List.forIn_cons, List.forIn_nil]
    refine wpAny_bind (wpAny_bind (wpAny_bind (draw_none Db (s := ⟨g2, gs, dr, tk0, os⟩) (Db.frame _ _ _ sb fun c hc o e => ?_) fun g3 x3 => ?_)))
    · have cz : c ≠ z := fun q => S.zf2 (q ▸ hc)
      exact k2.extBut _ _ cz (x1 _ _ (fun q => S.sep1_2 (q ▸ hc)) (k0.extBut _ _ cz e))
    simp only [Option.isSome_none, Bool.false_eq_true, if_false]
    refine wpAny_pure (wpAny_pure (wpAny_bind (wpAny_rule (stop_raised (s := ⟨g3, gs, dr, tk0, os⟩) hh fun g4 e x4 he => ?_))))
    exact ends rfl g4 tk0 e (fun c o cz _ c1 c2 q => x4 _ _ (x3 _ _ c2 (k2.extBut _ _ cz (x1 _ _ c1 (k0.extBut _ _ cz q))))) he
theorem sz_type {z TI TO : Addr} {f0 : Value} (hz : SZip s.heap z TI TO f0) : s.TypeIs (.ref z) "zip" := ⟨_, hz, rfl⟩
theorem zs_pyNext (hh : A.handled = none) {z TI TO i1 i2 : Addr} {fp1 fp2 : List Addr} {n i : Nat} {Pa Pb : Nat → Value → Prop} {Sa Sb : Nat → Heap → Prop} {a b : Value} {Q : Option Value → Shared → Prop} (S : ZipSep2 z TI TO i1 i2 fp1 fp2)
    (Da : Draws prog w A.in1 i1 fp1 n Pa Sa) (Db : Draws prog w A.in1 i2 fp2 n Pb Sb) (hz : SZip s.heap z TI TO .none) (hI : IsTupOf2 s.heap TI (.ref i1) (.ref i2)) (hO : IsTupOf2 s.heap TO a b) (sa : Sa i s.heap) (sb : Sb i s.heap) (le : i ≤ n)
    (goes : i < n → ∀ x y g' tk, Pa i x → Pb i y → SZip g' z TI TO (rawInt s.heap.objs.size) → IsTupOf2 g' TO x y → Sa (i + 1) g' → Sb (i + 1) g' → IsTupOf2 g' s.heap.objs.size x y → g'.objs.size = s.heap.objs.size + 1 →
      (∀ c o, c ≠ z → c ≠ TO → c ≠ i1 → c ≠ i2 → s.heap.get? c = some o → g'.get? c = some o) → Q (some (.ref s.heap.objs.size)) { s with heap := g', toks := tk })
    (ends : i = n → ∀ g' tk, (∀ c o, c ≠ z → c ≠ TO → c ≠ i1 → c ≠ i2 → s.heap.get? c = some o → g'.get? c = some o) → Q none { s with heap := g', toks := tk }) :
    wpAny (model prog w) A (pyNext (.ref z)) Q E s := by
  unfold pyNext
  refine wpAny_bind (wpAny_attempt (wpAny_callSpecial?_slot (name := Str.ofString "__next__") (sz_type hz) F.slot_zip_next (wpAny_call_entry F.slot_zip_next (sz_type hz) F.entry_zip_next (zs_next (A := A.in1) (show A.in1.handled = none from hh) S Da Db hz hI hO sa sb le (fun lt x y g' tk p1 p2 p3 p4 p5 p6 p7 p8 p9 => wpAny_pure (goes lt x y g' tk p1 p2 p3 p4 p5 p6 p7 p8 p9)) fun e1 g' tk e k he => ?_) (F.args_zip_next_1 _))))
  obtain ⟨o, ho, hc⟩ := he
  exact wpAny_bind (wpAny_isInstance (T := "StopIteration") (b := true) ⟨o, ho, hc⟩ isSubtype_stop (wpAny_pure (ends e1 g' tk k)))
theorem zs_go {elts : List Expr} {k1} {pos : Pos} {z TI TO T : Addr} {Q : Unit → Shared → Prop} (hz : SZip s.heap z TI TO (rawInt T)) (go : ∀ g', SZip g' z TI TO .none → Heap.SameBut z s.heap g' → Q () { s with heap := g' }) :
    wpAny (model prog w) A (letOwnedTupleGo (.Tuple elts k1 pos) (.ref z) (.ref T)) Q E s := by
  unfold letOwnedTupleGo
  refine wpAny_bind (wpAny_load hz ?_)
  show wpAny _ _ (if (["enumerate", "zip", "dict_itemiterator", "dict_reverseitemiterator", "odict_iterator", "itertools.zip_longest", "itertools.pairwise"].contains "zip" && (#[rawInt T, .bool false, .bool true, .ref TI, .ref TO] : Array Value)[0]? == some (rawInt T)) = true then _ else _) Q E s
  rw [if_pos (by simp)]; refine wpAny_bind (wpAny_rule ?_); (show wpAny _ _ (setField (.ref z) 0 .none) Q E s)
  exact wpAny_setField_rec hz (by simp) fun g' z' k' => go g' z' k'
theorem zs_iter {z TI TO : Addr} {f0 : Value} {Q : Value → Shared → Prop} (hz : SZip s.heap z TI TO f0) (go : Q (.ref z) s) : wpAny (model prog w) A (pyIter (.ref z)) Q E s := by
  refine wpAny_pyIter_slot (sz_type hz) F.slot_zip_iter (wpAny_call_entry F.slot_zip_iter (sz_type hz) F.entry_zip_iter ?_ (F.args_zip_iter_1 _))
  (show wpAny _ _ (ret (.ref z)) _ _ s); exact wpAny_pure ⟨_, rfl, "zip", _, sz_type hz, F.slot_zip_next.lookup, go⟩
end
end My

namespace My
open PySem PySem.Spec PyProof.Rows L2 Pre
open Sem (wp)
theorem zs_tc (a b : Value) : checkTypeCall "zip" ⟨[a, b], [("strict", .bool true)]⟩ = pure () := by kernel_rfl
theorem zs_nc (a b : Value) : checkBuiltinCall "zip.__new__" ⟨[.type "zip", a, b], [("strict", .bool true)]⟩ = pure () := by kernel_rfl
theorem zs_ao (a b c : Value) : argsOk "object.__init__" ⟨[a, b, c], [("strict", .bool true)]⟩ := by
  unfold argsOk; rw [signature?_of (id := "object.__init__") (n := ['_', '_', 't', 'i', 'n', 'i', '_', '_']) (o := ['t', 'c', 'e', 'j', 'b', 'o']) (by kernel_rfl) PySem.F.owner_object]; kernel_rfl
section
variable {prog : Program} {w : World} {A : Around} {E : Value → Shared → Prop} {s : Shared}
theorem zs_init (v a b : Value) : Meets (Builtin.«object.__init__» ⟨[v, a, b], [("strict", .bool true)]⟩) (fun _ R s => s.TypeIs v "zip" ∧ R (.ok (.ret .none)) s) := by
  refine Meets.of_wp fun prog w A R s hs => ?_
  obtain ⟨hT, hq⟩ := hs; have hl := PySem.F.called_zip.init.lookup; have hm := PySem.F.called_zip.made
  repeat (any_goals (first | assumption | wp_step))
  exact ⟨_, rfl, hq⟩
theorem zs_call {a b : Value} {S : PySem.Spec} {Q : Value → Shared → Prop} (g : Meets (Builtin.«zip.__new__» ⟨[.type "zip", a, b], [("strict", .bool true)]⟩) S) (h : S A.in1 (wants (fun v s' => s'.TypeIs v "zip" ∧ Q v s') E) s) :
    wpAny (model prog w) A (call (.type "zip") [a, b] [("strict", .bool true)]) Q E s := by
  have ft := PySem.F.called_zip
  obtain ⟨c, tl, hmro⟩ := ft.mro
  have hmade := ft.made
  have hsub := ft.sub
  refine wpAny_call (codeAny_of_tree ?_)
  show wpAny _ _ (callAny (.type "zip") _) _ _ _
  refine wpAny_pure ⟨Code.quiet_builtin _ (by decide +kernel), codeAny_builtin PySem.F.entry_type_call ?_⟩
  rw [Around.under_plain (weight_type_call_type "zip" [a, b] [("strict", .bool true)]) (units_type_call_type "zip" [a, b] [("strict", .bool true)])]
  have h1 := ft.notType
  have h2 := ft.canCreate
  have htc := zs_tc a b
  repeat (any_goals (first | assumption | wp_step))
  refine codeAny_mono (codeAny_call_builtin ft.plain PySem.F.entry_zip_new (wpAny_of_eq (zs_nc a b) (g prog w A.in1 _ s h))) fun r s₁ hr => ?_
  cases r with
  | error e => exact hr
  | ok fl =>
    cases fl with
    | ret obj =>
      obtain ⟨hT, hq⟩ := hr
      have hli := ft.init.lookup
      have hbi := ft.init.bind obj
      repeat (any_goals (first | assumption | wp_step))
      refine codeAny_mono (codeAny_call_builtin ft.init.plain PySem.F.entry_object_init (ft.init.check _ _ _ _ _ _ _ _ hT (zs_ao obj a b) (zs_init obj a b prog w A.in1 _ s₁ (show (fun (_ : Around) (R : Except Value Flow → Shared → Prop) (s : Shared) => s.TypeIs obj "zip" ∧ R (.ok (.ret .none)) s) A.in1 (wants (fun r s₂ => r = .none ∧ Q obj s₂) E) s₁ from ⟨hT, rfl, hq⟩)))) fun r₂ s₂ hr₂ => ?_
      cases r₂ with
      | error e => exact hr₂
      | ok fl₂ =>
        cases fl₂ with
        | ret r =>
          obtain ⟨rfl, hq⟩ := hr₂
          repeat (any_goals (first | assumption | wp_step))
        | _ => exact hr₂.elim
    | _ => exact hr.elim
end
abbrev zq1 (h : Heap) (a : Addr) : Heap := h.push { cls := .type "tuple_iterator", data := .fields #[.ref a, .int 0 0] }
abbrev zq2 (h : Heap) (a b : Addr) : Heap := (zq1 h a).push { cls := .type "list_iterator", data := .fields #[.ref b, .int 0 0] }
abbrev zq3 (h : Heap) (a b : Addr) : Heap := (zq2 h a b).push { cls := .type "tuple", data := .seq #[.ref h.objs.size, .ref (zq1 h a).objs.size] }
abbrev zq4 (h : Heap) (a b : Addr) : Heap := (zq3 h a b).push { cls := .type "tuple", data := .seq #[.none, .none] }
abbrev zq5 (h : Heap) (a b : Addr) : Heap := (zq4 h a b).push { cls := .type "zip", data := .fields #[.none, .bool false, .bool true, .ref (zq2 h a b).objs.size, .ref (zq3 h a b).objs.size] }
theorem zs_new (a b : Addr) (xs ys : Array Value) :
    Meets (Builtin.«zip.__new__» ⟨[.type "zip", .ref a, .ref b], [("strict", .bool true)]⟩) (fun _ R s => s.heap.IsTuple a xs ∧ s.heap.IsList b ys ∧
      R (.ok (.ret (.ref (zq4 s.heap a b).objs.size))) { s with heap := zq5 s.heap a b }) :=
  .of_wp fun prog w A R s h => by
    obtain ⟨hp, g, d, tk, os⟩ := s; obtain ⟨ha, hb, h⟩ := h; have hsub := sub_zip
    have hA : Heap.IsTuple (Shared.heap ⟨hp, g, d, tk, os⟩) a xs := ha; have hB : Heap.IsList (Shared.heap ⟨hp.push { cls := .type "tuple_iterator", data := .fields #[.ref a, .int 0 0] }, g, d, tk, os⟩) b ys := Heap.IsList.push hb _
    wp_walk using wpAny_pyIter_tuple hA, wpAny_pyIter_list hB
    exact ⟨_, rfl, h⟩
end My

namespace My
open PySem PySem.Spec PyProof.Rows L2 Pre
open Sem (wp)
section
variable {prog : Program} {w : World} {A : Around} {E : Value → Shared → Prop} {s : Shared}
theorem zs_made {a b : Addr} {xs ys : Array Value} {Q : Value → Shared → Prop} (ha : s.heap.IsTuple a xs) (hb : s.heap.IsList b ys)
    (go : ∀ g', SZip g' (s.heap.objs.size + 4) (s.heap.objs.size + 2) (s.heap.objs.size + 3) .none → IsTupOf2 g' (s.heap.objs.size + 2) (.ref s.heap.objs.size) (.ref (s.heap.objs.size + 1)) → IsTupOf2 g' (s.heap.objs.size + 3) .none .none →
      g'.IsTupleIter s.heap.objs.size a 0 → g'.IsListIter (s.heap.objs.size + 1) b 0 → (∀ c o, s.heap.get? c = some o → g'.get? c = some o) → Q (.ref (s.heap.objs.size + 4)) { s with heap := g' }) :
    wpAny (model prog w) A (call (.type "zip") [.ref a, .ref b] [("strict", .bool true)]) Q E s := by
  refine zs_call (zs_new a b xs ys) ⟨ha, hb, ?_⟩
  have n1 : (zq1 s.heap a).objs.size = s.heap.objs.size + 1 := Heap.size_push ..
  have n2 : (zq2 s.heap a b).objs.size = s.heap.objs.size + 2 := by rw [Heap.size_push, n1]
  have n3 : (zq3 s.heap a b).objs.size = s.heap.objs.size + 3 := by rw [Heap.size_push, n2]
  have n4 : (zq4 s.heap a b).objs.size = s.heap.objs.size + 4 := by rw [Heap.size_push, n3]
  have p : ∀ {h : Heap} {o o' : Obj} {c : Addr}, h.get? c = some o → (h.push o').get? c = some o := fun e => Heap.get?_push_of_some _ e
  have q5 : (zq5 s.heap a b).get? (zq4 s.heap a b).objs.size = some _ := Heap.get?_push_size _ rfl
  have q4 : (zq5 s.heap a b).get? (zq3 s.heap a b).objs.size = some _ := p (Heap.get?_push_size _ rfl)
  have q3 : (zq5 s.heap a b).get? (zq2 s.heap a b).objs.size = some _ := p (p (Heap.get?_push_size _ rfl))
  have q2 : (zq5 s.heap a b).get? (zq1 s.heap a).objs.size = some _ := p (p (p (Heap.get?_push_size _ rfl)))
  have q1 : (zq5 s.heap a b).get? s.heap.objs.size = some _ := p (p (p (p (Heap.get?_push_size _ rfl))))
  show _ ∧ _; rw [n2, n3, n4] at q5; rw [n1, n2] at q3; rw [n3] at q4; rw [n1] at q2; rw [n4]
  exact ⟨⟨_, q5, rfl⟩, go _ q5 q3 q4 ⟨_, q1, rfl, rfl⟩ ⟨_, q2, rfl, rfl⟩ fun c o x => p (p (p (p (p x))))⟩
end
/-- the tuple at a and the list at b, of one length, side by side -/
def ItzS (K : PySem.W.Frag) (a b : Addr) : It :=
  ⟨fun i H => ∃ (xs ys : List V), SqT K H a xs ∧ SqL K H b ys ∧ xs.length = ys.length ∧ i < xs.length,
    fun i H v H' => ∃ T x y, v = .ref T ∧ H T = none ∧ H' = upd H T (.tup [x, y]) ∧ (∀ xs, SqT K H a xs → xs[i]? = some x) ∧ ∀ ys, SqL K H b ys → ys[i]? = some y,
    fun i H => ∃ xs ys : List V, SqT K H a xs ∧ SqL K H b ys ∧ xs.length = i ∧ ys.length = i⟩
theorem turn_zs {P : Program} {w : World} {K : PySem.W.Frag} {elts : List Expr} {kk : Nat} {tpos : Pos} {a b z TI TO i1 i2 : Addr} (D : ZipApart z TI TO i1 i2 a b) :
    Turn P w K (.Tuple elts kk tpos) (ItzS K a b) [z, TI, TO, i1, i2] z (fun i h => SZip h z TI TO .none ∧ IsTupOf2 h TI (.ref i1) (.ref i2) ∧ (∃ x y, IsTupOf2 h TO x y) ∧ h.IsTupleIter i1 a i ∧ h.IsListIter i2 b i) := by
  have Sp : ZipSep2 z TI TO i1 i2 [i1, a] [i2, b] := ⟨D.TIz, D.TOz, D.TITO, D.TIi1, by simp, by simp [D.i1z.symm, D.l1z.symm], by simp [D.TOi1, D.l1TO.symm], D.TIi2, by simp, by simp [D.i2z.symm, D.l2z.symm], by simp [D.TOi2, D.l2TO.symm], by simp [D.i12, D.l2i1.symm], by simp [D.i12.symm, D.l1i2.symm]⟩
  refine ⟨by simp, fun i h st c hc => ?_, fun i h h' st k => ?_, ?_, ?_, fun A i s Q E st h => zs_iter st.1 h⟩
  · obtain ⟨hz, hTI, ⟨x, y, hTO⟩, ⟨o1, e1, _, d1⟩, ⟨o2, e2, _, d2⟩⟩ := st
    have e' : c = z ∨ c = TI ∨ c = TO ∨ c = i1 ∨ c = i2 := by simpa using hc
    rcases e' with q | q | q | q | q <;> rw [q]
    · exact ⟨_, hz, fun v q => nomatch q⟩
    · exact ⟨_, hTI, fun v q => nomatch q⟩
    · exact ⟨_, hTO, fun v q => nomatch q⟩
    · exact ⟨o1, e1, fun v q => by rw [d1] at q; cases q⟩
    · exact ⟨o2, e2, fun v q => by rw [d2] at q; cases q⟩
  · obtain ⟨hz, hTI, ⟨x, y, hTO⟩, h1, h2⟩ := st
    have kz := k z (by simp); have kI := k TI (by simp); have kO := k TO (by simp)
    exact ⟨kz _ hz, kI _ hTI, ⟨x, y, kO _ hTO⟩, h1.at fun o q => k i1 (by simp) o q, h2.at fun o q => k i2 (by simp) o q⟩
  · intro X hP hw hK hc i pins s σ H E I hf st hg
    subst hP; subst hw; subst hK
    obtain ⟨hz, hTI, ⟨x0, y0, hTO⟩, h1, h2⟩ := st; obtain ⟨xs, ys, hqx, hqy, hl, hi⟩ := hg
    obtain ⟨its, rv, p, _⟩ := I.tuple hqx; obtain ⟨its2, rv2, p2, _⟩ := I.list hqy
    have l1 := rv.length; have l2 := rv2.length
    have hzl : z < s.heap.objs.size := Heap.lt_size hz
    have hh : X.A.handled = none := I.ok.hd hc
    have Da := Draws.tuple (prog := X.prog) (w := X.w) (A := X.A.in1) (show X.A.in1.handled = none from hh) i1 a D.l1i1 its.toArray
    have Db0 := Draws.list (prog := X.prog) (w := X.w) (A := X.A.in1) (show X.A.in1.handled = none from hh) i2 b D.l2i2 its2.toArray
    have esz : its2.toArray.size = its.toArray.size := by simp; omega
    have Db : Draws X.prog X.w X.A.in1 i2 [i2, b] its.toArray.size (fun j v => its2.toArray[j]? = some v) (fun j h => h.IsListIter i2 b j ∧ h.IsList b its2.toArray) := by rw [← esz]; exact Db0
    have hin : i < its.toArray.size := by simp; omega
    refine zs_pyNext (s := s) hh Sp Da Db hz hTI hTO ⟨h1, p⟩ ⟨h2, p2.isList⟩ (Nat.le_of_lt hin) (fun _ u u2 h' tk px py z' TO' sa' sb' hT hsz hk => ?_) (fun e => absurd e (Nat.ne_of_lt hin))
    have hu : its[i]? = some u := by simpa using px
    have hu2 : its2[i]? = some u2 := by simpa using py
    obtain ⟨x, hx⟩ : ∃ x, xs[i]? = some x := ⟨_, List.getElem?_eq_getElem hi⟩
    obtain ⟨y, hy⟩ : ∃ y, ys[i]? = some y := ⟨_, List.getElem?_eq_getElem (hl ▸ hi)⟩
    obtain ⟨u', hu', ru⟩ := rv.get hx; obtain ⟨u2', hu2', ru2⟩ := rv2.get hy
    rw [hu] at hu'; cases hu'; rw [hu2] at hu2'; cases hu2'
    refine ⟨_, rfl, zs_go (s := { s with heap := h', toks := tk }) z' fun h'' z'' sb => ?_⟩
    have hT2 : h''.get? s.heap.objs.size = some { cls := .type "tuple", data := .seq #[u, u2] } := (sb.2 _ (Nat.ne_of_gt hzl)).trans hT
    have new : ObjOk X.prog X.w (upd H s.heap.objs.size (.tup [x, y])) h'' s.heap.objs.size (.tup [x, y]) := ⟨by show 2 ≤ sizeLine; decide, [u, u2], .cons ru (.cons ru2 .nil), ⟨_, hT2, rfl, _, rfl⟩⟩
    have I1 : Inv X pins σ (upd H s.heap.objs.size (.tup [x, y])) { s with heap := h'', toks := tk } :=
      I.turnedNew (t' := tk) (ch := [z, TI, TO, i1, i2]) (fun c o hb q => (sb.2 c (fun q' => hb (by simp [q']))).trans (hk c o (fun q' => hb (by simp [q'])) (fun q' => hb (by simp [q'])) (fun q' => hb (by simp [q'])) (fun q' => hb (by simp [q'])) q)) hf (Nat.le_refl _) new
    refine ⟨.ref s.heap.objs.size, _, I1, rfl, ⟨_, x, y, rfl, I.hok.fresh (Nat.le_refl _), rfl, fun l hl => by rw [I.tuple_inj hl hqx]; exact hx, fun l hl => by rw [I.list_inj hl hqy]; exact hy⟩, ⟨z'', (sb.2 _ D.TIz).trans (hk _ _ D.TIz D.TITO D.TIi1 D.TIi2 hTI), ⟨u, u2, (sb.2 _ D.TOz).trans TO'⟩, sa'.1.at fun o q => (sb.2 _ D.i1z).trans q, sb'.1.at fun o q => (sb.2 _ D.i2z).trans q⟩, fun c hcm => ?_⟩
    have hlt : c < s.heap.objs.size := by
      have e' : c = z ∨ c = TI ∨ c = TO ∨ c = i1 ∨ c = i2 := by simpa using hcm
      rcases e' with q | q | q | q | q <;> rw [q]
      · exact hzl
      · exact Heap.lt_size hTI
      · exact Heap.lt_size hTO
      · obtain ⟨_, e1, _⟩ := h1; exact Heap.lt_size e1
      · obtain ⟨_, e2, _⟩ := h2; exact Heap.lt_size e2
    rw [upd_ne (Nat.ne_of_lt hlt)]; exact (hf c hcm).1
  · intro X hP hw hK hc i pins s σ H E I hf st hg
    subst hP; subst hw; subst hK
    obtain ⟨hz, hTI, ⟨x0, y0, hTO⟩, h1, h2⟩ := st; obtain ⟨xs, ys, hqx, hqy, hl, hl2⟩ := hg
    obtain ⟨its, rv, p, _⟩ := I.tuple hqx; obtain ⟨its2, rv2, p2, _⟩ := I.list hqy
    have l1 := rv.length; have l2 := rv2.length
    have hh : X.A.handled = none := I.ok.hd hc
    have Da := Draws.tuple (prog := X.prog) (w := X.w) (A := X.A.in1) (show X.A.in1.handled = none from hh) i1 a D.l1i1 its.toArray
    have Db0 := Draws.list (prog := X.prog) (w := X.w) (A := X.A.in1) (show X.A.in1.handled = none from hh) i2 b D.l2i2 its2.toArray
    have esz : its2.toArray.size = its.toArray.size := by simp; omega
    have Db : Draws X.prog X.w X.A.in1 i2 [i2, b] its.toArray.size (fun j v => its2.toArray[j]? = some v) (fun j h => h.IsListIter i2 b j ∧ h.IsList b its2.toArray) := by rw [← esz]; exact Db0
    have hin : i = its.toArray.size := by simp; omega
    refine zs_pyNext (s := s) hh Sp Da Db hz hTI hTO ⟨h1, p⟩ ⟨h2, p2.isList⟩ (Nat.le_of_eq hin) (fun lt => absurd hin (Nat.ne_of_lt lt)) (fun _ h' tk hk => ⟨rfl, I.turnedL (t' := tk) (ch := [z, TI, TO, i1, i2]) (fun c o hb q => hk c o (fun q' => hb (by simp [q'])) (fun q' => hb (by simp [q'])) (fun q' => hb (by simp [q'])) (fun q' => hb (by simp [q'])) q) hf⟩)
section
variable {M : Model} {A : Around} {E : Value → Shared → Prop} {s : Shared} {env : Env}
theorem tykw {pos : Pos} {T : String} {e : Expr} {rest : List Expr} {kws : List Keyword} {Q : Value → Shared → Prop}
    (h : wpAny M A (spliced (backTo pos (starEach (e :: rest) env))) (fun vs s1 => wpAny M A (evalAll ((backToKw pos (keywordEach kws env)).map (·.2))) (fun ws s2 => wpAny M A (call (.type T) vs (((backToKw pos (keywordEach kws env)).filterMap (·.1)).zip ws)) Q E s2) E s1) E s)
    (he : backTo pos (starEach (e :: rest) env) = (false, eval e env) :: backTo pos (starEach rest env) := by rfl) (hp : (backTo pos (starEach (e :: rest) env)).any (·.1) = false := by rfl)
    (ha : (backToKw pos (keywordEach kws env)).all (·.1.isSome) = true := by rfl) (hk : (backToKw pos (keywordEach kws env)).any (·.1.isNone) = false := by rfl) : wpAny M A (callWith pos (.type T) [] (backTo pos (starEach (e :: rest) env)) (backToKw pos (keywordEach kws env))) Q E s := by
  unfold callWith
  refine wpAny_bind (wpAny_holding (wpAny_mono (Q := fun a s1 => wpAny M A (call (.type T) ([] ++ a.pos) a.kw) Q E s1) ?_ (fun a s1 h1 => wpAny_bind (wpAny_standAt ?_)) fun _ _ z => z))
  · rw [he] at h ⊢; exact evalArgs_kwB ha h
  · simp only [hp, hk, Bool.or_false]; refine wpAny_bind (wpAny_pure ?_)
    exact wpAny_bind (wpAny_mono h1 (fun r s2 hr => wpAny_bind (wpAny_holding (wpAny_point (wpAny_pure hr)))) fun _ _ z => z)
end
def iZipS (K : PySem.W.Frag) (ta tk : TA) : TI := fun σ H R => ta σ H fun vs H1 => tk σ H1 fun zs H2 => zs = [.bl true] ∧ ∃ a b xs ys, vs = [.ref a, .ref b] ∧ SqT K H2 a xs ∧ SqL K H2 b ys ∧ R (ItzS K a b) H2
theorem pi_zs {X : Cx} {e e2 : Expr} {kws : List Keyword} {ta tk : TA} {p pos tpos : Pos} {elts : List Expr} {kk : Nat} (hg : Gl X "zip") (hm : X.mg "zip" = none) (ha : PA X [e, e2] ta) (hk : PK X kws tk)
    (he : backTo pos (starEach [e, e2] X.env) = (false, eval e X.env) :: backTo pos (starEach [e2] X.env) := by rfl) (hp : (backTo pos (starEach [e, e2] X.env)).any (·.1) = false := by rfl)
    (hal : (backToKw pos (keywordEach kws X.env)).all (·.1.isSome) = true := by rfl) (hkn : (backToKw pos (keywordEach kws X.env)).any (·.1.isNone) = false := by rfl) (hks : (backToKw pos (keywordEach kws X.env)).filterMap (·.1) = [("strict" : Str)] := by rfl) :
    PI X (.Tuple elts kk tpos) (.Call (.Name "zip" p) [e, e2] kws pos) (iZipS X.K ta tk) := by
  refine ⟨fun pins s σ H R I h => wpAny_Call_Name_kw (ld_blt I hg hm PyProof.Rows.boot_zip (tykw (thn (ha.run pos pins s σ H _ I h) fun us s1 ⟨vs, H1, I1, r1, q1⟩ => thn (hk.run pos pins s1 σ H1 _ I1 q1) fun ws s2 ⟨zs, H2, I2, r2, q2⟩ => ?_) he hp hal hkn))⟩
  rw [hks]; obtain ⟨ez, a, b, xs, ys, ex, hqx, hqy, q⟩ := q2
  subst ez; subst ex
  cases r2 with
  | cons rb rr => cases rr; cases (show _ = Value.bool true from rb); cases r1 with
    | cons r rr => cases rr with
      | cons r' rr =>
        cases rr; cases r; cases r'
        obtain ⟨its, rv, p1, _⟩ := I2.tuple hqx; obtain ⟨its2, rv2, p2, _⟩ := I2.list hqy
        refine zs_made p1 p2.isList fun g' hz hTI hTO h1 h2 hk' => zs_iter hz ?_
        have I3 : Inv X pins σ H2 { s2 with heap := g' } := I2.kept (t' := s2.toks) hk'
        obtain ⟨o1, ho1, _⟩ := id p1
        refine ⟨s2.heap.objs.size + 4, [s2.heap.objs.size + 4, s2.heap.objs.size + 2, s2.heap.objs.size + 3, s2.heap.objs.size, s2.heap.objs.size + 1], _, _, H2, rfl, I3, turn_zs (PySem.W.ktu_apart s2.heap.objs.size a b (Heap.lt_size ho1) p2.lt), ⟨hz, hTI, ⟨_, _, hTO⟩, h1, h2⟩, fun c hcm => ?_, q⟩
        have hle : s2.heap.objs.size ≤ c := by
          have e' : c = s2.heap.objs.size + 4 ∨ c = s2.heap.objs.size + 2 ∨ c = s2.heap.objs.size + 3 ∨ c = s2.heap.objs.size ∨ c = s2.heap.objs.size + 1 := by simpa using hcm
          rcases e' with z | z | z | z | z <;> rw [z] <;> first | exact Nat.le_add_right _ _ | exact Nat.le_refl _
        exact I2.fpOk hle (I2.hok.fresh hle)
theorem walk_zs {K : PySem.W.Frag} {a b : Addr} {xs ys : List V} (hl : xs.length = ys.length) : Walk (ItzS K a b) xs.length (fun H => SqT K H a xs ∧ SqL K H b ys) (YPair (fun i => xs[i]?) (fun i => ys[i]?)) :=
  ⟨fun i _ hi q => ⟨xs, ys, q.1, q.2, hl, hi⟩, fun _ q => ⟨xs, ys, q.1, q.2, rfl, hl.symm⟩, fun i H v H' _ q ⟨T, x, z, h1, h2, h3, h4, h5⟩ => ⟨T, x, z, h1, h2, h3, h4 xs q.1, h5 ys q.2⟩⟩
theorem k_piZS {X : Cx} (K : PySem.W.Frag) (h : X.K = K) {e e2 : Expr} {kws : List Keyword} {ta tk : TA} {p pos tpos : Pos} {elts : List Expr} {kk : Nat} (hg : Gl X "zip") (hm : X.mg "zip" = none) (ha : PA X [e, e2] ta) (hk : PK X kws tk)
    (he : backTo pos (starEach [e, e2] X.env) = (false, eval e X.env) :: backTo pos (starEach [e2] X.env) := by rfl) (hp : (backTo pos (starEach [e, e2] X.env)).any (·.1) = false := by rfl)
    (hal : (backToKw pos (keywordEach kws X.env)).all (·.1.isSome) = true := by rfl) (hkn : (backToKw pos (keywordEach kws X.env)).any (·.1.isNone) = false := by rfl) (hks : (backToKw pos (keywordEach kws X.env)).filterMap (·.1) = [("strict" : Str)] := by rfl) :
    PI X (.Tuple elts kk tpos) (.Call (.Name "zip" p) [e, e2] kws pos) (iZipS K ta tk) := by subst h; exact pi_zs hg hm ha hk he hp hal hkn hks
end My

namespace My
open PySem PySem.Spec PyProof.Rows L2 Pre
open Sem (wp)
/-! ### zip(xs, ys, strict=True) of two lists -/
abbrev zr1 (h : Heap) (a : Addr) : Heap := h.push { cls := .type "list_iterator", data := .fields #[.ref a, .int 0 0] }
abbrev zr2 (h : Heap) (a b : Addr) : Heap := (zr1 h a).push { cls := .type "list_iterator", data := .fields #[.ref b, .int 0 0] }
abbrev zr3 (h : Heap) (a b : Addr) : Heap := (zr2 h a b).push { cls := .type "tuple", data := .seq #[.ref h.objs.size, .ref (zr1 h a).objs.size] }
abbrev zr4 (h : Heap) (a b : Addr) : Heap := (zr3 h a b).push { cls := .type "tuple", data := .seq #[.none, .none] }
abbrev zr5 (h : Heap) (a b : Addr) : Heap := (zr4 h a b).push { cls := .type "zip", data := .fields #[.none, .bool false, .bool true, .ref (zr2 h a b).objs.size, .ref (zr3 h a b).objs.size] }
theorem zl_new (a b : Addr) (xs ys : Array Value) :
    Meets (Builtin.«zip.__new__» ⟨[.type "zip", .ref a, .ref b], [("strict", .bool true)]⟩) (fun _ R s => s.heap.IsList a xs ∧ s.heap.IsList b ys ∧
      R (.ok (.ret (.ref (zr4 s.heap a b).objs.size))) { s with heap := zr5 s.heap a b }) :=
  .of_wp fun prog w A R s h => by
    obtain ⟨hp, g, d, tk, os⟩ := s; obtain ⟨ha, hb, h⟩ := h; have hsub := sub_zip
    have hA : Heap.IsList (Shared.heap ⟨hp, g, d, tk, os⟩) a xs := ha; have hB : Heap.IsList (Shared.heap ⟨hp.push { cls := .type "list_iterator", data := .fields #[.ref a, .int 0 0] }, g, d, tk, os⟩) b ys := Heap.IsList.push hb _
    wp_walk using wpAny_pyIter_list hA, wpAny_pyIter_list hB
    exact ⟨_, rfl, h⟩
section
variable {prog : Program} {w : World} {A : Around} {E : Value → Shared → Prop} {s : Shared}
theorem zl_made {a b : Addr} {xs ys : Array Value} {Q : Value → Shared → Prop} (ha : s.heap.IsList a xs) (hb : s.heap.IsList b ys)
    (go : ∀ g', SZip g' (s.heap.objs.size + 4) (s.heap.objs.size + 2) (s.heap.objs.size + 3) .none → IsTupOf2 g' (s.heap.objs.size + 2) (.ref s.heap.objs.size) (.ref (s.heap.objs.size + 1)) → IsTupOf2 g' (s.heap.objs.size + 3) .none .none →
      g'.IsListIter s.heap.objs.size a 0 → g'.IsListIter (s.heap.objs.size + 1) b 0 → (∀ c o, s.heap.get? c = some o → g'.get? c = some o) → Q (.ref (s.heap.objs.size + 4)) { s with heap := g' }) :
    wpAny (model prog w) A (call (.type "zip") [.ref a, .ref b] [("strict", .bool true)]) Q E s := by
  refine zs_call (zl_new a b xs ys) ⟨ha, hb, ?_⟩
  have n1 : (zr1 s.heap a).objs.size = s.heap.objs.size + 1 := Heap.size_push ..
  have n2 : (zr2 s.heap a b).objs.size = s.heap.objs.size + 2 := by rw [Heap.size_push, n1]
  have n3 : (zr3 s.heap a b).objs.size = s.heap.objs.size + 3 := by rw [Heap.size_push, n2]
  have n4 : (zr4 s.heap a b).objs.size = s.heap.objs.size + 4 := by rw [Heap.size_push, n3]
  have p : ∀ {h : Heap} {o o' : Obj} {c : Addr}, h.get? c = some o → (h.push o').get? c = some o := fun e => Heap.get?_push_of_some _ e
  have q5 : (zr5 s.heap a b).get? (zr4 s.heap a b).objs.size = some _ := Heap.get?_push_size _ rfl
  have q4 : (zr5 s.heap a b).get? (zr3 s.heap a b).objs.size = some _ := p (Heap.get?_push_size _ rfl)
  have q3 : (zr5 s.heap a b).get? (zr2 s.heap a b).objs.size = some _ := p (p (Heap.get?_push_size _ rfl))
  have q2 : (zr5 s.heap a b).get? (zr1 s.heap a).objs.size = some _ := p (p (p (Heap.get?_push_size _ rfl)))
  have q1 : (zr5 s.heap a b).get? s.heap.objs.size = some _ := p (p (p (p (Heap.get?_push_size _ rfl))))
  show _ ∧ _; rw [n2, n3, n4] at q5; rw [n1, n2] at q3; rw [n3] at q4; rw [n1] at q2; rw [n4]
  exact ⟨⟨_, q5, rfl⟩, go _ q5 q3 q4 ⟨_, q1, rfl, rfl⟩ ⟨_, q2, rfl, rfl⟩ fun c o x => p (p (p (p (p x))))⟩
end
/-- the lists at a and b, of one length, side by side -/
def ItzL (K : PySem.W.Frag) (a b : Addr) : It :=
  ⟨fun i H => ∃ (xs ys : List V), SqL K H a xs ∧ SqL K H b ys ∧ xs.length = ys.length ∧ i < xs.length,
    fun i H v H' => ∃ T x y, v = .ref T ∧ H T = none ∧ H' = upd H T (.tup [x, y]) ∧ (∀ xs, SqL K H a xs → xs[i]? = some x) ∧ ∀ ys, SqL K H b ys → ys[i]? = some y,
    fun i H => ∃ xs ys : List V, SqL K H a xs ∧ SqL K H b ys ∧ xs.length = i ∧ ys.length = i⟩
theorem turn_zl {P : Program} {w : World} {K : PySem.W.Frag} {elts : List Expr} {kk : Nat} {tpos : Pos} {a b z TI TO i1 i2 : Addr} (D : ZipApart z TI TO i1 i2 a b) :
    Turn P w K (.Tuple elts kk tpos) (ItzL K a b) [z, TI, TO, i1, i2] z (fun i h => SZip h z TI TO .none ∧ IsTupOf2 h TI (.ref i1) (.ref i2) ∧ (∃ x y, IsTupOf2 h TO x y) ∧ h.IsListIter i1 a i ∧ h.IsListIter i2 b i) := by
  have Sp : ZipSep2 z TI TO i1 i2 [i1, a] [i2, b] := ⟨D.TIz, D.TOz, D.TITO, D.TIi1, by simp, by simp [D.i1z.symm, D.l1z.symm], by simp [D.TOi1, D.l1TO.symm], D.TIi2, by simp, by simp [D.i2z.symm, D.l2z.symm], by simp [D.TOi2, D.l2TO.symm], by simp [D.i12, D.l2i1.symm], by simp [D.i12.symm, D.l1i2.symm]⟩
  refine ⟨by simp, fun i h st c hc => ?_, fun i h h' st k => ?_, ?_, ?_, fun A i s Q E st h => zs_iter st.1 h⟩
  · obtain ⟨hz, hTI, ⟨x, y, hTO⟩, ⟨o1, e1, _, d1⟩, ⟨o2, e2, _, d2⟩⟩ := st
    have e' : c = z ∨ c = TI ∨ c = TO ∨ c = i1 ∨ c = i2 := by simpa using hc
    rcases e' with q | q | q | q | q <;> rw [q]
    · exact ⟨_, hz, fun v q => nomatch q⟩
    · exact ⟨_, hTI, fun v q => nomatch q⟩
    · exact ⟨_, hTO, fun v q => nomatch q⟩
    · exact ⟨o1, e1, fun v q => by rw [d1] at q; cases q⟩
    · exact ⟨o2, e2, fun v q => by rw [d2] at q; cases q⟩
  · obtain ⟨hz, hTI, ⟨x, y, hTO⟩, h1, h2⟩ := st
    have kz := k z (by simp); have kI := k TI (by simp); have kO := k TO (by simp)
    exact ⟨kz _ hz, kI _ hTI, ⟨x, y, kO _ hTO⟩, h1.at fun o q => k i1 (by simp) o q, h2.at fun o q => k i2 (by simp) o q⟩
  · intro X hP hw hK hc i pins s σ H E I hf st hg
    subst hP; subst hw; subst hK
    obtain ⟨hz, hTI, ⟨x0, y0, hTO⟩, h1, h2⟩ := st; obtain ⟨xs, ys, hqx, hqy, hl, hi⟩ := hg
    obtain ⟨its, rv, p, _⟩ := I.list hqx; obtain ⟨its2, rv2, p2, _⟩ := I.list hqy
    have l1 := rv.length; have l2 := rv2.length
    have hzl : z < s.heap.objs.size := Heap.lt_size hz
    have hh : X.A.handled = none := I.ok.hd hc
    have Da := Draws.list (prog := X.prog) (w := X.w) (A := X.A.in1) (show X.A.in1.handled = none from hh) i1 a D.l1i1 its.toArray
    have Db0 := Draws.list (prog := X.prog) (w := X.w) (A := X.A.in1) (show X.A.in1.handled = none from hh) i2 b D.l2i2 its2.toArray
    have esz : its2.toArray.size = its.toArray.size := by simp; omega
    have Db : Draws X.prog X.w X.A.in1 i2 [i2, b] its.toArray.size (fun j v => its2.toArray[j]? = some v) (fun j h => h.IsListIter i2 b j ∧ h.IsList b its2.toArray) := by rw [← esz]; exact Db0
    have hin : i < its.toArray.size := by simp; omega
    refine zs_pyNext (s := s) hh Sp Da Db hz hTI hTO ⟨h1, p.isList⟩ ⟨h2, p2.isList⟩ (Nat.le_of_lt hin) (fun _ u u2 h' tk px py z' TO' sa' sb' hT hsz hk => ?_) (fun e => absurd e (Nat.ne_of_lt hin))
    have hu : its[i]? = some u := by simpa using px
    have hu2 : its2[i]? = some u2 := by simpa using py
    obtain ⟨x, hx⟩ : ∃ x, xs[i]? = some x := ⟨_, List.getElem?_eq_getElem hi⟩
    obtain ⟨y, hy⟩ : ∃ y, ys[i]? = some y := ⟨_, List.getElem?_eq_getElem (hl ▸ hi)⟩
    obtain ⟨u', hu', ru⟩ := rv.get hx; obtain ⟨u2', hu2', ru2⟩ := rv2.get hy
    rw [hu] at hu'; cases hu'; rw [hu2] at hu2'; cases hu2'
    refine ⟨_, rfl, zs_go (s := { s with heap := h', toks := tk }) z' fun h'' z'' sb => ?_⟩
    have hT2 : h''.get? s.heap.objs.size = some { cls := .type "tuple", data := .seq #[u, u2] } := (sb.2 _ (Nat.ne_of_gt hzl)).trans hT
    have new : ObjOk X.prog X.w (upd H s.heap.objs.size (.tup [x, y])) h'' s.heap.objs.size (.tup [x, y]) := ⟨by show 2 ≤ sizeLine; decide, [u, u2], .cons ru (.cons ru2 .nil), ⟨_, hT2, rfl, _, rfl⟩⟩
    have I1 : Inv X pins σ (upd H s.heap.objs.size (.tup [x, y])) { s with heap := h'', toks := tk } :=
      I.turnedNew (t' := tk) (ch := [z, TI, TO, i1, i2]) (fun c o hb q => (sb.2 c (fun q' => hb (by simp [q']))).trans (hk c o (fun q' => hb (by simp [q'])) (fun q' => hb (by simp [q'])) (fun q' => hb (by simp [q'])) (fun q' => hb (by simp [q'])) q)) hf (Nat.le_refl _) new
    refine ⟨.ref s.heap.objs.size, _, I1, rfl, ⟨_, x, y, rfl, I.hok.fresh (Nat.le_refl _), rfl, fun l hl => by rw [I.list_inj hl hqx]; exact hx, fun l hl => by rw [I.list_inj hl hqy]; exact hy⟩, ⟨z'', (sb.2 _ D.TIz).trans (hk _ _ D.TIz D.TITO D.TIi1 D.TIi2 hTI), ⟨u, u2, (sb.2 _ D.TOz).trans TO'⟩, sa'.1.at fun o q => (sb.2 _ D.i1z).trans q, sb'.1.at fun o q => (sb.2 _ D.i2z).trans q⟩, fun c hcm => ?_⟩
    have hlt : c < s.heap.objs.size := by
      have e' : c = z ∨ c = TI ∨ c = TO ∨ c = i1 ∨ c = i2 := by simpa using hcm
      rcases e' with q | q | q | q | q <;> rw [q]
      · exact hzl
      · exact Heap.lt_size hTI
      · exact Heap.lt_size hTO
      · obtain ⟨_, e1, _⟩ := h1; exact Heap.lt_size e1
      · obtain ⟨_, e2, _⟩ := h2; exact Heap.lt_size e2
    rw [upd_ne (Nat.ne_of_lt hlt)]; exact (hf c hcm).1
  · intro X hP hw hK hc i pins s σ H E I hf st hg
    subst hP; subst hw; subst hK
    obtain ⟨hz, hTI, ⟨x0, y0, hTO⟩, h1, h2⟩ := st; obtain ⟨xs, ys, hqx, hqy, hl, hl2⟩ := hg
    obtain ⟨its, rv, p, _⟩ := I.list hqx; obtain ⟨its2, rv2, p2, _⟩ := I.list hqy
    have l1 := rv.length; have l2 := rv2.length
    have hh : X.A.handled = none := I.ok.hd hc
    have Da := Draws.list (prog := X.prog) (w := X.w) (A := X.A.in1) (show X.A.in1.handled = none from hh) i1 a D.l1i1 its.toArray
    have Db0 := Draws.list (prog := X.prog) (w := X.w) (A := X.A.in1) (show X.A.in1.handled = none from hh) i2 b D.l2i2 its2.toArray
    have esz : its2.toArray.size = its.toArray.size := by simp; omega
    have Db : Draws X.prog X.w X.A.in1 i2 [i2, b] its.toArray.size (fun j v => its2.toArray[j]? = some v) (fun j h => h.IsListIter i2 b j ∧ h.IsList b its2.toArray) := by rw [← esz]; exact Db0
    have hin : i = its.toArray.size := by simp; omega
    refine zs_pyNext (s := s) hh Sp Da Db hz hTI hTO ⟨h1, p.isList⟩ ⟨h2, p2.isList⟩ (Nat.le_of_eq hin) (fun lt => absurd hin (Nat.ne_of_lt lt)) (fun _ h' tk hk => ⟨rfl, I.turnedL (t' := tk) (ch := [z, TI, TO, i1, i2]) (fun c o hb q => hk c o (fun q' => hb (by simp [q'])) (fun q' => hb (by simp [q'])) (fun q' => hb (by simp [q'])) (fun q' => hb (by simp [q'])) q) hf⟩)
def iZipL (K : PySem.W.Frag) (ta tk : TA) : TI := fun σ H R => ta σ H fun vs H1 => tk σ H1 fun zs H2 => zs = [.bl true] ∧ ∃ a b xs ys, vs = [.ref a, .ref b] ∧ SqL K H2 a xs ∧ SqL K H2 b ys ∧ R (ItzL K a b) H2
theorem pi_zl {X : Cx} {e e2 : Expr} {kws : List Keyword} {ta tk : TA} {p pos tpos : Pos} {elts : List Expr} {kk : Nat} (hg : Gl X "zip") (hm : X.mg "zip" = none) (ha : PA X [e, e2] ta) (hk : PK X kws tk)
    (he : backTo pos (starEach [e, e2] X.env) = (false, eval e X.env) :: backTo pos (starEach [e2] X.env) := by rfl) (hp : (backTo pos (starEach [e, e2] X.env)).any (·.1) = false := by rfl)
    (hal : (backToKw pos (keywordEach kws X.env)).all (·.1.isSome) = true := by rfl) (hkn : (backToKw pos (keywordEach kws X.env)).any (·.1.isNone) = false := by rfl) (hks : (backToKw pos (keywordEach kws X.env)).filterMap (·.1) = [("strict" : Str)] := by rfl) :
    PI X (.Tuple elts kk tpos) (.Call (.Name "zip" p) [e, e2] kws pos) (iZipL X.K ta tk) := by
  refine ⟨fun pins s σ H R I h => wpAny_Call_Name_kw (ld_blt I hg hm PyProof.Rows.boot_zip (tykw (thn (ha.run pos pins s σ H _ I h) fun us s1 ⟨vs, H1, I1, r1, q1⟩ => thn (hk.run pos pins s1 σ H1 _ I1 q1) fun ws s2 ⟨zs, H2, I2, r2, q2⟩ => ?_) he hp hal hkn))⟩
  rw [hks]; obtain ⟨ez, a, b, xs, ys, ex, hqx, hqy, q⟩ := q2
  subst ez; subst ex
  cases r2 with
  | cons rb rr => cases rr; cases (show _ = Value.bool true from rb); cases r1 with
    | cons r rr => cases rr with
      | cons r' rr =>
        cases rr; cases r; cases r'
        obtain ⟨its, rv, p1, _⟩ := I2.list hqx; obtain ⟨its2, rv2, p2, _⟩ := I2.list hqy
        refine zl_made p1.isList p2.isList fun g' hz hTI hTO h1 h2 hk' => zs_iter hz ?_
        have I3 : Inv X pins σ H2 { s2 with heap := g' } := I2.kept (t' := s2.toks) hk'

        refine ⟨s2.heap.objs.size + 4, [s2.heap.objs.size + 4, s2.heap.objs.size + 2, s2.heap.objs.size + 3, s2.heap.objs.size, s2.heap.objs.size + 1], _, _, H2, rfl, I3, turn_zl (PySem.W.ktu_apart s2.heap.objs.size a b p1.lt p2.lt), ⟨hz, hTI, ⟨_, _, hTO⟩, h1, h2⟩, fun c hcm => ?_, q⟩
        have hle : s2.heap.objs.size ≤ c := by
          have e' : c = s2.heap.objs.size + 4 ∨ c = s2.heap.objs.size + 2 ∨ c = s2.heap.objs.size + 3 ∨ c = s2.heap.objs.size ∨ c = s2.heap.objs.size + 1 := by simpa using hcm
          rcases e' with z | z | z | z | z <;> rw [z] <;> first | exact Nat.le_add_right _ _ | exact Nat.le_refl _
        exact I2.fpOk hle (I2.hok.fresh hle)
theorem walk_zl {K : PySem.W.Frag} {a b : Addr} {xs ys : List V} (hl : xs.length = ys.length) : Walk (ItzL K a b) xs.length (fun H => SqL K H a xs ∧ SqL K H b ys) (YPair (fun i => xs[i]?) (fun i => ys[i]?)) :=
  ⟨fun i _ hi q => ⟨xs, ys, q.1, q.2, hl, hi⟩, fun _ q => ⟨xs, ys, q.1, q.2, rfl, hl.symm⟩, fun i H v H' _ q ⟨T, x, z, h1, h2, h3, h4, h5⟩ => ⟨T, x, z, h1, h2, h3, h4 xs q.1, h5 ys q.2⟩⟩
theorem k_piZL {X : Cx} (K : PySem.W.Frag) (h : X.K = K) {e e2 : Expr} {kws : List Keyword} {ta tk : TA} {p pos tpos : Pos} {elts : List Expr} {kk : Nat} (hg : Gl X "zip") (hm : X.mg "zip" = none) (ha : PA X [e, e2] ta) (hk : PK X kws tk)
    (he : backTo pos (starEach [e, e2] X.env) = (false, eval e X.env) :: backTo pos (starEach [e2] X.env) := by rfl) (hp : (backTo pos (starEach [e, e2] X.env)).any (·.1) = false := by rfl)
    (hal : (backToKw pos (keywordEach kws X.env)).all (·.1.isSome) = true := by rfl) (hkn : (backToKw pos (keywordEach kws X.env)).any (·.1.isNone) = false := by rfl) (hks : (backToKw pos (keywordEach kws X.env)).filterMap (·.1) = [("strict" : Str)] := by rfl) :
    PI X (.Tuple elts kk tpos) (.Call (.Name "zip" p) [e, e2] kws pos) (iZipL K ta tk) := by subst h; exact pi_zl hg hm ha hk he hp hal hkn hks
end My

namespace My
open PySem PySem.Spec PyProof.Rows PySem.W L2 Pre
/-- products of one small number, or of two that are not too great -/
def CMulA (i j : Int) : Prop := CMul i j ∨ CMulX i j
theorem op_mulA {X : Cx} : OpR X (binaryOp .Mult) (rI CMulA fun i j => .int (i * j)) := fun pins s σ H x y v u Q I r1 r2 h => by
  obtain ⟨i, j, ex, ey, hc, q⟩ := h
  rcases hc with hc | hc
  · exact op_mul pins s σ H x y v u Q I r1 r2 ⟨i, j, ex, ey, hc, q⟩
  · exact op_mulX pins s σ H x y v u Q I r1 r2 ⟨i, j, ex, ey, hc, q⟩
end My

namespace My
open PySem PySem.Spec PyProof.Rows PySem.W L2 Pre
/-- zip, strict, of a tuple or a list with a list -/
def iZipB (K : PySem.W.Frag) (ta tk : TA) : TI := fun σ H R => ta σ H fun vs H1 => tk σ H1 fun zs H2 => zs = [.bl true] ∧ ∃ a b xs ys, vs = [.ref a, .ref b] ∧ SqL K H2 b ys ∧ ((SqT K H2 a xs ∧ R (ItzS K a b) H2) ∨ (SqL K H2 a xs ∧ R (ItzL K a b) H2))
theorem pi_zb {X : Cx} {e e2 : Expr} {kws : List Keyword} {ta tk : TA} {p pos tpos : Pos} {elts : List Expr} {kk : Nat} (hg : Gl X "zip") (hm : X.mg "zip" = none) (ha : PA X [e, e2] ta) (hk : PK X kws tk)
    (he : backTo pos (starEach [e, e2] X.env) = (false, eval e X.env) :: backTo pos (starEach [e2] X.env) := by rfl) (hp : (backTo pos (starEach [e, e2] X.env)).any (·.1) = false := by rfl)
    (hal : (backToKw pos (keywordEach kws X.env)).all (·.1.isSome) = true := by rfl) (hkn : (backToKw pos (keywordEach kws X.env)).any (·.1.isNone) = false := by rfl) (hks : (backToKw pos (keywordEach kws X.env)).filterMap (·.1) = [("strict" : Str)] := by rfl) :
    PI X (.Tuple elts kk tpos) (.Call (.Name "zip" p) [e, e2] kws pos) (iZipB X.K ta tk) := by
  refine ⟨fun pins s σ H R I h => wpAny_Call_Name_kw (ld_blt I hg hm PyProof.Rows.boot_zip (tykw (thn (ha.run pos pins s σ H _ I h) fun us s1 ⟨vs, H1, I1, r1, q1⟩ => thn (hk.run pos pins s1 σ H1 _ I1 q1) fun ws s2 ⟨zs, H2, I2, r2, q2⟩ => ?_) he hp hal hkn))⟩
  rw [hks]; obtain ⟨ez, a, b, xs, ys, ex, hqy, hqq⟩ := q2
  subst ez; subst ex
  cases r2 with
  | cons rb rr => cases rr; cases (show _ = Value.bool true from rb); cases r1 with
    | cons r rr => cases rr with
      | cons r' rr =>
        cases rr; cases r; cases r'
        rcases hqq with ⟨hqx, q⟩ | ⟨hqx, q⟩
        · skip
          obtain ⟨its, rv, p1, _⟩ := I2.tuple hqx; obtain ⟨its2, rv2, p2, _⟩ := I2.list hqy
          refine zs_made p1 p2.isList fun g' hz hTI hTO h1 h2 hk' => zs_iter hz ?_
          have I3 : Inv X pins σ H2 { s2 with heap := g' } := I2.kept (t' := s2.toks) hk'
          obtain ⟨o1, ho1, _⟩ := id p1
          refine ⟨s2.heap.objs.size + 4, [s2.heap.objs.size + 4, s2.heap.objs.size + 2, s2.heap.objs.size + 3, s2.heap.objs.size, s2.heap.objs.size + 1], _, _, H2, rfl, I3, turn_zs (PySem.W.ktu_apart s2.heap.objs.size a b (Heap.lt_size ho1) p2.lt), ⟨hz, hTI, ⟨_, _, hTO⟩, h1, h2⟩, fun c hcm => ?_, q⟩
          have hle : s2.heap.objs.size ≤ c := by
            have e' : c = s2.heap.objs.size + 4 ∨ c = s2.heap.objs.size + 2 ∨ c = s2.heap.objs.size + 3 ∨ c = s2.heap.objs.size ∨ c = s2.heap.objs.size + 1 := by simpa using hcm
            rcases e' with z | z | z | z | z <;> rw [z] <;> first | exact Nat.le_add_right _ _ | exact Nat.le_refl _
          exact I2.fpOk hle (I2.hok.fresh hle)
        · skip
          obtain ⟨its, rv, p1, _⟩ := I2.list hqx; obtain ⟨its2, rv2, p2, _⟩ := I2.list hqy
          refine zl_made p1.isList p2.isList fun g' hz hTI hTO h1 h2 hk' => zs_iter hz ?_
          have I3 : Inv X pins σ H2 { s2 with heap := g' } := I2.kept (t' := s2.toks) hk'

          refine ⟨s2.heap.objs.size + 4, [s2.heap.objs.size + 4, s2.heap.objs.size + 2, s2.heap.objs.size + 3, s2.heap.objs.size, s2.heap.objs.size + 1], _, _, H2, rfl, I3, turn_zl (PySem.W.ktu_apart s2.heap.objs.size a b p1.lt p2.lt), ⟨hz, hTI, ⟨_, _, hTO⟩, h1, h2⟩, fun c hcm => ?_, q⟩
          have hle : s2.heap.objs.size ≤ c := by
            have e' : c = s2.heap.objs.size + 4 ∨ c = s2.heap.objs.size + 2 ∨ c = s2.heap.objs.size + 3 ∨ c = s2.heap.objs.size ∨ c = s2.heap.objs.size + 1 := by simpa using hcm
            rcases e' with z | z | z | z | z <;> rw [z] <;> first | exact Nat.le_add_right _ _ | exact Nat.le_refl _
          exact I2.fpOk hle (I2.hok.fresh hle)
theorem k_piZB {X : Cx} (K : PySem.W.Frag) (h : X.K = K) {e e2 : Expr} {kws : List Keyword} {ta tk : TA} {p pos tpos : Pos} {elts : List Expr} {kk : Nat} (hg : Gl X "zip") (hm : X.mg "zip" = none) (ha : PA X [e, e2] ta) (hk : PK X kws tk)
    (he : backTo pos (starEach [e, e2] X.env) = (false, eval e X.env) :: backTo pos (starEach [e2] X.env) := by rfl) (hp : (backTo pos (starEach [e, e2] X.env)).any (·.1) = false := by rfl)
    (hal : (backToKw pos (keywordEach kws X.env)).all (·.1.isSome) = true := by rfl) (hkn : (backToKw pos (keywordEach kws X.env)).any (·.1.isNone) = false := by rfl) (hks : (backToKw pos (keywordEach kws X.env)).filterMap (·.1) = [("strict" : Str)] := by rfl) :
    PI X (.Tuple elts kk tpos) (.Call (.Name "zip" p) [e, e2] kws pos) (iZipB K ta tk) := by subst h; exact pi_zb hg hm ha hk he hp hal hkn hks
end My

namespace My
/-! ### steps of a mixer -/
inductive Step
  | turn (i : Nat)
  | swap (i j : Nat)
  | lift (t : Nat) (ws : List Int) (sh : Nat)
  deriving DecidableEq
def dotP : List Int → List Int → Int
  | w :: ws, x :: xs => w * x + dotP ws xs
  | _, _ => 0
def stepF (way : Int) : Step → List Int → List Int
  | .turn i, xs => xs.set i (0 - xs.getD i 0)
  | .swap i j, xs => (xs.set i (xs.getD j 0)).set j (xs.getD i 0)
  | .lift t ws sh, xs => xs.set t (xs.getD t 0 + way * (dotP ws xs / 2 ^ sh))
def Step.ok (n : Nat) : Step → Prop
  | .turn i => i < n
  | .swap i j => i < n ∧ j < n ∧ i ≠ j
  | .lift t ws sh => t < n ∧ ws.length = n ∧ ws.getD t 0 = 0 ∧ sh ≤ 15 ∧ ∀ w ∈ ws, -1267650600228229401496703205376 ≤ w ∧ w ≤ 1267650600228229401496703205376
/-- weights as they are drawn -/
def Step.tight : Step → Prop
  | .lift _ ws _ => ∀ w ∈ ws, -32768 ≤ w ∧ w ≤ 32768
  | _ => True
def Step.okT (n : Nat) (s : Step) : Prop := s.ok n ∧ s.tight
theorem stepF_len (way : Int) (s : Step) (xs : List Int) : (stepF way s xs).length = xs.length := by
  cases s <;> simp [stepF]
theorem dot_set (v : Int) : ∀ (ws xs : List Int) (t : Nat), ws.getD t 0 = 0 → dotP ws (xs.set t v) = dotP ws xs
  | [], xs, t, _ => by cases xs <;> cases t <;> rfl
  | w :: ws, [], t, _ => by cases t <;> rfl
  | w :: ws, x :: xs, 0, h => by
    have hw : w = 0 := h
    show w * v + dotP ws xs = w * x + dotP ws xs
    rw [hw, Int.zero_mul, Int.zero_mul]
  | w :: ws, x :: xs, t + 1, h => by
    show w * x + dotP ws (xs.set t v) = w * x + dotP ws xs
    rw [dot_set v ws xs t h]
theorem getD_set {xs : List Int} {i j : Nat} {v : Int} (h : i < xs.length) : (xs.set i v).getD j 0 = if i = j then v else xs.getD j 0 := by
  rw [List.getD_eq_getElem?_getD, List.getElem?_set, List.getD_eq_getElem?_getD]
  by_cases c : i = j
  · rw [if_pos c, if_pos h, if_pos c]
    rfl
  · rw [if_neg c, if_neg c]
theorem ext_getD {xs ys : List Int} (hl : xs.length = ys.length) (h : ∀ i, i < xs.length → xs.getD i 0 = ys.getD i 0) : xs = ys := by
  apply List.ext_getElem hl
  intro i h1 h2
  have := h i h1
  rwa [List.getD_eq_getElem?_getD, List.getD_eq_getElem?_getD, List.getElem?_eq_getElem h1, List.getElem?_eq_getElem h2] at this
/-- one way and the other -/
theorem step_back (way : Int) {s : Step} {xs : List Int} (h : s.ok xs.length) : stepF (-way) s (stepF way s xs) = xs := by
  refine ext_getD (by rw [stepF_len, stepF_len]) fun k hk => ?_
  cases s with
  | turn i =>
    have hi : i < xs.length := h
    show ((xs.set i (0 - xs.getD i 0)).set i (0 - (xs.set i (0 - xs.getD i 0)).getD i 0)).getD k 0 = _
    rw [getD_set (by rw [List.length_set]; exact hi), getD_set hi, getD_set hi, if_pos rfl]
    by_cases c : i = k
    · rw [if_pos c, c]
      omega
    · rw [if_neg c, if_neg c]
  | swap i j =>
    obtain ⟨hi, hj, hij⟩ : i < xs.length ∧ j < xs.length ∧ i ≠ j := h
    have e : ∀ k, (stepF way (.swap i j) xs).getD k 0 = if j = k then xs.getD i 0 else if i = k then xs.getD j 0 else xs.getD k 0 := fun k => by
      show ((xs.set i (xs.getD j 0)).set j (xs.getD i 0)).getD k 0 = _
      rw [getD_set (by rw [List.length_set]; exact hj), getD_set hi]
    show (((stepF way (.swap i j) xs).set i ((stepF way (.swap i j) xs).getD j 0)).set j ((stepF way (.swap i j) xs).getD i 0)).getD k 0 = _
    rw [getD_set (by rw [List.length_set, stepF_len]; exact hj), getD_set (by rw [stepF_len]; exact hi)]
    by_cases c : j = k
    · rw [if_pos c, e i, if_neg (fun z => hij z.symm), if_pos rfl, c]
    · rw [if_neg c]
      by_cases d : i = k
      · rw [if_pos d, e j, if_pos rfl, d]
      · rw [if_neg d, e k, if_neg c, if_neg d]
  | lift t ws sh =>
    obtain ⟨ht, hl, hz, _, _⟩ : t < xs.length ∧ ws.length = xs.length ∧ ws.getD t 0 = 0 ∧ sh ≤ 15 ∧ _ := h
    show ((xs.set t (xs.getD t 0 + way * (dotP ws xs / 2 ^ sh))).set t ((xs.set t (xs.getD t 0 + way * (dotP ws xs / 2 ^ sh))).getD t 0 + -way * (dotP ws (xs.set t (xs.getD t 0 + way * (dotP ws xs / 2 ^ sh))) / 2 ^ sh))).getD k 0 = _
    rw [getD_set (by rw [List.length_set]; exact ht), getD_set ht, getD_set ht, if_pos rfl, dot_set _ _ _ _ hz, Int.neg_mul]
    by_cases c : t = k
    · rw [if_pos c, c]
      omega
    · rw [if_neg c, if_neg c]
def playF (ss : List Step) (xs : List Int) : List Int := ss.foldl (fun x s => stepF 1 s x) xs
def backF (ss : List Step) (xs : List Int) : List Int := ss.reverse.foldl (fun x s => stepF (-1) s x) xs
theorem play_len : ∀ (ss : List Step) (xs : List Int), (playF ss xs).length = xs.length
  | [], _ => rfl
  | s :: ss, xs => by
    show (playF ss (stepF 1 s xs)).length = _
    rw [play_len ss, stepF_len]
theorem back_cons (s : Step) (ss : List Step) (xs : List Int) : backF (s :: ss) xs = stepF (-1) s (backF ss xs) := by
  unfold backF
  rw [List.reverse_cons, List.foldl_append]
  rfl
theorem back_len : ∀ (ss : List Step) (xs : List Int), (backF ss xs).length = xs.length
  | [], _ => rfl
  | s :: ss, xs => by rw [back_cons, stepF_len, back_len ss]
theorem play_back {n : Nat} : ∀ {ss : List Step} {xs : List Int}, (∀ s ∈ ss, s.ok n) → xs.length = n → backF ss (playF ss xs) = xs
  | [], _, _, _ => rfl
  | s :: ss, xs, h, hx => by
    rw [back_cons]
    show stepF (-1) s (backF ss (playF ss (stepF 1 s xs))) = xs
    rw [play_back (fun t ht => h t (List.mem_cons_of_mem _ ht)) (by rw [stepF_len, hx])]
    exact step_back 1 (hx ▸ h s List.mem_cons_self)
theorem back_play {n : Nat} : ∀ {ss : List Step} {xs : List Int}, (∀ s ∈ ss, s.ok n) → xs.length = n → playF ss (backF ss xs) = xs
  | [], _, _, _ => rfl
  | s :: ss, xs, h, hx => by
    rw [back_cons]
    show playF ss (stepF 1 s (stepF (-1) s (backF ss xs))) = xs
    have e := step_back (-1) (s := s) (xs := backF ss xs) (by rw [back_len, hx]; exact h s List.mem_cons_self)
    rw [Int.neg_neg] at e
    rw [e, back_play (fun t ht => h t (List.mem_cons_of_mem _ ht)) hx]
end My

namespace My
open PySem PySem.Spec PyProof.Rows L2 Pre
/-! ### steps in a heap -/
def sT : V := .str ("turn" : String)
def sS : V := .str ("swap" : String)
def sL : V := .str ("lift" : String)
/-- a step as it is handed in; N holds of the list of a lift's weights -/
def StepV (N : Addr → Prop) (H : Hp) (v : V) : Step → Prop
  | .turn i => ∃ t, v = .ref t ∧ H t = some (.tup [sT, .int i])
  | .swap i j => ∃ t, v = .ref t ∧ H t = some (.tup [sS, .int i, .int j])
  | .lift a ws sh => ∃ t l, v = .ref t ∧ H t = some (.tup [sL, .int a, .ref l, .int sh]) ∧ H l = some (.lst (ws.map V.int)) ∧ N l
/-- a step as a mixer keeps it -/
def RowV (H : Hp) (v : V) : Step → Prop
  | .turn i => ∃ t, v = .ref t ∧ H t = some (.tup [sT, .int i])
  | .swap i j => ∃ t, v = .ref t ∧ H t = some (.tup [sS, .int i, .int j])
  | .lift a ws sh => ∃ t l, v = .ref t ∧ H t = some (.tup [sL, .int a, .ref l, .int sh]) ∧ H l = some (.tup (ws.map V.int))
def AllV (R : V → Step → Prop) : List V → List Step → Prop
  | [], [] => True
  | v :: vs, s :: ss => R v s ∧ AllV R vs ss
  | _, _ => False
theorem AllV.len {R : V → Step → Prop} : ∀ {vs : List V} {ss : List Step}, AllV R vs ss → vs.length = ss.length
  | [], [], _ => rfl
  | _ :: vs, _ :: ss, h => by rw [List.length_cons, List.length_cons, AllV.len h.2]
  | [], _ :: _, h => h.elim
  | _ :: _, [], h => h.elim
theorem AllV.get {R : V → Step → Prop} : ∀ {vs : List V} {ss : List Step} {i : Nat} {v : V}, AllV R vs ss → vs[i]? = some v → ∃ s, ss[i]? = some s ∧ R v s
  | [], _, _, _, _, k => by simp at k
  | _ :: _, [], _, _, h, _ => h.elim
  | _ :: _, s :: ss, 0, _, h, k => by
    rw [List.getElem?_cons_zero] at k
    cases k
    exact ⟨s, rfl, h.1⟩
  | _ :: vs, s :: ss, i + 1, _, h, k => by
    rw [List.getElem?_cons_succ] at k
    rw [List.getElem?_cons_succ]
    exact AllV.get h.2 k
theorem AllV.imp {R R' : V → Step → Prop} (f : ∀ v s, R v s → R' v s) : ∀ {vs : List V} {ss : List Step}, AllV R vs ss → AllV R' vs ss
  | [], [], _ => trivial
  | _ :: _, _ :: _, h => ⟨f _ _ h.1, AllV.imp f h.2⟩
  | [], _ :: _, h => h.elim
  | _ :: _, [], h => h.elim
theorem AllV.app {R : V → Step → Prop} : ∀ {vs us : List V} {ss ts : List Step}, AllV R vs ss → AllV R us ts → AllV R (vs ++ us) (ss ++ ts)
  | [], _, [], _, _, k => k
  | _ :: _, _, _ :: _, _, h, k => ⟨h.1, AllV.app h.2 k⟩
  | [], _, _ :: _, _, h, _ => h.elim
  | _ :: _, _, [], _, h, _ => h.elim
theorem AllV.rev {R : V → Step → Prop} : ∀ {vs : List V} {ss : List Step}, AllV R vs ss → AllV R vs.reverse ss.reverse
  | [], [], _ => trivial
  | v :: vs, s :: ss, h => by
    rw [List.reverse_cons, List.reverse_cons]
    exact AllV.app (AllV.rev h.2) ⟨h.1, trivial⟩
  | [], _ :: _, h => h.elim
  | _ :: _, [], h => h.elim
theorem StepV.mono {N N' : Addr → Prop} {H : Hp} {v : V} {s : Step} (f : ∀ l, N l → N' l) (h : StepV N H v s) : StepV N' H v s := by
  cases s with
  | turn i => exact h
  | swap i j => exact h
  | lift a ws sh =>
    obtain ⟨t, l, e, h1, h2, h3⟩ := h
    exact ⟨t, l, e, h1, h2, f _ h3⟩
theorem StepV.same {N : Addr → Prop} {H H' : Hp} {v : V} {s : Step} (k : Same H H') (h : StepV N H v s) : StepV N H' v s := by
  cases s with
  | turn i => obtain ⟨t, e, h1⟩ := h; exact ⟨t, e, k _ _ h1⟩
  | swap i j => obtain ⟨t, e, h1⟩ := h; exact ⟨t, e, k _ _ h1⟩
  | lift a ws sh =>
    obtain ⟨t, l, e, h1, h2, h3⟩ := h
    exact ⟨t, l, e, k _ _ h1, k _ _ h2, h3⟩
/-- what changes are things of M alone -/
def Lk (M : Addr → Prop) (H H' : Hp) : Prop := ∀ b o, ¬ M b → H b = some o → H' b = some o
/-- lists that were not there before -/
def Fl (H0 H : Hp) (b : Addr) : Prop := H0 b = none ∧ ∃ xs, H b = some (.lst xs)
theorem Lk.refl {M : Addr → Prop} {H : Hp} : Lk M H H := fun _ _ _ h => h
theorem Lk.trans {M : Addr → Prop} {H H1 H2 : Hp} (a : Lk M H H1) (b : Lk M H1 H2) : Lk M H H2 := fun c o n h => b c o n (a c o n h)
theorem Lk.of {M : Addr → Prop} {H H1 : Hp} (s : Same H H1) : Lk M H H1 := fun c o _ h => s c o h
theorem Lk.at_ {M : Addr → Prop} {H : Hp} {p : Addr} {o : HO} (m : M p) : Lk M H (upd H p o) := fun c u n h => by
  rw [upd_ne (fun z => n (by rw [z]; exact m))]
  exact h
theorem Lk.tup {H0 H H' : Hp} {M : Addr → Prop} (k : Lk M H H') (a : ∀ b, M b → ∃ xs, H b = some (.lst xs)) {t : Addr} {xs : List V} (h : H t = some (.tup xs)) : H' t = some (.tup xs) := k _ _ (fun m => by
  obtain ⟨ys, e⟩ := a t m
  rw [h] at e
  cases e) h
theorem Lk.same {M : Addr → Prop} {H H1 H' : Hp} (k : Lk M H1 H') (s : Same H H1) (n : ∀ b, M b → H b = none) : Same H H' := fun b o e => k b o (fun m => by rw [n b m] at e; cases e) (s b o e)
theorem StepV.lk {M N : Addr → Prop} {H H' : Hp} {v : V} {s : Step} (k : Lk M H H') (a : ∀ b, M b → ∃ xs, H b = some (.lst xs)) (n : ∀ l, N l → ¬ M l) (h : StepV N H v s) : StepV N H' v s := by
  cases s with
  | turn i => obtain ⟨t, e, h1⟩ := h; exact ⟨t, e, Lk.tup (H0 := H) k a h1⟩
  | swap i j => obtain ⟨t, e, h1⟩ := h; exact ⟨t, e, Lk.tup (H0 := H) k a h1⟩
  | lift b ws sh =>
    obtain ⟨t, l, e, h1, h2, h3⟩ := h
    exact ⟨t, l, e, Lk.tup (H0 := H) k a h1, k _ _ (n l h3) h2, h3⟩
theorem RowV.same {H H' : Hp} {v : V} {s : Step} (k : Same H H') (h : RowV H v s) : RowV H' v s := by
  cases s with
  | turn i => obtain ⟨t, e, h1⟩ := h; exact ⟨t, e, k _ _ h1⟩
  | swap i j => obtain ⟨t, e, h1⟩ := h; exact ⟨t, e, k _ _ h1⟩
  | lift a ws sh =>
    obtain ⟨t, l, e, h1, h2⟩ := h
    exact ⟨t, l, e, k _ _ h1, k _ _ h2⟩
theorem RowV.lk {M : Addr → Prop} {H H' : Hp} {v : V} {s : Step} (k : Lk M H H') (a : ∀ b, M b → ∃ xs, H b = some (.lst xs)) (h : RowV H v s) : RowV H' v s := by
  cases s with
  | turn i => obtain ⟨t, e, h1⟩ := h; exact ⟨t, e, Lk.tup (H0 := H) k a h1⟩
  | swap i j => obtain ⟨t, e, h1⟩ := h; exact ⟨t, e, Lk.tup (H0 := H) k a h1⟩
  | lift b ws sh =>
    obtain ⟨t, l, e, h1, h2⟩ := h
    exact ⟨t, l, e, Lk.tup (H0 := H) k a h1, Lk.tup (H0 := H) k a h2⟩
/-- a list of steps; N holds of the lists of weights -/
def StepsAt (N : Addr → Prop) (H : Hp) (p : Addr) (ss : List Step) : Prop := ∃ vs, H p = some (.lst vs) ∧ AllV (StepV N H) vs ss
/-- a mixer at a, its rows at r -/
def MixAt (C : Addr) (H : Hp) (a r : Addr) (n : Nat) (ss : List Step) : Prop := ∃ dx vs, H a = some (.ins C dx [("many", .int n), ("rows", .ref r)]) ∧ H r = some (.lst vs) ∧ AllV (RowV H) vs ss
theorem StepsAt.same {N : Addr → Prop} {H H' : Hp} {p : Addr} {ss : List Step} (h : StepsAt N H p ss) (k : Same H H') : StepsAt N H' p ss := by
  obtain ⟨vs, h1, h2⟩ := h
  exact ⟨vs, k _ _ h1, h2.imp fun v s => StepV.same k⟩
theorem StepsAt.mono {N N' : Addr → Prop} {H : Hp} {p : Addr} {ss : List Step} (h : StepsAt N H p ss) (f : ∀ l, N l → N' l) : StepsAt N' H p ss := by
  obtain ⟨vs, h1, h2⟩ := h
  exact ⟨vs, h1, h2.imp fun v s => StepV.mono f⟩
theorem StepsAt.lk {M N : Addr → Prop} {H H' : Hp} {p : Addr} {ss : List Step} (h : StepsAt N H p ss) (k : Lk M H H') (a : ∀ b, M b → ∃ xs, H b = some (.lst xs)) (n : ∀ l, N l → ¬ M l) (np : ¬ M p) : StepsAt N H' p ss := by
  obtain ⟨vs, h1, h2⟩ := h
  exact ⟨vs, k _ _ np h1, h2.imp fun v s => StepV.lk k a n⟩
theorem MixAt.same {C : Addr} {H H' : Hp} {a r : Addr} {n : Nat} {ss : List Step} (h : MixAt C H a r n ss) (k : Same H H') : MixAt C H' a r n ss := by
  obtain ⟨dx, vs, h1, h2, h3⟩ := h
  exact ⟨dx, vs, k _ _ h1, k _ _ h2, h3.imp fun v s => RowV.same k⟩
theorem MixAt.lk {C : Addr} {M : Addr → Prop} {H H' : Hp} {a r : Addr} {n : Nat} {ss : List Step} (h : MixAt C H a r n ss) (k : Lk M H H') (al : ∀ b, M b → ∃ xs, H b = some (.lst xs)) (nr : ¬ M r) : MixAt C H' a r n ss := by
  obtain ⟨dx, vs, h1, h2, h3⟩ := h
  exact ⟨dx, vs, k _ _ (fun m => by obtain ⟨xs, e⟩ := al a m; rw [h1] at e; cases e) h1, k _ _ nr h2, h3.imp fun v s => RowV.lk k al⟩
/-! ### steps as data -/
def stepD : Step → PyData
  | .turn i => .tuple [.str ("turn" : String), .int i]
  | .swap i j => .tuple [.str ("swap" : String), .int i, .int j]
  | .lift a ws sh => .tuple [.str ("lift" : String), .int a, .list (ws.map PyData.int), .int sh]
def rowT : Step → PyData
  | .turn i => .tuple [.str ("turn" : String), .int i]
  | .swap i j => .tuple [.str ("swap" : String), .int i, .int j]
  | .lift a ws sh => .tuple [.str ("lift" : String), .int a, .tuple (ws.map PyData.int), .int sh]
theorem StepV.dt {N : Addr → Prop} {H : Hp} {v : V} {s : Step} (h : StepV N H v s) : Dt H v (stepD s) := by
  cases s with
  | turn i => obtain ⟨t, rfl, h1⟩ := h; exact .tup h1 (.cons (.str _) (.cons (.int _) .nil))
  | swap i j => obtain ⟨t, rfl, h1⟩ := h; exact .tup h1 (.cons (.str _) (.cons (.int _) (.cons (.int _) .nil)))
  | lift a ws sh =>
    obtain ⟨t, l, rfl, h1, h2, _⟩ := h
    exact .tup h1 (.cons (.str _) (.cons (.int _) (.cons (.lst h2 (DtA.ints ws)) (.cons (.int _) .nil))))
theorem RowV.dt {H : Hp} {v : V} {s : Step} (h : RowV H v s) : Dt H v (rowT s) := by
  cases s with
  | turn i => obtain ⟨t, rfl, h1⟩ := h; exact .tup h1 (.cons (.str _) (.cons (.int _) .nil))
  | swap i j => obtain ⟨t, rfl, h1⟩ := h; exact .tup h1 (.cons (.str _) (.cons (.int _) (.cons (.int _) .nil)))
  | lift a ws sh =>
    obtain ⟨t, l, rfl, h1, h2⟩ := h
    exact .tup h1 (.cons (.str _) (.cons (.int _) (.cons (.tup h2 (DtA.ints ws)) (.cons (.int _) .nil))))
theorem AllV.dts {N : Addr → Prop} {H : Hp} : ∀ {vs : List V} {ss : List Step}, AllV (StepV N H) vs ss → DtA H vs (ss.map stepD)
  | [], [], _ => .nil
  | _ :: _, _ :: _, h => .cons h.1.dt (AllV.dts h.2)
  | [], _ :: _, h => h.elim
  | _ :: _, [], h => h.elim
theorem AllV.dtr {H : Hp} : ∀ {vs : List V} {ss : List Step}, AllV (RowV H) vs ss → DtA H vs (ss.map rowT)
  | [], [], _ => .nil
  | _ :: _, _ :: _, h => .cons h.1.dt (AllV.dtr h.2)
  | [], _ :: _, h => h.elim
  | _ :: _, [], h => h.elim
theorem stepD_lay (s : Step) : PyData.canLay0 (stepD s) = true := by
  cases s with
  | turn i => simp only [stepD, PyData.canLay0, PyData.canLayAll0, Bool.and_true]; decide +kernel
  | swap i j => simp only [stepD, PyData.canLay0, PyData.canLayAll0, Bool.and_true]; decide +kernel
  | lift a ws sh => simp only [stepD, PyData.canLay0, PyData.canLayAll0, lay_ints, Bool.and_true]; decide +kernel
theorem rowT_lay (s : Step) : PyData.canLay0 (rowT s) = true := by
  cases s with
  | turn i => simp only [rowT, PyData.canLay0, PyData.canLayAll0, Bool.and_true]; decide +kernel
  | swap i j => simp only [rowT, PyData.canLay0, PyData.canLayAll0, Bool.and_true]; decide +kernel
  | lift a ws sh => simp only [rowT, PyData.canLay0, PyData.canLayAll0, lay_ints, Bool.and_true]; decide +kernel
theorem stepD_deep (s : Step) : PyData.depth (stepD s) ≤ 2 := by
  cases s <;> simp [stepD, PyData.depth, PyData.depthAll, depth_ints]
theorem rowT_deep (s : Step) : PyData.depth (rowT s) ≤ 2 := by
  cases s <;> simp [rowT, PyData.depth, PyData.depthAll, depth_ints]
theorem all_lay {f : Step → PyData} (h : ∀ s, PyData.canLay0 (f s) = true) : ∀ ss : List Step, PyData.canLayAll0 (ss.map f) = true
  | [] => rfl
  | s :: ss => by
    show (PyData.canLay0 (f s) && PyData.canLayAll0 (ss.map f)) = true
    rw [h, all_lay h ss]
    rfl
theorem all_deep {f : Step → PyData} (h : ∀ s, PyData.depth (f s) ≤ 2) : ∀ ss : List Step, PyData.depthAll (ss.map f) ≤ 2
  | [] => by simp [PyData.depthAll]
  | s :: ss => by
    show PyData.depthAll (f s :: ss.map f) ≤ 2
    rw [PyData.depthAll]
    have := h s
    have := all_deep h ss
    omega
theorem steps_shaped (ss : List Step) : SeqAt.shaped (.list (ss.map stepD)) = true := by
  show (PyData.canLay0 (.list (ss.map stepD)) && decide (PyData.depth (.list (ss.map stepD)) ≤ 64)) = true
  rw [Bool.and_eq_true]
  have := all_deep stepD_deep ss
  exact ⟨by rw [PyData.canLay0]; exact all_lay stepD_lay ss, decide_eq_true (by rw [PyData.depth]; omega)⟩
def mixD (n : Nat) (ss : List Step) : PyData := .tuple [.int n, .list (ss.map rowT)]
theorem mix_lay (n : Nat) (ss : List Step) : PyData.canLay0 (mixD n ss) = true := by
  unfold mixD
  simp only [PyData.canLay0, PyData.canLayAll0, all_lay rowT_lay ss, Bool.and_true]
theorem mix_shaped (n : Nat) (ss : List Step) : SeqAt.shaped (mixD n ss) = true := by
  show (PyData.canLay0 (mixD n ss) && decide (PyData.depth (mixD n ss) ≤ 64)) = true
  rw [Bool.and_eq_true]
  have := all_deep rowT_deep ss
  refine ⟨mix_lay n ss, decide_eq_true ?_⟩
  unfold mixD
  simp only [PyData.depth, PyData.depthAll]
  omega
theorem eqv_len : ∀ {ds es : List PyData}, ds.length ≠ es.length → PyData.eqvAll ds es = false
  | [], [], h => absurd rfl h
  | [], _ :: _, _ => by simp [PyData.eqvAll]
  | _ :: _, [], _ => by simp [PyData.eqvAll]
  | d :: ds, e :: es, h => by
    rw [PyData.eqvAll, eqv_len (ds := ds) (es := es) (fun z => h (by rw [List.length_cons, List.length_cons, z])), Bool.and_false]
theorem mix_other (n : Nat) {ss ts : List Step} (h : ss.length ≠ ts.length) : PyData.eqv (mixD n ss) (mixD n ts) = false := by
  unfold mixD
  rw [PyData.eqv, PyData.eqvAll, PyData.eqvAll, PyData.eqv, PyData.eqv, eqv_len (by rw [List.length_map, List.length_map]; exact h), Bool.false_and, Bool.and_false]
end My

namespace My
open PySem PySem.Spec PyProof.Rows L2 Pre
local macro_rules | `(tactic| walk_at "go") => `(tactic| repeat (first | (with_reducible first | refine iteT ?_ | refine iteF ?_ | refine iteNtt ?_ | refine iteNff ?_ | refine iteET (by omega) ?_ | refine iteEF (by omega) ?_ | refine iteENT (by omega) ?_ | refine iteENF (by omega) ?_ | refine iteDT (by omega) ?_ | refine iteDF (by omega) ?_ | refine iteNT (by omega) ?_ | refine iteNF (by omega) ?_) | refine ⟨_, rfl, ?_⟩ | refine ⟨_, _, rfl, rfl, ?_⟩ | refine ⟨_, _, rfl, ?_⟩ | refine ⟨rfl, ?_⟩ | refine .inl ⟨_, rfl, ?_⟩ | refine .inr ⟨_, rfl, ?_⟩))
local macro_rules | `(tactic| walk_at "b") => `(tactic| try dsimp (config := { proj := false, iota := false, eta := false, zeta := false }) only)
section
variable {P : Program} {w : World} {K : PySem.W.Frag} {mg : Str → Option Value} {base : Heap}
def sp_law_purse (K : PySem.W.Frag) : Sp := fun vs H Q _ => ∃ (a : Addr) (ns : List Int) (i : Nat), vs = [.ref a, .int i] ∧ SqL K H a (ns.map V.int) ∧ ∀ H' g, Same H H' → H g = none → GenAt H' g (1000 * i) → Q (.ref g) H'
theorem G_law_purse (T : Top K mg) : FnOk P w K mg base CX0 1 T.f_law_purse T.fd_law_purse ["_law_script", "_law_at"] (sp_law_purse K) := by
  refine T.F_law_purse.ok sc_law_purse (fun vs H Q E h => by obtain ⟨a, ns, i, rfl, _⟩ := h; rfl) (fun cdv A outer s H vs Q E hr h => ?_)
  obtain ⟨a, ns, i, rfl, hS, q⟩ := h
  refine ⟨_, PSs.nox (pss_cons (ps_set (i := 2) sc_law_purse.nd rfl (by first | exact Or.inl rfl | exact Or.inr rfl) (pe_callTy call_int1 (by rfl) T.n_int (by decide +kernel) (pa_cons (pe_ifExp (pt_cmpR op_lt (pv 1) (pe_callB (k_len K rfl) (by rfl) T.n_len (by decide +kernel) (pa_cons (pv 0) pa_nil)) (nomark _)) (pe_ix (k_ixL K rfl) (pv 0) (pv 1) (fun _ _ => rfl)) (pe_op op_mod (pe_callB (k_sum K rfl rfl) (by rfl) T.n_sum (by decide +kernel) (pa_cons (pe_slice (k_slL K rfl) (pv 0) po_none (po_some pe_int)) pa_nil)) pe_int)) pa_nil)))
  (pss_one (ps_ret (pe_lst (pa_cons (pe_op op_mul (pe_callTy call_int1 (by rfl) T.n_int (by decide +kernel) (pa_cons (pe_cmpR op_ge (pv 2) (pe_op op_powW pe_int pe_int) (nomark _)) pa_nil)) (pe_op op_mod (pv 2) (pe_op op_powW (pe_op op_powW pe_int pe_int) pe_int))) (pa_cons (pe_op op_mod (pv 2) pe_int) (pa_cons (pe_op op_mul pe_int (pv 1)) pa_nil))))))), ?_⟩
  refine ⟨_, rfl, _, rfl, a, _, rfl, .inl hS, _, _, rfl, rfl, _, rfl, ite2 (fun e => ?_) (fun e => ?_)⟩
  · have e1 : (i : Int) < (((ns.map V.int).length : Nat) : Int) := of_decide_eq_true e
    rw [List.length_map] at e1
    have hi : i < ns.length := by omega
    have s1 : Same H H := Same.refl _
    refine ⟨_, rfl, _, rfl, a, _, _, .int ns[i], rfl, rfl, hS, atI_nat (by rw [List.getElem?_map, List.getElem?_eq_getElem hi]; rfl), ?_⟩
    refine .inl ⟨_, rfl, ?_⟩
    walk_at "go"
    refine ⟨⟨by decide, by decide +kernel⟩, ?_⟩
    walk_at "go"
    refine ⟨⟨by decide, by decide +kernel⟩, ?_⟩
    walk_at "go"
    refine ⟨⟨by decide, by decide +kernel⟩, ?_⟩
    walk_at "go"
    refine ⟨(by show (0 : Int) < _; decide +kernel), ?_⟩
    refine ⟨_, _, rfl, rfl, .inl ⟨by split <;> decide, by split <;> decide⟩, ?_⟩
    walk_at "go"
    refine ⟨(by show (0 : Int) < _; decide), ?_⟩
    walk_at "go"
    refine ⟨.inl ⟨by decide, by decide⟩, (show 3 ≤ sizeLine by decide), fun g ng => ?_⟩
    exact q _ g (s1.trans (same_upd ng)) (s1.free ng) ⟨_, _, _, upd_same, by omega, by omega⟩
  · refine ⟨_, rfl, _, rfl, a, _, rfl, hS, fun p np => ?_⟩
    have ec : ∃ ms : List Int, cutV (ns.map V.int) none (some 1) = ms.map V.int := by
      unfold cutV
      exact ⟨(ns.drop (HT.sIx (ns.map V.int).length 0 none)).take (HT.sIx (ns.map V.int).length (ns.map V.int).length (some 1) - HT.sIx (ns.map V.int).length 0 none), by rw [List.map_take, List.map_drop]⟩
    obtain ⟨ms, em⟩ := ec
    have s1 : Same H (upd H p (.lst (cutV (ns.map V.int) none (some 1)))) := same_upd np
    refine ⟨p, ms, rfl, .inl (.inl (by rw [upd_same, em])), _, _, rfl, rfl, (by show (0 : Int) < 1000003; decide), ?_⟩
    refine .inl ⟨_, rfl, ?_⟩
    walk_at "go"
    refine ⟨⟨by decide, by decide +kernel⟩, ?_⟩
    walk_at "go"
    refine ⟨⟨by decide, by decide +kernel⟩, ?_⟩
    walk_at "go"
    refine ⟨⟨by decide, by decide +kernel⟩, ?_⟩
    walk_at "go"
    refine ⟨(by show (0 : Int) < _; decide +kernel), ?_⟩
    refine ⟨_, _, rfl, rfl, .inl ⟨by split <;> decide, by split <;> decide⟩, ?_⟩
    walk_at "go"
    refine ⟨(by show (0 : Int) < _; decide), ?_⟩
    walk_at "go"
    refine ⟨.inl ⟨by decide, by decide⟩, (show 3 ≤ sizeLine by decide), fun g ng => ?_⟩
    exact q _ g (s1.trans (same_upd ng)) (s1.free ng) ⟨_, _, _, upd_same, by omega, by omega⟩
def sp_law_draw : Sp := fun vs H Q _ => ∃ (g : Addr) (b : Int) (n : Nat), vs = [.ref g, .int b] ∧ GenAt H g n ∧ n ≤ 10 ^ 12 ∧ 0 < b ∧ b < 2 ^ 2900 ∧ ∀ (d : Int) H', 0 ≤ d → d < b → GenAt H' g (n + 100) → But g H H' → Q (.int d) H'
theorem G_law_draw (T : Top K mg) : FnOk P w K mg base CX0 1 T.f_law_draw T.fd_law_draw ["_law_purse_here", "_law_many"] sp_law_draw := by
  refine T.F_law_draw.ok sc_law_draw (fun vs H Q E h => by obtain ⟨g, b, n, rfl, _⟩ := h; rfl) (fun cdv A outer s H vs Q E hr h => ?_)
  obtain ⟨g, b, n, rfl, ⟨x, y, z, hg, z0, z1⟩, hn, b0, b1, q⟩ := h
  refine ⟨_, PSs.nox (pss_cons (ps_if (pt_cmpR op_gt (pe_ix (k_ixL K rfl) (pv 0) pe_int (fun _ _ => rfl)) pe_int (nomark _))
    (pss_cons (ps_set (i := 3) sc_law_draw.nd rfl (by first | exact Or.inl rfl | exact Or.inr rfl) (pe_op op_mod (pe_ix (k_ixL K rfl) (pv 0) pe_int (fun _ _ => rfl)) (pv 1)))
  (pss_cons (ps_asg (pe_op op_fdivW (pe_ix (k_ixL K rfl) (pv 0) pe_int (fun _ _ => rfl)) (pv 1)) (pg_sub (pv 0) pe_int set_list))
  (pss_one (ps_ret (pv 3)))))
    pss_nil)
  (pss_cons (ps_asg (pe_op op_add (pe_ix (k_ixL K rfl) (pv 0) pe_int (fun _ _ => rfl)) pe_int) (pg_sub (pv 0) pe_int set_list))
  (pss_cons (ps_set (i := 2) sc_law_draw.nd rfl (by first | exact Or.inl rfl | exact Or.inr rfl) (pe_op op_mod (pe_op op_add (pe_op op_add (pe_op op_mul (pe_ix (k_ixL K rfl) (pv 0) pe_int (fun _ _ => rfl)) pe_int) (pe_op op_mul (pe_ix (k_ixL K rfl) (pv 0) pe_int (fun _ _ => rfl)) pe_int)) pe_int) pe_int))
  (pss_cons (ps_set (i := 2) sc_law_draw.nd rfl (by first | exact Or.inl rfl | exact Or.inr rfl) (pe_op op_mod (pe_op op_add (pe_op op_mul (pv 2) (pv 2)) (pe_ix (k_ixL K rfl) (pv 0) pe_int (fun _ _ => rfl))) pe_int))
  (pss_cons (ps_set (i := 2) sc_law_draw.nd rfl (by first | exact Or.inl rfl | exact Or.inr rfl) (pe_op op_mod (pe_op op_add (pe_op op_mul (pv 2) (pv 2)) pe_int) pe_int))
  (pss_one (ps_ret (pe_op op_mod (pe_op op_fdivW (pv 2) pe_int) (pv 1))))))))), ?_⟩
  have a0 : ∀ x y z : Int, atI [V.int x, .int y, .int z] 0 = some (.int x) := fun _ _ _ => rfl
  have a1 : ∀ x y z : Int, atI [V.int x, .int y, .int z] 1 = some (.int y) := fun _ _ _ => rfl
  have a2 : ∀ x y z : Int, atI [V.int x, .int y, .int z] 2 = some (.int z) := fun _ _ _ => rfl
  have hS : SqL K H g [.int x, .int y, .int z] := .inl (.inl hg)
  have nb : b.natAbs < 2 ^ 2900 := by
    have e : ((b.natAbs : Nat) : Int) < ((2 ^ 2900 : Nat) : Int) := by
      rw [Int.natCast_pow]
      omega
    exact Int.ofNat_lt.mp e
  refine ⟨_, rfl, g, _, 0, _, rfl, rfl, hS, a0 x y z, _, _, rfl, rfl, _, rfl, ite2 (fun e => ?_) (fun e => ?_)⟩
  · refine ⟨_, rfl, g, _, 0, _, rfl, rfl, hS, a0 x y z, _, rfl, _, _, rfl, rfl, b0, ?_⟩
    refine ⟨_, rfl, g, _, 0, _, rfl, rfl, hS, a0 x y z, _, rfl, _, _, rfl, rfl, wide_div b0 nb (by decide) (by decide), _, rfl, g, _, 0, 0, rfl, rfl, hg, rfl, _, rfl, ?_⟩
    exact q _ _ (Int.emod_nonneg _ (by omega)) (Int.emod_lt_of_pos _ b0) ⟨_, _, _, upd_same, z0, by omega⟩ (But.upd But.refl)
  · refine ⟨_, rfl, g, _, 2, _, rfl, rfl, hS, a2 x y z, _, _, rfl, rfl, _, rfl, g, _, 2, 2, rfl, rfl, hg, rfl, ?_⟩
    have hg2 : upd H g (.lst [V.int x, .int y, .int (z + 1)]) g = some (.lst [V.int x, .int y, .int (z + 1)]) := upd_same
    have b2 : But g H (upd H g (.lst [V.int x, .int y, .int (z + 1)])) := But.upd But.refl
    rw [show ([V.int x, V.int y, V.int z].set 2 (V.int (z + 1))) = [V.int x, .int y, .int (z + 1)] from rfl]
    generalize upd H g (.lst [V.int x, .int y, .int (z + 1)]) = H2 at *
    have hS2 : SqL K H2 g [.int x, .int y, .int (z + 1)] := .inl (.inl hg2)
    walk_at "go"
    refine ⟨g, _, 1, _, rfl, rfl, hS2, a1 _ _ _, ?_⟩
    walk_at "go"
    refine ⟨.inr ⟨by decide, by decide⟩, ?_⟩
    walk_at "go"
    refine ⟨g, _, 2, _, rfl, rfl, hS2, a2 _ _ _, ?_⟩
    walk_at "go"
    refine ⟨.inr ⟨by decide, by decide⟩, ?_⟩
    walk_at "go"
    refine ⟨(by show (0 : Int) < _; decide), ?_⟩
    walk_at "go"
    refine ⟨cmul_mod _ _ _ (by decide) (by decide), ?_⟩
    walk_at "go"
    refine ⟨g, _, 2, _, rfl, rfl, hS2, a2 _ _ _, ?_⟩
    walk_at "go"
    refine ⟨(by show (0 : Int) < _; decide), ?_⟩
    walk_at "go"
    refine ⟨cmul_mod _ _ _ (by decide) (by decide), ?_⟩
    walk_at "go"
    refine ⟨(by show (0 : Int) < _; decide), ?_⟩
    walk_at "go"
    refine ⟨⟨by decide, by decide⟩, ?_⟩
    walk_at "go"
    refine ⟨b0, ?_⟩
    exact q _ _ (Int.emod_nonneg _ (by omega)) (Int.emod_lt_of_pos _ b0) ⟨_, _, _, hg2, by omega, by omega⟩ b2
end
end My

namespace My
open PySem PySem.Spec PyProof.Rows L2 Pre
theorem ty_list {K : PySem.W.Frag} {H : Hp} {a : Addr} {xs : List V} (h : H a = some (.lst xs)) : TyX K H (.ref a) (.type "list") := .base (.lst h)
theorem ty_tup {K : PySem.W.Frag} {H : Hp} {a : Addr} {xs : List V} (h : H a = some (.tup xs)) : TyX K H (.ref a) (.type "tuple") := .base (.tup h)
theorem fm_non0 {α β : Type} (l : List α) : (l.map fun _ => (none : Option β)).filterMap id = [] := by
  induction l with
  | nil => rfl
  | cons n r ih => simp
local macro_rules | `(tactic| walk_at "go") => `(tactic| repeat (first | (with_reducible first | refine iteT ?_ | refine iteF ?_ | refine iteNtt ?_ | refine iteNff ?_ | refine iteET (by omega) ?_ | refine iteEF (by omega) ?_ | refine iteENT (by omega) ?_ | refine iteENF (by omega) ?_ | refine iteDT (by omega) ?_ | refine iteDF (by omega) ?_ | refine iteNT (by omega) ?_ | refine iteNF (by omega) ?_) | refine ⟨_, rfl, ?_⟩ | refine ⟨_, _, rfl, rfl, ?_⟩ | refine ⟨_, _, rfl, ?_⟩ | refine ⟨rfl, ?_⟩ | refine .inl ⟨_, rfl, ?_⟩ | refine .inr ⟨_, rfl, ?_⟩))
local macro_rules | `(tactic| walk_at "b") => `(tactic| try dsimp (config := { proj := false, iota := false, eta := false, zeta := false }) only)
section
variable {P : Program} {w : World} {K : PySem.W.Frag} {mg : Str → Option Value} {base : Heap}
def sp_are_wholes : Sp := fun vs H Q _ => ∃ (a : Addr) (ns : List Int), vs = [.ref a] ∧ H a = some (.lst (ns.map V.int)) ∧ ns.length ≤ 1000 ∧ ∀ H', Same H H' → Q (.bl true) H'
theorem G_are_wholes (T : Top K mg) : FnOk P w K mg base CX0 2 T.f_are_wholes T.fd_are_wholes ["value"] sp_are_wholes := by
  refine T.F_are_wholes.ok sc_are_wholes (fun vs H Q E h => by obtain ⟨a, ns, rfl, _⟩ := h; rfl) (fun cdv A outer s H vs Q E hr h => ?_)
  obtain ⟨a, ns, rfl, hA, hn, q⟩ := h
  refine ⟨_, PSs.nox (pss_one (ps_ret (pe_and (pe_callB (k_isi K rfl) (by rfl) T.n_isinstance (by decide +kernel) (pa_cons (pv 0) (pa_cons (pe_bltn (v := .ty "list") (by rfl) T.n_list (by decide +kernel) rfl) pa_nil))) (pe_one (pe_cmpR (k_eqD K rfl hr.units) (pe_lc (own := [("item", 1)]) (g := gName 1) (by rfl) sc_are_wholes.nd (k_piL K rfl (pv 0)) (blkOk_by (own := [("item", 1)]) (N := N_are_wholes) (sc := defScope s_are_wholes) (by decide +kernel)) (fun _ _ _ _ _ => (pg_name (i := 1) sc_are_wholes.nd rfl (by first | exact Or.inl rfl | exact Or.inr rfl))) (fun _ _ _ _ _ => (pts_one (pt_not (pt_val (pe_call (G_is_whole T) (hr.mono (by decide)) (by rfl) T.g_is_whole T.F_is_whole.kp T.b_is_whole .nil pass0 (pa_cons (pv 1) pa_nil)))))) (fun _ _ _ _ _ => (pv 1))) (pe_lst pa_nil) (nomark _)))))), ?_⟩
  have hS : SqL K H a (ns.map V.int) := .inl (.inl hA)
  refine ⟨_, rfl, _, _, _, _, true, rfl, .ty _, ty_list hA, kit_ty (by decide +kernel), true, rfl, iteT ?_⟩
  refine ⟨_, rfl, a, rfl, ⟨_, hS⟩, fun D nD => ?_⟩
  refine lc_selL (K := K) (xs := ns.map V.int) (ns.map fun _ => none) nD hS (by rw [List.length_map, List.length_map]) (by rw [List.length_map]; exact small1000 hn) (fun x => rfl) ?_ ?_
  · intro i x o H' hx ho s Qt qt
    obtain ⟨n, hn, rfl⟩ := int_at hx
    rw [List.getElem?_map, hn] at ho
    cases ho
    refine ⟨_, rfl, n, rfl, true, rfl, ?_⟩
    exact qt _ (Same.refl _)
  · intro H' s hD
    rw [fm_non0] at hD
    refine ⟨Nat.zero_le _, fun p np => ?_⟩
    refine eq_lst (ns := []) (.inl (.inl (same_upd np _ _ hD))) (.inl (.inl upd_same)) ?_
    exact q _ (s.trans (same_upd np))
def sp_is_lift : Sp := fun vs H Q _ => ∃ (v : V) (n : Nat) (s : Step), vs = [v, .int n] ∧ StepV (fun _ => True) H v s ∧ s.ok n ∧ n ≤ 4 ∧ ∀ H', Same H H' → Q (.bl (match s with | .lift .. => true | _ => false)) H'
theorem G_is_lift (T : Top K mg) : FnOk P w K mg base CX0 3 T.f_is_lift T.fd_is_lift ["value", "wide"] sp_is_lift := by
  refine T.F_is_lift.ok sc_is_lift (fun vs H Q E h => by obtain ⟨v, n, s, rfl, _⟩ := h; rfl) (fun cdv A outer s H vs Q E hr h => ?_)
  obtain ⟨v, n, s, rfl, hV, hO, hn, q⟩ := h
  refine ⟨_, PSs.nox (pss_cons (ps_if (PW.pt (pw_or (pt_not (pt_val (pe_callB (k_isi K rfl) (by rfl) T.n_isinstance (by decide +kernel) (pa_cons (pv 0) (pa_cons (pe_bltn (v := .ty "tuple") (by rfl) T.n_tuple (by decide +kernel) rfl) pa_nil))))) (pw_or (pt_cmpR op_ne (pe_callB (k_len K rfl) (by rfl) T.n_len (by decide +kernel) (pa_cons (pv 0) pa_nil)) pe_int (nomark _)) (pw_or1 (pt_cmpR op_ne (pe_ix (k_ixT K rfl) (pv 0) pe_int (fun _ _ => rfl)) pe_str (nomark _))))))
    (pss_one (ps_ret pe_bl))
    pss_nil)
  (pss_cons (ps_if (PW.pt (pw_or (pt_not (pt_val (pe_call (G_is_between T) (hr.mono (by decide)) (by rfl) T.g_is_between T.F_is_between.kp T.b_is_between .nil pass0 (pa_cons (pe_ix (k_ixT K rfl) (pv 0) pe_int (fun _ _ => rfl)) (pa_cons pe_int (pa_cons (pe_op op_sub (pv 1) pe_int) pa_nil)))))) (pw_or1 (pt_not (pt_val (pe_call (G_is_between T) (hr.mono (by decide)) (by rfl) T.g_is_between T.F_is_between.kp T.b_is_between .nil pass0 (pa_cons (pe_ix (k_ixT K rfl) (pv 0) pe_int (fun _ _ => rfl)) (pa_cons pe_int (pa_cons pe_non pa_nil)))))))))
    (pss_one (ps_ret pe_bl))
    pss_nil)
  (pss_one (ps_ret (pe_and (pe_call (G_are_wholes T) (hr.mono (by decide)) (by rfl) T.g_are_wholes T.F_are_wholes.kp T.b_are_wholes .nil pass0 (pa_cons (pe_ix (k_ixT K rfl) (pv 0) pe_int (fun _ _ => rfl)) pa_nil)) (pe_and (pe_cmpR op_eq (pe_callB (k_len K rfl) (by rfl) T.n_len (by decide +kernel) (pa_cons (pe_ix (k_ixT K rfl) (pv 0) pe_int (fun _ _ => rfl)) pa_nil)) (pv 1) (nomark _)) (pe_one (pe_cmpR op_eq (pe_ix (k_ixL K rfl) (pe_ix (k_ixT K rfl) (pv 0) pe_int (fun _ _ => rfl)) (pe_ix (k_ixT K rfl) (pv 0) pe_int (fun _ _ => rfl)) (fun _ _ => rfl)) pe_int (nomark _))))))))), ?_⟩
  cases s with
  | turn i =>
    obtain ⟨t, rfl, ht⟩ := hV
    refine ⟨_, rfl, _, _, _, _, true, rfl, .ty _, ty_tup ht, kit_ty (by decide +kernel), true, rfl, ?_⟩
    walk_at "go"
    refine ⟨t, _, rfl, .inr (.inl (.inl ht)), ?_⟩
    walk_at "go"
    walk_at "b"
    refine iteENT (by show ¬ ((2 : Int) = 4); decide) ?_
    walk_at "go"
    exact q _ (Same.refl _)
  | swap i j =>
    obtain ⟨t, rfl, ht⟩ := hV
    refine ⟨_, rfl, _, _, _, _, true, rfl, .ty _, ty_tup ht, kit_ty (by decide +kernel), true, rfl, ?_⟩
    walk_at "go"
    refine ⟨t, _, rfl, .inr (.inl (.inl ht)), ?_⟩
    walk_at "go"
    walk_at "b"
    refine iteENT (by show ¬ ((3 : Int) = 4); decide) ?_
    walk_at "go"
    exact q _ (Same.refl _)
  | lift b ws sh =>
    obtain ⟨t, l, rfl, ht, hl, _⟩ := hV
    have hT : SqT K H t [sL, .int b, .ref l, .int sh] := .inl (.inl ht)
    refine ⟨_, rfl, _, _, _, _, true, rfl, .ty _, ty_tup ht, kit_ty (by decide +kernel), true, rfl, ?_⟩
    walk_at "go"
    refine ⟨t, _, rfl, .inr hT, ?_⟩
    walk_at "go"
    obtain ⟨hb, hwl, hw0, hs15, hws⟩ := hO
    have x0 : atI [sL, V.int b, .ref l, .int sh] 0 = some sL := rfl
    have x1 : atI [sL, V.int b, .ref l, .int sh] 1 = some (.int b) := rfl
    have x2 : atI [sL, V.int b, .ref l, .int sh] 2 = some (.ref l) := rfl
    have x3 : atI [sL, V.int b, .ref l, .int sh] 3 = some (.int sh) := rfl
    refine ⟨t, _, _, _, rfl, rfl, hT, x0, ?_⟩
    walk_at "go"
    refine ⟨t, _, _, _, rfl, rfl, hT, x1, ?_⟩
    walk_at "go"
    refine ⟨b, 0, some ((n : Int) - 1), rfl, ?_⟩
    rw [decide_eq_true ⟨by omega, fun j h => by cases h; omega⟩]
    refine ⟨true, rfl, ?_⟩
    walk_at "go"
    refine ⟨t, _, _, _, rfl, rfl, hT, x3, ?_⟩
    walk_at "go"
    refine ⟨sh, 0, none, rfl, ?_⟩
    rw [decide_eq_true ⟨by omega, fun j h => nomatch h⟩]
    refine ⟨true, rfl, ?_⟩
    walk_at "go"
    refine ⟨t, _, _, _, rfl, rfl, hT, x2, ?_⟩
    walk_at "go"
    refine ⟨l, ws, rfl, hl, by omega, fun H1 s1 => ?_⟩
    have hT1 := Same.tup s1 hT
    have hl1 := s1 _ _ hl
    refine ⟨true, rfl, iteT ?_⟩
    walk_at "go"
    refine ⟨t, _, _, _, rfl, rfl, hT1, x2, ?_⟩
    walk_at "go"
    refine ⟨l, _, rfl, .inl (.inl (.inl hl1)), ?_⟩
    rw [List.length_map, hwl]
    walk_at "go"
    have hz : (ws.map V.int)[b]? = some (.int 0) := by
      rw [List.getElem?_map, List.getElem?_eq_getElem (show b < ws.length by omega)]
      rw [List.getD_eq_getElem?_getD, List.getElem?_eq_getElem (show b < ws.length by omega)] at hw0
      exact congrArg (fun z => some (V.int z)) hw0
    refine ⟨t, _, _, _, rfl, rfl, hT1, x2, ?_⟩
    walk_at "go"
    refine ⟨t, _, _, _, rfl, rfl, hT1, x1, ?_⟩
    walk_at "go"
    refine ⟨l, _, _, _, rfl, rfl, .inl (.inl hl1), atI_nat hz, ?_⟩
    walk_at "go"
    exact q _ s1
def sp_is_step : Sp := fun vs H Q _ => ∃ (v : V) (n : Nat) (s : Step), vs = [v, .int n] ∧ StepV (fun _ => True) H v s ∧ s.ok n ∧ n ≤ 4 ∧ ∀ H', Same H H' → Q (.bl true) H'
theorem G_is_step (T : Top K mg) : FnOk P w K mg base CX0 4 T.f_is_step T.fd_is_step ["value", "wide"] sp_is_step := by
  refine T.F_is_step.ok sc_is_step (fun vs H Q E h => by obtain ⟨v, n, s, rfl, _⟩ := h; rfl) (fun cdv A outer s H vs Q E hr h => ?_)
  obtain ⟨v, n, s, rfl, hV, hO, hn, q⟩ := h
  refine ⟨_, PSs.nox (pss_cons (ps_if (pt_val (pe_call (G_is_lift T) (hr.mono (by decide)) (by rfl) T.g_is_lift T.F_is_lift.kp T.b_is_lift .nil pass0 (pa_cons (pv 0) (pa_cons (pv 1) pa_nil))))
    (pss_one (ps_ret pe_bl))
    pss_nil)
  (pss_cons (ps_if (PW.pt (pw_or (pt_not (pt_val (pe_callB (k_isi K rfl) (by rfl) T.n_isinstance (by decide +kernel) (pa_cons (pv 0) (pa_cons (pe_bltn (v := .ty "tuple") (by rfl) T.n_tuple (by decide +kernel) rfl) pa_nil))))) (pw_or (pt_cmpR op_lt (pe_callB (k_len K rfl) (by rfl) T.n_len (by decide +kernel) (pa_cons (pv 0) pa_nil)) pe_int (nomark _)) (pw_or1 (pt_cmpR (k_notIn K rfl) (pe_ix (k_ixT K rfl) (pv 0) pe_int (fun _ _ => rfl)) (pe_tup (pa_cons pe_str (pa_cons pe_str pa_nil))) (by rfl))))))
    (pss_one (ps_ret pe_bl))
    pss_nil)
  (pss_cons (ps_if (pt_cmpR (k_neD K rfl hr.units) (pe_lc (own := [("at", 2)]) (g := gName 2) (by rfl) sc_is_step.nd (k_piT K rfl (pe_slice (k_slT K rfl) (pv 0) (po_some pe_int) po_none)) (blkOk_by (own := [("at", 2)]) (N := N_is_step) (sc := defScope s_is_step) (by decide +kernel)) (fun _ _ _ _ _ => (pg_name (i := 2) sc_is_step.nd rfl (by first | exact Or.inl rfl | exact Or.inr rfl))) (fun _ _ _ _ _ => (pts_one (pt_not (pt_val (pe_call (G_is_between T) (hr.mono (by decide)) (by rfl) T.g_is_between T.F_is_between.kp T.b_is_between .nil pass0 (pa_cons (pv 2) (pa_cons pe_int (pa_cons (pe_op op_sub (pv 1) pe_int) pa_nil)))))))) (fun _ _ _ _ _ => (pv 2))) (pe_lst pa_nil) (nomark _))
    (pss_one (ps_ret pe_bl))
    pss_nil)
  (pss_cons (ps_if (pt_cmpR op_eq (pe_ix (k_ixT K rfl) (pv 0) pe_int (fun _ _ => rfl)) pe_str (nomark _))
    (pss_one (ps_ret (pe_cmpR op_eq (pe_callB (k_len K rfl) (by rfl) T.n_len (by decide +kernel) (pa_cons (pv 0) pa_nil)) pe_int (nomark _))))
    pss_nil)
  (pss_one (ps_ret (pe_and (pe_cmpR op_eq (pe_callB (k_len K rfl) (by rfl) T.n_len (by decide +kernel) (pa_cons (pv 0) pa_nil)) pe_int (nomark _)) (pe_one (pe_cmpR op_ne (pe_ix (k_ixT K rfl) (pv 0) pe_int (fun _ _ => rfl)) (pe_ix (k_ixT K rfl) (pv 0) pe_int (fun _ _ => rfl)) (nomark _)))))))))), ?_⟩
  refine ⟨_, rfl, _, rfl, v, n, s, rfl, hV, hO, hn, fun H1 s1 => ?_⟩
  cases s with
  | lift b ws sh =>
    refine ⟨true, rfl, ?_⟩
    walk_at "go"
    exact q _ s1
  | turn i =>
    obtain ⟨t, rfl, ht⟩ := hV
    have ht1 := s1 _ _ ht
    have hT : SqT K H1 t [sT, .int i] := .inl (.inl ht1)
    have x0 : atI [sT, V.int i] 0 = some sT := rfl
    have x1 : atI [sT, V.int i] 1 = some (.int i) := rfl
    have hi : i < n := hO
    refine ⟨false, rfl, ?_⟩
    walk_at "go"
    refine ⟨_, _, _, _, true, rfl, .ty _, ty_tup ht1, kit_ty (by decide +kernel), true, rfl, ?_⟩
    walk_at "go"
    refine ⟨t, _, rfl, .inr hT, ?_⟩
    walk_at "go"
    refine ⟨t, _, _, _, rfl, rfl, hT, x0, ?_⟩
    refine ⟨(show 2 ≤ sizeLine by decide), fun p2 np2 => ?_⟩
    obtain ⟨H2, e2, s2, h2⟩ := fresh (.tup [sT, sS]) np2
    rw [show upd H1 p2 (HO.tup [V.str (Str.ofString "turn"), V.str (Str.ofString "swap")]) = H2 from e2]
    refine ⟨p2, _, rfl, .inr (.inl (.inl h2)), rfl, rfl, ?_⟩
    rw [show (!inV sT [sT, sS]) = false by decide +kernel]
    walk_at "go"
    have hT2 := Same.tup s2 hT
    refine ⟨t, _, rfl, hT2, (show ¬ (HT.sIx 2 0 (some 1) = 0 ∧ HT.sIx 2 2 none = 2) by decide), fun p3 np3 => ?_⟩
    obtain ⟨H3, e3, s3, h3⟩ := fresh (.tup [V.int (i : Int)]) np3
    rw [show upd H2 p3 (.tup (cutV [sT, .int i] (some 1) none)) = H3 from e3]
    walk_at "go"
    refine ⟨⟨_, .inl (.inl h3)⟩, fun D nD => ?_⟩
    refine lc_dW (walk_tup (K := K) (a := p3) (xs := [V.int (i : Int)])) (S := []) Has.nil [none] nD rfl (small1000 (show 1 ≤ 1000 by decide)) (fun H' s => .inl (.inl (s _ _ h3))) ?_ ?_
    · rintro k o H0 x H'' hk ho s0 hH ⟨rfl, hx⟩ Qt qt
      obtain ⟨a, ha, rfl⟩ : ∃ a : Nat, a < n ∧ x = .int (a : Int) := by
        match k, hx with
        | 0, hx => cases hx; exact ⟨i, hi, rfl⟩
        | k + 1, hx => simp at hx
      have eo : o = none := by
        match k, ho with
        | 0, ho => cases ho; rfl
        | k + 1, ho => simp at ho
      subst eo
      refine ⟨rfl, ?_⟩
      walk_at "go"
      refine ⟨a, 0, some ((n : Int) - 1), rfl, ?_⟩
      rw [decide_eq_true ⟨by omega, fun j h => by cases h; omega⟩]
      refine ⟨true, rfl, ?_⟩
      walk_at "go"
      exact qt none _ (Same.refl _) trivial
    intro H4 s4 _ dD
    rw [show ([none] : List (Option PyData)).filterMap id = ([] : List Int).map PyData.int from rfl, rs_nil] at dD
    obtain ⟨_, e, hD⟩ := Dt.intsE (ns := []) dD
    cases e
    walk_at "go"
    refine ⟨Nat.zero_le _, fun p4 np4 => ?_⟩
    obtain ⟨H5, e5, s5, h5⟩ := fresh (.lst []) np4
    rw [e5]
    refine ne_lst (ns := []) (.inl (.inl (s5 _ _ hD))) (.inl (.inl h5)) ?_
    have s25 := s3.trans (s4.trans s5)
    have hT5 := Same.tup s25 hT2
    have s05 := s1.trans (s2.trans s25)
    walk_at "go"
    refine ⟨t, _, _, _, rfl, rfl, hT5, x0, ?_⟩
    refine ⟨rfl, _, rfl, iteDT rfl ?_⟩
    walk_at "go"
    refine ⟨t, _, rfl, .inr hT5, ?_⟩
    exact ⟨rfl, q _ s05⟩
  | swap i j =>
    obtain ⟨t, rfl, ht⟩ := hV
    have ht1 := s1 _ _ ht
    have hT : SqT K H1 t [sS, .int i, .int j] := .inl (.inl ht1)
    have x0 : atI [sS, V.int i, .int j] 0 = some sS := rfl
    have x1 : atI [sS, V.int i, .int j] 1 = some (.int i) := rfl
    have x2 : atI [sS, V.int i, .int j] 2 = some (.int j) := rfl
    obtain ⟨hi, hj, hij⟩ := hO
    refine ⟨false, rfl, ?_⟩
    walk_at "go"
    refine ⟨_, _, _, _, true, rfl, .ty _, ty_tup ht1, kit_ty (by decide +kernel), true, rfl, ?_⟩
    walk_at "go"
    refine ⟨t, _, rfl, .inr hT, ?_⟩
    walk_at "go"
    refine ⟨t, _, _, _, rfl, rfl, hT, x0, ?_⟩
    refine ⟨(show 2 ≤ sizeLine by decide), fun p2 np2 => ?_⟩
    obtain ⟨H2, e2, s2, h2⟩ := fresh (.tup [sT, sS]) np2
    rw [show upd H1 p2 (HO.tup [V.str (Str.ofString "turn"), V.str (Str.ofString "swap")]) = H2 from e2]
    refine ⟨p2, _, rfl, .inr (.inl (.inl h2)), rfl, rfl, ?_⟩
    rw [show (!inV sS [sT, sS]) = false by decide +kernel]
    walk_at "go"
    have hT2 := Same.tup s2 hT
    refine ⟨t, _, rfl, hT2, (show ¬ (HT.sIx 3 0 (some 1) = 0 ∧ HT.sIx 3 3 none = 3) by decide), fun p3 np3 => ?_⟩
    obtain ⟨H3, e3, s3, h3⟩ := fresh (.tup [V.int (i : Int), V.int (j : Int)]) np3
    rw [show upd H2 p3 (.tup (cutV [sS, .int i, .int j] (some 1) none)) = H3 from e3]
    walk_at "go"
    refine ⟨⟨_, .inl (.inl h3)⟩, fun D nD => ?_⟩
    refine lc_dW (walk_tup (K := K) (a := p3) (xs := [V.int (i : Int), V.int (j : Int)])) (S := []) Has.nil [none, none] nD rfl (small1000 (show 2 ≤ 1000 by decide)) (fun H' s => .inl (.inl (s _ _ h3))) ?_ ?_
    · rintro k o H0 x H'' hk ho s0 hH ⟨rfl, hx⟩ Qt qt
      obtain ⟨a, ha, rfl⟩ : ∃ a : Nat, a < n ∧ x = .int (a : Int) := by
        match k, hx with
        | 0, hx => cases hx; exact ⟨i, hi, rfl⟩
        | 1, hx => cases hx; exact ⟨j, hj, rfl⟩
        | k + 2, hx => simp at hx
      have eo : o = none := by
        match k, ho with
        | 0, ho => cases ho; rfl
        | 1, ho => cases ho; rfl
        | k + 2, ho => simp at ho
      subst eo
      refine ⟨rfl, ?_⟩
      walk_at "go"
      refine ⟨a, 0, some ((n : Int) - 1), rfl, ?_⟩
      rw [decide_eq_true ⟨by omega, fun j h => by cases h; omega⟩]
      refine ⟨true, rfl, ?_⟩
      walk_at "go"
      exact qt none _ (Same.refl _) trivial
    intro H4 s4 _ dD
    rw [show ([none, none] : List (Option PyData)).filterMap id = ([] : List Int).map PyData.int from rfl, rs_nil] at dD
    obtain ⟨_, e, hD⟩ := Dt.intsE (ns := []) dD
    cases e
    walk_at "go"
    refine ⟨Nat.zero_le _, fun p4 np4 => ?_⟩
    obtain ⟨H5, e5, s5, h5⟩ := fresh (.lst []) np4
    rw [e5]
    refine ne_lst (ns := []) (.inl (.inl (s5 _ _ hD))) (.inl (.inl h5)) ?_
    have s25 := s3.trans (s4.trans s5)
    have hT5 := Same.tup s25 hT2
    have s05 := s1.trans (s2.trans s25)
    walk_at "go"
    refine ⟨t, _, _, _, rfl, rfl, hT5, x0, ?_⟩
    refine ⟨rfl, _, rfl, iteDF (by decide) ?_⟩
    walk_at "go"
    refine ⟨t, _, rfl, .inr hT5, ?_⟩
    refine ⟨rfl, _, rfl, iteDT rfl ?_⟩
    walk_at "go"
    refine ⟨t, _, _, _, rfl, rfl, hT5, x1, ?_⟩
    walk_at "go"
    refine ⟨t, _, _, _, rfl, rfl, hT5, x2, ?_⟩
    have z := q _ s05
    rw [show true = (!decide (V.int (i : Int) = V.int (j : Int))) by rw [decide_eq_false (fun z => hij (by have := V.int.inj z; omega))]; rfl] at z
    exact ⟨rfl, z⟩
end
end My

namespace My
open PySem PySem.Spec PyProof.Rows L2 Pre
theorem take_snoc {α : Type} {l : List α} {i : Nat} {x : α} (h : l[i]? = some x) : l.take (i + 1) = l.take i ++ [x] := by
  rw [List.take_add_one, h]
  rfl
theorem tyx_insC {K : PySem.W.Frag} {H : Hp} {a C dx : Addr} {fs : List (Str × V)} (c : C8.InsC K C) (h : H a = some (.ins C dx fs)) : TyX K H (.ref a) (.ref C) := .base (.ins h c.cl c.ha c.hn c.htk c.hm)
/-- a comprehension that makes steps or rows of the items of a list -/
theorem lc_stp {K : PySem.W.Frag} {a : Addr} {xs : List V} {j : Nat} {te : TE} {vs : List Nat} {σ : L2.St} {H1 : Hp} {D : Addr} {Qd : Hp → Prop} {ss : List Step} (R : Hp → V → Step → Prop) (hR : ∀ {H H' : Hp}, (∃ ys, H D = some (.lst ys)) → (∀ b o, b ≠ D → H b = some o → H' b = some o) → ∀ v s, R H v s → R H' v s)
    (nD : H1 D = none) (hA : SqL K H1 a xs) (hl : xs.length = ss.length) (hz : xs.length < sizeLine)
    (hw : ∀ x, wipe ((wipe σ vs).set j (some x)) vs = wipe σ vs)
    (hs : ∀ (i : Nat) (x : V) (s : Step) (H' : Hp), xs[i]? = some x → ss[i]? = some s → Same H1 H' → (∃ ys, H' D = some (.lst ys)) → ∀ Qt : V → Hp → Prop, (∀ y H'', Same H' H'' → R H'' y s → Qt y H'') → te ((wipe σ vs).set j (some x)) H' Qt)
    (hd : ∀ H' ys, Same H1 H' → H' D = some (.lst ys) → AllV (R H') ys ss → Qd H') :
    ∃ W : Nat → Nat → Hp → Prop, (∃ m, W 0 m (upd H1 D (.lst []))) ∧ ∀ i m H, W i m H →
      ((Itl K a).stop i H ∧ Qd H) ∨ ((Itl K a).go i H ∧ ∃ Nx : Hp → Prop, (∀ H', Nx H' → ∃ m', m' < m ∧ W (i + 1) m' H') ∧ ∀ x H', (Itl K a).yld i H x H' → gName j x (wipe σ vs) H' fun σ2 H2 => wipe σ2 vs = wipe σ vs ∧ tYes σ2 H2 fun b H3 =>
        if b = true then te σ2 H3 fun y H4 => ∃ acc, H4 D = some (.lst acc) ∧ acc.length < sizeLine ∧ Nx (upd H4 D (.lst (acc ++ [y]))) else Nx H3) := by
  refine lc_list (K := K) (a := a) (xs := xs) (fun i H => Same H1 H ∧ ∃ ys, H D = some (.lst ys) ∧ AllV (R H) ys (ss.take i)) ⟨same_upd nD, [], upd_same, trivial⟩ (fun i H _ p => p.1.seq hA) ?_ ?_
  · rintro i x H hx ⟨s1, ys, hD, hy⟩
    refine ⟨hw _, ?_⟩
    have hi := (List.getElem?_eq_some_iff.mp hx).1
    have hsi : ss[i]? = some (ss[i]'(by omega)) := List.getElem?_eq_getElem (by omega)
    unfold tYes
    dsimp only
    rw [if_pos (show true = true from rfl)]
    refine hs i x _ H hx hsi s1 ⟨ys, hD⟩ _ fun y H2 s2 r => ?_
    have hD2 := s2 _ _ hD
    have hyl := hy.len
    rw [List.length_take] at hyl
    refine ⟨ys, hD2, by omega, same_over nD (s1.trans s2), ys ++ [y], upd_same, ?_⟩
    rw [take_snoc hsi]
    have k : ∀ b o, b ≠ D → H2 b = some o → upd H2 D (.lst (ys ++ [y])) b = some o := fun b o nb h => by rw [upd_ne nb]; exact h
    exact (hy.imp fun v s h => hR ⟨_, hD2⟩ k v s (hR ⟨_, hD⟩ (fun b o _ h => s2 b o h) v s h)).app ⟨hR ⟨_, hD2⟩ k _ _ r, trivial⟩
  · rintro H ⟨s1, ys, hD, hy⟩
    rw [hl, List.take_length] at hy
    exact hd H ys s1 hD hy
theorem row_off {D : Addr} {H H' : Hp} (h : ∃ ys, H D = some (.lst ys)) (k : ∀ b o, b ≠ D → H b = some o → H' b = some o) (v : V) (s : Step) (r : RowV H v s) : RowV H' v s :=
  RowV.lk (M := fun b => b = D) (fun b o n e => k b o n e) (fun b e => by rw [e]; exact h) r
theorem step_off {D : Addr} {H0 H H' : Hp} (h : ∃ ys, H D = some (.lst ys)) (k : ∀ b o, b ≠ D → H b = some o → H' b = some o) (v : V) (s : Step) (r : StepV (fun l => l ≠ D ∧ H0 l = none) H v s) : StepV (fun l => l ≠ D ∧ H0 l = none) H' v s :=
  StepV.lk (M := fun b => b = D) (fun b o n e => k b o n e) (fun b e => by rw [e]; exact h) (fun l n e => n.1 e) r
local macro_rules | `(tactic| walk_at "go") => `(tactic| repeat (first | (with_reducible first | refine iteT ?_ | refine iteF ?_ | refine iteNtt ?_ | refine iteNff ?_ | refine iteET (by omega) ?_ | refine iteEF (by omega) ?_ | refine iteENT (by omega) ?_ | refine iteENF (by omega) ?_ | refine iteDT (by omega) ?_ | refine iteDF (by omega) ?_ | refine iteNT (by omega) ?_ | refine iteNF (by omega) ?_) | refine ⟨_, rfl, ?_⟩ | refine ⟨_, _, rfl, rfl, ?_⟩ | refine ⟨_, _, rfl, ?_⟩ | refine ⟨rfl, ?_⟩ | refine .inl ⟨_, rfl, ?_⟩ | refine .inr ⟨_, rfl, ?_⟩))
local macro_rules | `(tactic| walk_at "b") => `(tactic| try dsimp (config := { proj := false, iota := false, eta := false, zeta := false }) only)
section
variable {P : Program} {w : World} {K : PySem.W.Frag} {mg : Str → Option Value} {base : Heap}
def sp_check_number : Sp := fun vs H Q _ => ∃ (i lo : Int) (hi : Option Int), vs = [.int i, .int lo, (match hi with | some j => .int j | none => .non)] ∧ lo ≤ i ∧ (∀ j, hi = some j → i ≤ j) ∧ Q .non H
theorem G_check_number (T : Top K mg) : FnOk P w K mg base CX0 3 T.f_check_number T.fd_check_number ["number", "low", "high"] sp_check_number := by
  refine T.F_check_number.ok sc_check_number (fun vs H Q E h => by obtain ⟨i, lo, hi, rfl, _⟩ := h; rfl) (fun cdv A outer s H vs Q E hr h => ?_)
  obtain ⟨i, lo, hi, rfl, h0, h1, q⟩ := h
  refine ⟨_, PSs.nox (pss_one (ps_if (pt_not (pt_val (pe_call (G_is_between T) (hr.mono (by decide)) (by rfl) T.g_is_between T.F_is_between.kp T.b_is_between .nil pass0 (pa_cons (pv 0) (pa_cons (pv 1) (pa_cons (pv 2) pa_nil))))))
    (pss_one ps_never)
    pss_nil)), ?_⟩
  refine ⟨_, rfl, _, rfl, _, rfl, i, lo, hi, rfl, _, rfl, ?_⟩
  rw [decide_eq_true ⟨h0, h1⟩]
  exact iteF q
def sp_closed : Sp := fun vs H Q _ => ∃ (v : V) (s : Step), vs = [v] ∧ StepV (fun _ => True) H v s ∧ ∀ H' v', Same H H' → RowV H' v' s → Q v' H'
theorem G_closed (T : Top K mg) : FnOk P w K mg base CX0 1 T.f_closed T.fd_closed ["step"] sp_closed := by
  refine T.F_closed.ok sc_closed (fun vs H Q E h => by obtain ⟨v, s, rfl, _⟩ := h; rfl) (fun cdv A outer s H vs Q E hr h => ?_)
  obtain ⟨v, s, rfl, hV, q⟩ := h
  refine ⟨_, PSs.nox (pss_one (ps_ret (pe_ifExp (pt_cmpR op_eq (pe_ix (k_ixT K rfl) (pv 0) pe_int (fun _ _ => rfl)) pe_str (nomark _)) (pe_tup (pa_cons (pe_ix (k_ixT K rfl) (pv 0) pe_int (fun _ _ => rfl)) (pa_cons (pe_ix (k_ixT K rfl) (pv 0) pe_int (fun _ _ => rfl)) (pa_cons (pe_callTy (k_tupleOf K rfl) (by rfl) T.n_tuple (by decide +kernel) (pa_cons (pe_ix (k_ixT K rfl) (pv 0) pe_int (fun _ _ => rfl)) pa_nil)) (pa_cons (pe_ix (k_ixT K rfl) (pv 0) pe_int (fun _ _ => rfl)) pa_nil))))) (pv 0)))), ?_⟩
  cases s with
  | turn i =>
    obtain ⟨t, rfl, ht⟩ := hV
    have hT : SqT K H t [sT, .int i] := .inl (.inl ht)
    refine ⟨_, rfl, t, _, _, _, rfl, rfl, hT, rfl, rfl, _, rfl, iteDF (by decide) ?_⟩
    exact ⟨_, rfl, q _ _ (Same.refl _) ⟨t, rfl, ht⟩⟩
  | swap i j =>
    obtain ⟨t, rfl, ht⟩ := hV
    have hT : SqT K H t [sS, .int i, .int j] := .inl (.inl ht)
    refine ⟨_, rfl, t, _, _, _, rfl, rfl, hT, rfl, rfl, _, rfl, iteDF (by decide) ?_⟩
    exact ⟨_, rfl, q _ _ (Same.refl _) ⟨t, rfl, ht⟩⟩
  | lift b ws sh =>
    obtain ⟨t, l, rfl, ht, hl, _⟩ := hV
    have hT : SqT K H t [sL, .int b, .ref l, .int sh] := .inl (.inl ht)
    refine ⟨_, rfl, t, _, _, _, rfl, rfl, hT, rfl, rfl, _, rfl, iteDT rfl ?_⟩
    refine ⟨_, rfl, t, _, _, _, rfl, rfl, hT, rfl, ?_⟩
    refine ⟨_, rfl, t, _, _, _, rfl, rfl, hT, rfl, ?_⟩
    refine ⟨_, rfl, t, _, _, _, rfl, rfl, hT, rfl, ?_⟩
    refine ⟨l, _, rfl, .inl ⟨.inl (.inl hl), fun p np => ?_⟩⟩
    obtain ⟨H1, e1, s1, h1⟩ := fresh (.tup (ws.map V.int)) np
    rw [e1]
    refine ⟨_, rfl, t, _, _, _, rfl, rfl, Same.tup s1 hT, rfl, (show 4 ≤ sizeLine by decide), fun p2 np2 => ?_⟩
    obtain ⟨H2, e2, s2, h2⟩ := fresh (.tup [sL, V.int b, .ref p, .int sh]) np2
    rw [e2]
    exact q _ _ (s1.trans s2) ⟨p2, p, rfl, h2, s2 _ _ h1⟩
def sp_opened : Sp := fun vs H Q _ => ∃ (v : V) (s : Step), vs = [v] ∧ RowV H v s ∧ ∀ H' v', Same H H' → StepV (Fl H H') H' v' s → Q v' H'
theorem G_opened (T : Top K mg) : FnOk P w K mg base CX0 1 T.f_opened T.fd_opened ["row"] sp_opened := by
  refine T.F_opened.ok sc_opened (fun vs H Q E h => by obtain ⟨v, s, rfl, _⟩ := h; rfl) (fun cdv A outer s H vs Q E hr h => ?_)
  obtain ⟨v, s, rfl, hV, q⟩ := h
  refine ⟨_, PSs.nox (pss_one (ps_ret (pe_ifExp (pt_cmpR op_eq (pe_ix (k_ixT K rfl) (pv 0) pe_int (fun _ _ => rfl)) pe_str (nomark _)) (pe_tup (pa_cons (pe_ix (k_ixT K rfl) (pv 0) pe_int (fun _ _ => rfl)) (pa_cons (pe_ix (k_ixT K rfl) (pv 0) pe_int (fun _ _ => rfl)) (pa_cons (pe_callTy (k_listOf K rfl) (by rfl) T.n_list (by decide +kernel) (pa_cons (pe_ix (k_ixT K rfl) (pv 0) pe_int (fun _ _ => rfl)) pa_nil)) (pa_cons (pe_ix (k_ixT K rfl) (pv 0) pe_int (fun _ _ => rfl)) pa_nil))))) (pv 0)))), ?_⟩
  cases s with
  | turn i =>
    obtain ⟨t, rfl, ht⟩ := hV
    have hT : SqT K H t [sT, .int i] := .inl (.inl ht)
    refine ⟨_, rfl, t, _, _, _, rfl, rfl, hT, rfl, rfl, _, rfl, iteDF (by decide) ?_⟩
    exact ⟨_, rfl, q _ _ (Same.refl _) ⟨t, rfl, ht⟩⟩
  | swap i j =>
    obtain ⟨t, rfl, ht⟩ := hV
    have hT : SqT K H t [sS, .int i, .int j] := .inl (.inl ht)
    refine ⟨_, rfl, t, _, _, _, rfl, rfl, hT, rfl, rfl, _, rfl, iteDF (by decide) ?_⟩
    exact ⟨_, rfl, q _ _ (Same.refl _) ⟨t, rfl, ht⟩⟩
  | lift b ws sh =>
    obtain ⟨t, l, rfl, ht, hl⟩ := hV
    have hT : SqT K H t [sL, .int b, .ref l, .int sh] := .inl (.inl ht)
    refine ⟨_, rfl, t, _, _, _, rfl, rfl, hT, rfl, rfl, _, rfl, iteDT rfl ?_⟩
    refine ⟨_, rfl, t, _, _, _, rfl, rfl, hT, rfl, ?_⟩
    refine ⟨_, rfl, t, _, _, _, rfl, rfl, hT, rfl, ?_⟩
    refine ⟨_, rfl, t, _, _, _, rfl, rfl, hT, rfl, ?_⟩
    refine ⟨l, _, rfl, .inr (.inl (.inl hl)), fun p np => ?_⟩
    obtain ⟨H1, e1, s1, h1⟩ := fresh (.lst (ws.map V.int)) np
    rw [e1]
    refine ⟨_, rfl, t, _, _, _, rfl, rfl, Same.tup s1 hT, rfl, (show 4 ≤ sizeLine by decide), fun p2 np2 => ?_⟩
    obtain ⟨H2, e2, s2, h2⟩ := fresh (.tup [sL, V.int b, .ref p, .int sh]) np2
    rw [e2]
    exact q _ _ (s1.trans s2) ⟨p2, p, rfl, h2, s2 _ _ h1, np, _, s2 _ _ h1⟩
def sp_Mixer___init__ (C : Addr) (K : PySem.W.Frag) : Sp := fun vs H Q _ => ∃ (x dx p : Addr) (n : Nat) (ss : List Step), vs = [.ref x, .int n, .ref p] ∧ H x = some (.ins C dx []) ∧ 1 ≤ n ∧ n ≤ 4 ∧ StepsAt (fun _ => True) H p ss ∧ (∀ s ∈ ss, s.ok n) ∧ ss.length ≤ 100 ∧
  ∀ H' r, (∀ b o, b ≠ x → H b = some o → H' b = some o) → H r = none → MixAt C H' x r n ss → Q .non H'
theorem G_Mixer___init__ (T : Top K mg) : FnOk P w K mg base CX0 5 T.f_Mixer___init__ T.fd_Mixer___init__ ["self", "wide", "steps"] (sp_Mixer___init__ T.C_Mixer K) := by
  refine T.F_Mixer___init__.ok sc_Mixer___init__ (fun vs H Q E h => by obtain ⟨x, dx, p, n, ss, rfl, _⟩ := h; rfl) (fun cdv A outer s H vs Q E hr h => ?_)
  obtain ⟨x, dx, p, n, ss, rfl, hx, hn1, hn4, hS, hO, hl, q⟩ := h
  refine ⟨_, PSs.nox (pss_cons (ps_expr (pe_call (G_check_number T) (hr.mono (by decide)) (by rfl) T.g_check_number T.F_check_number.kp T.b_check_number .nil pass0 (pa_cons (pv 1) (pa_cons pe_int (pa_cons (pe_glob (v := .int 4) rfl T.m_MOST_WAYS ⟨_, rfl⟩) pa_nil)))))
  (pss_cons (ps_if (pt_not (pt_val (pe_callB (k_isi K rfl) (by rfl) T.n_isinstance (by decide +kernel) (pa_cons (pv 2) (pa_cons (pe_bltn (v := .ty "list") (by rfl) T.n_list (by decide +kernel) rfl) pa_nil)))))
    (pss_one ps_never)
    pss_nil)
  (pss_cons (ps_for PassesOwn.never rfl (k_piL K rfl (pv 2)) (pg_name (i := 3) sc_Mixer___init__.nd rfl (by first | exact Or.inl rfl | exact Or.inr rfl))
    (pss_one (ps_if (pt_not (pt_val (pe_call (G_is_step T) (hr.mono (by decide)) (by rfl) T.g_is_step T.F_is_step.kp T.b_is_step .nil pass0 (pa_cons (pv 3) (pa_cons (pv 1) pa_nil)))))
    (pss_one ps_never)
    pss_nil)))
  (pss_cons (ps_fld (pv 0) (pv 1) rfl)
  (pss_one (ps_fld (pv 0) (pe_lc (own := [("item", 3)]) (g := gName 3) (tt := tYes) (by rfl) sc_Mixer___init__.nd (k_piL K rfl (pv 2)) (blkOk_by (own := [("item", 3)]) (N := N_Mixer___init__) (sc := defScope s_Mixer___init__) (by decide +kernel)) (fun _ _ _ _ _ => (pg_name (i := 3) sc_Mixer___init__.nd rfl (by first | exact Or.inl rfl | exact Or.inr rfl))) (fun _ _ _ _ _ => pts_nil) (fun _ _ _ _ _ => (pe_call (G_closed T) (hr.mono (by decide)) (by rfl) T.g_closed T.F_closed.kp T.b_closed .nil pass0 (pa_cons (pv 3) pa_nil)))) rfl)))))), ?_⟩
  obtain ⟨vs, hp, hv⟩ := hS
  have hvl := hv.len
  refine ⟨_, rfl, n, 1, some 4, rfl, by omega, (fun j h => by cases h; omega), ?_⟩
  refine ⟨_, rfl, _, _, _, _, true, rfl, .ty _, ty_list hp, kit_ty (by decide +kernel), true, rfl, iteF ?_⟩
  refine ⟨_, rfl, p, rfl, ⟨_, .inl (.inl hp)⟩, for_list (K := K) (a := p) (xs := vs) (fun i σ H1 => ∃ v3 : Option V, σ = [some (.ref x), some (.int n), some (.ref p), v3] ∧ Same H H1) ⟨none, rfl, Same.refl _⟩ (fun i σ H1 _ ⟨_, _, s⟩ => .inl (.inl (s _ _ hp))) ?_ ?_⟩
  · rintro i v σ H1 hi ⟨v3, rfl, s1⟩
    obtain ⟨s, hs, hvs⟩ := hv.get hi
    walk_at "go"
    refine ⟨v, n, s, rfl, hvs.same s1, hO s (List.mem_of_getElem? hs), hn4, fun H2 s2 => ?_⟩
    walk_at "go"
    exact s1.trans s2
  rintro σ H1 ⟨v3, rfl, s1⟩
  walk_at "go"
  refine ⟨x, T.C_Mixer, dx, [], rfl, s1 _ _ hx, T.cl_Mixer, T.na_Mixer_many, by decide, ?_⟩
  obtain ⟨H2, e2⟩ : ∃ H2, upd H1 x (.ins T.C_Mixer dx (putF (Str.ofString "many") (V.int n) [])) = H2 := ⟨_, rfl⟩
  rw [e2]
  have k12 : ∀ b o, b ≠ x → H b = some o → H2 b = some o := fun b o nb h => by rw [← e2, upd_ne nb]; exact s1 b o h
  have hx2 : H2 x = some (.ins T.C_Mixer dx [("many", V.int n)]) := by rw [← e2, upd_same]; rfl
  have px : p ≠ x := fun z => by rw [z, hx] at hp; cases hp
  have hp2 := k12 _ _ px hp
  have hv2 : AllV (StepV (fun _ => True) H2) vs ss := hv.imp fun v s h => by
    cases s with
    | turn i => obtain ⟨t, e, h1⟩ := h; exact ⟨t, e, k12 _ _ (fun z => by rw [z, hx] at h1; cases h1) h1⟩
    | swap i j => obtain ⟨t, e, h1⟩ := h; exact ⟨t, e, k12 _ _ (fun z => by rw [z, hx] at h1; cases h1) h1⟩
    | lift b ws sh =>
      obtain ⟨t, l, e, h1, h2, _⟩ := h
      exact ⟨t, l, e, k12 _ _ (fun z => by rw [z, hx] at h1; cases h1) h1, k12 _ _ (fun z => by rw [z, hx] at h2; cases h2) h2, trivial⟩
  refine ⟨_, rfl, p, rfl, ⟨_, .inl (.inl hp2)⟩, fun D nD => ?_⟩
  refine lc_stp (K := K) (xs := vs) (ss := ss) (fun H => RowV H) row_off nD (.inl (.inl hp2)) hvl (small1000 (by omega)) (fun x => rfl) ?_ ?_
  · intro i y s H' hy hs s' _ Qt qt
    obtain ⟨s2, hs2, hys⟩ := hv2.get hy
    rw [hs] at hs2
    cases hs2
    walk_at "go"
    exact ⟨y, s, rfl, hys.same s', fun H3 v' s3 r => qt v' H3 s3 r⟩
  intro H3 ys s3 hD hys
  walk_at "go"
  refine ⟨x, T.C_Mixer, dx, _, rfl, s3 _ _ hx2, T.cl_Mixer, T.na_Mixer_rows, (by show 1 < 1000; decide), ?_⟩
  have nDH : H D = none := by
    cases e : H D with
    | none => rfl
    | some o =>
      exfalso
      by_cases z : D = x
      · rw [z, hx2] at nD; cases nD
      · rw [k12 D o z e] at nD; cases nD
  have Dx : D ≠ x := fun z => by rw [z, hx2] at nD; cases nD
  refine q _ D (fun b o nb hb => ?_) nDH ⟨dx, ys, ?_, ?_, ?_⟩
  · rw [upd_ne nb]
    exact s3 _ _ (k12 b o nb hb)
  · rw [upd_same]
    rfl
  · rw [upd_ne Dx]
    exact hD
  · have hx3 := s3 _ _ hx2
    have off : ∀ {t : Addr} {xs : List V}, H3 t = some (.tup xs) → t ≠ x := fun h z => by rw [z, hx3] at h; cases h
    refine hys.imp fun v s h => ?_
    cases s with
    | turn i => obtain ⟨t, e, h1⟩ := h; exact ⟨t, e, by rw [upd_ne (off h1)]; exact h1⟩
    | swap i j => obtain ⟨t, e, h1⟩ := h; exact ⟨t, e, by rw [upd_ne (off h1)]; exact h1⟩
    | lift b ws sh =>
      obtain ⟨t, l, e, h1, h2⟩ := h
      exact ⟨t, l, e, by rw [upd_ne (off h1)]; exact h1, by rw [upd_ne (off h2)]; exact h2⟩
def sp_Mixer_wide (C : Addr) : Sp := fun vs H Q _ => ∃ (a r : Addr) (n : Nat) (ss : List Step), vs = [.ref a] ∧ MixAt C H a r n ss ∧ Q (.int n) H
theorem G_Mixer_wide (T : Top K mg) : FnOk P w K mg base CX0 1 T.f_Mixer_wide T.fd_Mixer_wide ["self"] (sp_Mixer_wide T.C_Mixer) := by
  refine T.F_Mixer_wide.ok sc_Mixer_wide (fun vs H Q E h => by obtain ⟨a, r, n, ss, rfl, _⟩ := h; rfl) (fun cdv A outer s H vs Q E hr h => ?_)
  obtain ⟨a, r, n, ss, rfl, hM, q⟩ := h
  refine ⟨_, PSs.nox (pss_one (ps_ret (pe_fld (pv 0) rfl))), ?_⟩
  obtain ⟨dx, vs, ha, hr0, hv⟩ := hM
  exact ⟨_, rfl, a, T.C_Mixer, dx, _, _, rfl, ha, T.cl_Mixer, T.na_Mixer_many, rfl, q⟩
def sp_Mixer_steps (C : Addr) (K : PySem.W.Frag) : Sp := fun vs H Q _ => ∃ (a r : Addr) (n : Nat) (ss : List Step), vs = [.ref a] ∧ MixAt C H a r n ss ∧ ss.length ≤ 100 ∧ ∀ H' p, Same H H' → H p = none → StepsAt (Fl H H') H' p ss → Q (.ref p) H'
theorem G_Mixer_steps (T : Top K mg) : FnOk P w K mg base CX0 2 T.f_Mixer_steps T.fd_Mixer_steps ["self"] (sp_Mixer_steps T.C_Mixer K) := by
  refine T.F_Mixer_steps.ok sc_Mixer_steps (fun vs H Q E h => by obtain ⟨a, r, n, ss, rfl, _⟩ := h; rfl) (fun cdv A outer s H vs Q E hr h => ?_)
  obtain ⟨a, r, n, ss, rfl, hM, hl, q⟩ := h
  refine ⟨_, PSs.nox (pss_one (ps_ret (pe_lc (own := [("row", 1)]) (g := gName 1) (tt := tYes) (by rfl) sc_Mixer_steps.nd (k_piL K rfl (pe_fld (pv 0) rfl)) (blkOk_by (own := [("row", 1)]) (N := N_Mixer_steps) (sc := defScope s_Mixer_steps) (by decide +kernel)) (fun _ _ _ _ _ => (pg_name (i := 1) sc_Mixer_steps.nd rfl (by first | exact Or.inl rfl | exact Or.inr rfl))) (fun _ _ _ _ _ => pts_nil) (fun _ _ _ _ _ => (pe_call (G_opened T) (hr.mono (by decide)) (by rfl) T.g_opened T.F_opened.kp T.b_opened .nil pass0 (pa_cons (pv 1) pa_nil)))))), ?_⟩
  obtain ⟨dx, vs, ha, hr0, hv⟩ := hM
  have hvl := hv.len
  refine ⟨_, rfl, a, T.C_Mixer, dx, _, _, rfl, ha, T.cl_Mixer, T.na_Mixer_rows, rfl, r, rfl, ⟨_, .inl (.inl hr0)⟩, fun D nD => ?_⟩
  refine lc_stp (K := K) (xs := vs) (ss := ss) (fun H1 => StepV (fun l => l ≠ D ∧ H l = none) H1) step_off nD (.inl (.inl hr0)) hvl (small1000 (by omega)) (fun x => rfl) ?_ ?_
  · intro i y s H' hy hs s' ⟨zs, hD⟩ Qt qt
    obtain ⟨s2, hs2, hys⟩ := hv.get hy
    rw [hs] at hs2
    cases hs2
    walk_at "go"
    refine ⟨y, s, rfl, hys.same s', fun H3 v' s3 k => ?_⟩
    exact qt v' H3 s3 (k.mono fun l hf => ⟨fun z => (by rw [z] at hf; rw [hf.1] at hD; cases hD), s'.free hf.1⟩)
  intro H3 ys s3 hD hys
  refine q _ D s3 nD ⟨ys, hD, hys.imp fun v s h => ?_⟩
  cases s with
  | turn i => exact h
  | swap i j => exact h
  | lift b ws sh =>
    obtain ⟨t, l, e, h1, h2, h3⟩ := h
    exact ⟨t, l, e, h1, h2, h3.2, _, h2⟩
def sp_Mixer___eq__ (C : Addr) : Sp := fun vs H Q _ => ∃ (a b r : Addr) (n : Nat) (ss : List Step), vs = [.ref a, .ref b] ∧ MixAt C H a r n ss ∧
  ((∃ r2 m ts, MixAt C H b r2 m ts ∧ ∀ H', Same H H' → Q (.bl (PyData.eqv (mixD n ss) (mixD m ts))) H') ∨ (∃ xs, H b = some (.lst xs) ∧ Q (.bl false) H))
theorem G_Mixer___eq__ (T : Top K mg) : FnOk P w K mg base CX0 1 T.f_Mixer___eq__ T.fd_Mixer___eq__ ["self", "other"] (sp_Mixer___eq__ T.C_Mixer) := by
  refine T.F_Mixer___eq__.ok sc_Mixer___eq__ (fun vs H Q E h => by obtain ⟨a, b, r, n, ss, rfl, _⟩ := h; rfl) (fun cdv A outer s H vs Q E hr h => ?_)
  obtain ⟨a, b, r, n, ss, rfl, hM, q⟩ := h
  refine ⟨_, PSs.nox (pss_cons (ps_if (pt_not (pt_val (pe_callB (k_isi K rfl) (by rfl) T.n_isinstance (by decide +kernel) (pa_cons (pv 1) (pa_cons (pe_glob (v := .ref T.C_Mixer) rfl T.gc_Mixer rfl) pa_nil)))))
    (pss_one (ps_ret pe_bl))
    pss_nil)
  (pss_one (ps_ret (pe_cmpR (k_eqD K rfl hr.units) (pe_tup (pa_cons (pe_fld (pv 0) rfl) (pa_cons (pe_fld (pv 0) rfl) pa_nil))) (pe_tup (pa_cons (pe_fld (pv 1) rfl) (pa_cons (pe_fld (pv 1) rfl) pa_nil))) (nomark _))))), ?_⟩
  rcases q with ⟨r2, m, ts, hM2, q⟩ | ⟨xs, hB, q⟩
  · obtain ⟨dx, vs, ha, hr0, hv⟩ := hM
    obtain ⟨dy, us, hb, hr2, hu⟩ := hM2
    refine ⟨_, rfl, _, _, _, _, true, rfl, .own _, tyx_insC T.ic_Mixer hb, T.ic_Mixer.me, true, rfl, ?_⟩
    walk_at "go"
    refine ⟨a, T.C_Mixer, dx, _, _, rfl, ha, T.cl_Mixer, T.na_Mixer_many, rfl, ?_⟩
    walk_at "go"
    refine ⟨a, T.C_Mixer, dx, _, _, rfl, ha, T.cl_Mixer, T.na_Mixer_rows, rfl, (show 2 ≤ sizeLine by decide), fun p np => ?_⟩
    obtain ⟨H1, e1, s1, h1⟩ := fresh (.tup [V.int n, V.ref r]) np
    rw [e1]
    walk_at "go"
    refine ⟨b, T.C_Mixer, dy, _, _, rfl, s1 _ _ hb, T.cl_Mixer, T.na_Mixer_many, rfl, ?_⟩
    walk_at "go"
    refine ⟨b, T.C_Mixer, dy, _, _, rfl, s1 _ _ hb, T.cl_Mixer, T.na_Mixer_rows, rfl, (show 2 ≤ sizeLine by decide), fun p2 np2 => ?_⟩
    obtain ⟨H2, e2, s2, h2⟩ := fresh (.tup [V.int m, V.ref r2]) np2
    rw [e2]
    have s02 := s1.trans s2
    have d1 : Dt H2 (.ref p) (mixD n ss) := .tup (s2 _ _ h1) (.cons (.int _) (.cons (.lst (s02 _ _ hr0) (AllV.dtr (hv.imp fun v s => RowV.same s02))) .nil))
    have d2 : Dt H2 (.ref p2) (mixD m ts) := .tup h2 (.cons (.int _) (.cons (.lst (s02 _ _ hr2) (AllV.dtr (hu.imp fun v s => RowV.same s02))) .nil))
    exact d_eq d1 d2 (mix_shaped n ss) (mix_shaped m ts) (q _ s02)
  · refine ⟨_, rfl, _, _, _, _, false, rfl, .own _, ty_list hB, T.ec_Mixer.ki, false, rfl, ?_⟩
    walk_at "go"
    exact q
def sp_check_mixer (C : Addr) : Sp := fun vs H Q _ => ∃ (a r : Addr) (n : Nat) (ss : List Step), vs = [.ref a] ∧ MixAt C H a r n ss ∧ Q .non H
theorem G_check_mixer (T : Top K mg) : FnOk P w K mg base CX0 1 T.f_check_mixer T.fd_check_mixer ["mixer"] (sp_check_mixer T.C_Mixer) := by
  refine T.F_check_mixer.ok sc_check_mixer (fun vs H Q E h => by obtain ⟨a, r, n, ss, rfl, _⟩ := h; rfl) (fun cdv A outer s H vs Q E hr h => ?_)
  obtain ⟨a, r, n, ss, rfl, hM, q⟩ := h
  refine ⟨_, PSs.nox (pss_one (ps_if (pt_not (pt_val (pe_callB (k_isi K rfl) (by rfl) T.n_isinstance (by decide +kernel) (pa_cons (pv 0) (pa_cons (pe_glob (v := .ref T.C_Mixer) rfl T.gc_Mixer rfl) pa_nil)))))
    (pss_one ps_never)
    pss_nil)), ?_⟩
  obtain ⟨dx, vs, ha, hr0, hv⟩ := hM
  refine ⟨_, rfl, _, _, _, _, true, rfl, .own _, tyx_insC T.ic_Mixer ha, T.ic_Mixer.me, true, rfl, iteF ?_⟩
  exact q
end
end My

namespace My
open PySem PySem.Spec PyProof.Rows L2 Pre
theorem dot_zip : ∀ ws xs : List Int, (List.zipWith (fun a b => a * b) ws xs).sum = dotP ws xs
  | [], xs => by cases xs <;> rfl
  | _ :: _, [] => rfl
  | w :: ws, x :: xs => by
    show w * x + (List.zipWith (fun a b => a * b) ws xs).sum = w * x + dotP ws xs
    rw [dot_zip ws xs]
theorem at_getD {xs : List Int} {i : Nat} (h : i < xs.length) : atI (xs.map V.int) (i : Int) = some (.int (xs.getD i 0)) := atI_nat (by
  rw [List.getElem?_map, List.getElem?_eq_getElem h, List.getD_eq_getElem?_getD, List.getElem?_eq_getElem h]
  rfl)
theorem ix_ok {xs : List V} {i : Nat} (h : i < xs.length) : ixN xs.length (i : Int) = some i := by
  unfold ixN
  rw [if_pos (by omega), Int.toNat_natCast, if_pos (Int.ofNat_lt.mpr h)]
theorem play_take {ss : List Step} {i : Nat} {s : Step} (h : ss[i]? = some s) (xs : List Int) : playF (ss.take (i + 1)) xs = stepF 1 s (playF (ss.take i) xs) := by
  unfold playF
  rw [take_snoc h, List.foldl_append]
  rfl
theorem back_take {ss : List Step} {i : Nat} {s : Step} (h : ss.reverse[i]? = some s) (xs : List Int) : (ss.reverse.take (i + 1)).foldl (fun x s => stepF (-1) s x) xs = stepF (-1) s ((ss.reverse.take i).foldl (fun x s => stepF (-1) s x) xs) := by
  rw [take_snoc h, List.foldl_append]
  rfl
theorem fold_len (way : Int) : ∀ (ss : List Step) (xs : List Int), (ss.foldl (fun x s => stepF way s x) xs).length = xs.length
  | [], _ => rfl
  | s :: ss, xs => by rw [List.foldl_cons, fold_len way ss, stepF_len]
local macro_rules | `(tactic| walk_at "go") => `(tactic| repeat (first | (with_reducible first | refine iteT ?_ | refine iteF ?_ | refine iteNtt ?_ | refine iteNff ?_ | refine iteET (by omega) ?_ | refine iteEF (by omega) ?_ | refine iteENT (by omega) ?_ | refine iteENF (by omega) ?_ | refine iteDT (by omega) ?_ | refine iteDF (by omega) ?_ | refine iteNT (by omega) ?_ | refine iteNF (by omega) ?_) | refine ⟨_, rfl, ?_⟩ | refine ⟨_, _, rfl, rfl, ?_⟩ | refine ⟨_, _, rfl, ?_⟩ | refine ⟨rfl, ?_⟩ | refine .inl ⟨_, rfl, ?_⟩ | refine .inr ⟨_, rfl, ?_⟩))
local macro_rules | `(tactic| walk_at "b") => `(tactic| try dsimp (config := { proj := false, iota := false, eta := false, zeta := false }) only)
section
variable {P : Program} {w : World} {K : PySem.W.Frag} {mg : Str → Option Value} {base : Heap}
def sp_summed (K : PySem.W.Frag) : Sp := fun vs H Q _ => ∃ (a b : Addr) (ws xs : List Int), vs = [.ref a, .ref b] ∧ (SqT K H a (ws.map V.int) ∨ SqL K H a (ws.map V.int)) ∧ SqL K H b (xs.map V.int) ∧ ws.length = xs.length ∧ ws.length ≤ 100 ∧ ((∀ w ∈ ws, -32768 ≤ w ∧ w ≤ 32768) ∨ ∀ w ∈ ws, ∀ x ∈ xs, CMulX w x) ∧ ∀ H', Same H H' → Q (.int (dotP ws xs)) H'
theorem G_summed (T : Top K mg) : FnOk P w K mg base CX0 1 T.f_summed T.fd_summed ["weights", "numbers"] (sp_summed K) := by
  refine T.F_summed.ok sc_summed (fun vs H Q E h => by obtain ⟨a, b, ws, xs, rfl, _⟩ := h; rfl) (fun cdv A outer s H vs Q E hr h => ?_)
  obtain ⟨a, b, ws, xs, rfl, hA, hB, hl, hz, hw, q⟩ := h
  refine ⟨_, PSs.nox (pss_one (ps_ret (pe_callB (k_sum K rfl rfl) (by rfl) T.n_sum (by decide +kernel) (pa_cons (pe_lc (own := [("weight", 2), ("number", 3)]) (g := gTup K 2 (gCons (gName 2) (gCons (gName 3) (gNil)))) (tt := tYes) (by rfl) sc_summed.nd (k_piZB K rfl (by rfl) T.n_zip (pa_cons (pv 0) (pa_cons (pv 1) pa_nil)) (pk_cons pe_bl pk_nil)) (blkOk_by (own := [("weight", 2), ("number", 3)]) (N := N_summed) (sc := defScope s_summed) (by decide +kernel)) (fun _ _ _ _ _ => (k_pgT K rfl (by rfl) (pgs_cons (pg_name (i := 2) sc_summed.nd rfl (by first | exact Or.inl rfl | exact Or.inr rfl)) (pgs_cons (pg_name (i := 3) sc_summed.nd rfl (by first | exact Or.inl rfl | exact Or.inr rfl)) pgs_nil)))) (fun _ _ _ _ _ => pts_nil) (fun _ _ _ _ _ => (pe_op op_mulA (pv 2) (pv 3)))) pa_nil)))), ?_⟩
  walk_at "go"
  have hzl : (List.zipWith (fun a b => a * b) ws xs).length = ws.length := by rw [List.length_zipWith, hl, Nat.min_self]
  have hm : ∀ {j n1 n2}, ws[j]? = some n1 → xs[j]? = some n2 → CMulA n1 n2 := fun h1 h2 => by
    rcases hw with hw | hw
    · have hb := hw _ (List.mem_of_getElem? h1)
      exact .inl (.inl ⟨by omega, by omega⟩)
    · exact .inr (hw _ (List.mem_of_getElem? h1) _ (List.mem_of_getElem? h2))
  rcases hA with hA | hA
  · refine ⟨a, b, _, _, rfl, hB, .inl ⟨hA, fun D nD => ?_⟩⟩
    refine lc_dW (walk_zs (K := K) (a := a) (b := b) (xs := ws.map V.int) (ys := xs.map V.int) (by rw [List.length_map, List.length_map, hl])) (S := []) Has.nil ((List.zipWith (fun a b => a * b) ws xs).map fun x => some (PyData.int x)) nD (by rw [List.length_map, hzl, List.length_map]) (by rw [List.length_map]; exact small1000 (by omega)) (fun H' s => ⟨Same.tup s hA, s.seq hB⟩) ?_ ?_
    · rintro j o H0 x H'' hj ho s0 hH ⟨T1, x1, y1, rfl, nT, rfl, e1, e2⟩ Qt qt
      have st := same_upd (o := .tup [x1, y1]) nT
      obtain ⟨n1, en1, rfl⟩ := int_at e1
      obtain ⟨n2, en2, rfl⟩ := int_at e2
      have eo : o = some (PyData.int (n1 * n2)) := by
        rw [List.getElem?_map, List.getElem?_zipWith, en1, en2] at ho
        exact (Option.some.inj ho).symm
      subst eo
      refine ⟨T1, _, rfl, .inl (.inl upd_same), rfl, ?_⟩
      generalize upd H0 T1 (.tup [V.int n1, V.int n2]) = H8 at st
      refine ⟨_, _, rfl, _, _, rfl, rfl, ⟨rfl, ?_⟩⟩
      walk_at "go"
      refine ⟨hm en1 en2, ?_⟩
      exact qt _ _ st (.int _)
    · intro H7 s7 _ dD
      have el : ((List.zipWith (fun a b => a * b) ws xs).map fun x => some (PyData.int x)).filterMap id = (List.zipWith (fun a b => a * b) ws xs).map PyData.int := sel_map _ _
      rw [el, rs_nil] at dD
      obtain ⟨_, e, hD⟩ := Dt.intsE (ns := List.zipWith (fun a b => a * b) ws xs) dD
      cases e
      refine ⟨D, _, rfl, .inl (.inl hD), ?_⟩
      rw [dot_zip]
      exact q _ s7
  · refine ⟨a, b, _, _, rfl, hB, .inr ⟨hA, fun D nD => ?_⟩⟩
    refine lc_dW (walk_zl (K := K) (a := a) (b := b) (xs := ws.map V.int) (ys := xs.map V.int) (by rw [List.length_map, List.length_map, hl])) (S := []) Has.nil ((List.zipWith (fun a b => a * b) ws xs).map fun x => some (PyData.int x)) nD (by rw [List.length_map, hzl, List.length_map]) (by rw [List.length_map]; exact small1000 (by omega)) (fun H' s => ⟨s.seq hA, s.seq hB⟩) ?_ ?_
    · rintro j o H0 x H'' hj ho s0 hH ⟨T1, x1, y1, rfl, nT, rfl, e1, e2⟩ Qt qt
      have st := same_upd (o := .tup [x1, y1]) nT
      obtain ⟨n1, en1, rfl⟩ := int_at e1
      obtain ⟨n2, en2, rfl⟩ := int_at e2
      have eo : o = some (PyData.int (n1 * n2)) := by
        rw [List.getElem?_map, List.getElem?_zipWith, en1, en2] at ho
        exact (Option.some.inj ho).symm
      subst eo
      refine ⟨T1, _, rfl, .inl (.inl upd_same), rfl, ?_⟩
      generalize upd H0 T1 (.tup [V.int n1, V.int n2]) = H8 at st
      refine ⟨_, _, rfl, _, _, rfl, rfl, ⟨rfl, ?_⟩⟩
      walk_at "go"
      refine ⟨hm en1 en2, ?_⟩
      exact qt _ _ st (.int _)
    · intro H7 s7 _ dD
      have el : ((List.zipWith (fun a b => a * b) ws xs).map fun x => some (PyData.int x)).filterMap id = (List.zipWith (fun a b => a * b) ws xs).map PyData.int := sel_map _ _
      rw [el, rs_nil] at dD
      obtain ⟨_, e, hD⟩ := Dt.intsE (ns := List.zipWith (fun a b => a * b) ws xs) dD
      cases e
      refine ⟨D, _, rfl, .inl (.inl hD), ?_⟩
      rw [dot_zip]
      exact q _ s7
end
end My

namespace My
/-! ### mixers as matrices: what 2 ^ bits times a row more does -/
def shS : Step → Nat
  | .lift _ _ sh => sh
  | _ => 0
def bitsS (ss : List Step) : Nat := (ss.map shS).sum
def colM (M : List (List Int)) (k : Nat) : List Int := M.map fun l => l.getD k 0
def numS (n : Nat) : Step → List (List Int) → List (List Int)
  | .lift t ws sh, M => (M.map fun l => l.map fun x => x * 2 ^ sh).set t (List.zipWith (fun a b => a + b) ((M.getD t []).map fun x => x * 2 ^ sh) ((List.range n).map fun k => dotP ws (colM M k)))
  | .turn i, M => M.set i ((M.getD i []).map fun x => 0 - x)
  | .swap i j, M => (M.set i (M.getD j [])).set j (M.getD i [])
def unitM (n : Nat) : List (List Int) := (List.range n).map fun i => (List.range n).map fun j => if i = j then 1 else 0
def numF (n : Nat) (ss : List Step) : List (List Int) := ss.foldl (fun M s => numS n s M) (unitM n)
def mulV (M : List (List Int)) (y : List Int) : List Int := M.map fun l => dotP l y
def addM (u : List Int) (c : Int) (v : List Int) : List Int := List.zipWith (fun a b => a + c * b) u v
def linS : Step → List Int → List Int
  | .lift t ws sh, v => (v.map fun x => x * 2 ^ sh).set t (v.getD t 0 * 2 ^ sh + dotP ws v)
  | .turn i, v => v.set i (0 - v.getD i 0)
  | .swap i j, v => (v.set i (v.getD j 0)).set j (v.getD i 0)
def Sq (n : Nat) (M : List (List Int)) : Prop := M.length = n ∧ ∀ l ∈ M, l.length = n
theorem dot_add : ∀ {a b : List Int} (y : List Int), a.length = b.length → dotP (List.zipWith (fun a b => a + b) a b) y = dotP a y + dotP b y
  | [], [], y, _ => by cases y <;> rfl
  | x :: a, z :: b, [], _ => rfl
  | x :: a, z :: b, w :: y, h => by
    show (x + z) * w + dotP (List.zipWith (fun a b => a + b) a b) y = x * w + dotP a y + (z * w + dotP b y)
    rw [dot_add y (by simpa using h), Int.add_mul]
    omega
  | [], _ :: _, _, h => by simp at h
  | _ :: _, [], _, h => by simp at h
theorem dot_mul (c : Int) : ∀ (a y : List Int), dotP (a.map fun x => c * x) y = c * dotP a y
  | [], y => by cases y <;> simp [dotP]
  | x :: a, [] => by simp [dotP]
  | x :: a, w :: y => by
    show c * x * w + dotP (a.map fun x => c * x) y = c * (x * w + dotP a y)
    rw [dot_mul c a y, Int.mul_add, Int.mul_assoc]
theorem dot_mulr (c : Int) (a y : List Int) : dotP (a.map fun x => x * c) y = dotP a y * c := by
  rw [Int.mul_comm, ← dot_mul]
  congr 1
  exact List.map_congr_left fun x _ => Int.mul_comm x c
theorem dot_neg (a y : List Int) : dotP (a.map fun x => 0 - x) y = 0 - dotP a y := by
  have := dot_mul (-1) a y
  rw [show (a.map fun x => 0 - x) = a.map fun x => -1 * x from List.map_congr_left fun x _ => by omega, this]
  omega
/-- sums the other way about -/
theorem dot_cols {n : Nat} : ∀ (ws : List Int) (M : List (List Int)) (y : List Int), (∀ l ∈ M, l.length = n) → y.length = n → dotP ((List.range n).map fun k => dotP ws (colM M k)) y = dotP ws (mulV M y)
  | [], M, y, _, hy => by
    have : ∀ (m : Nat) (y : List Int), dotP ((List.replicate m (0 : Int))) y = 0 := by
      intro m
      induction m with
      | zero => intro y; cases y <;> rfl
      | succ m ih =>
        intro y
        cases y with
        | nil => rfl
        | cons w y =>
          show 0 * w + dotP (List.replicate m 0) y = 0
          rw [ih]
          omega
    have e : ((List.range n).map fun k => dotP [] (colM M k)) = List.replicate n 0 := by
      apply List.ext_getElem
      · simp
      · intro i h1 h2
        simp [dotP]
    rw [e, this]
    cases M <;> rfl
  | w :: ws, [], y, _, hy => by
    have : ∀ (m : Nat) (y : List Int), dotP ((List.replicate m (0 : Int))) y = 0 := by
      intro m
      induction m with
      | zero => intro y; cases y <;> rfl
      | succ m ih =>
        intro y
        cases y with
        | nil => rfl
        | cons w y =>
          show 0 * w + dotP (List.replicate m 0) y = 0
          rw [ih]
          omega
    have e : ((List.range n).map fun k => dotP (w :: ws) (colM [] k)) = List.replicate n 0 := by
      apply List.ext_getElem
      · simp
      · intro i h1 h2
        simp [dotP, colM]
    rw [e, this]
    rfl
  | w :: ws, l :: M, y, hM, hy => by
    have hl : l.length = n := hM l List.mem_cons_self
    have e : ((List.range n).map fun k => dotP (w :: ws) (colM (l :: M) k)) = List.zipWith (fun a b => a + b) (l.map fun x => w * x) ((List.range n).map fun k => dotP ws (colM M k)) := by
      apply List.ext_getElem
      · simp [hl]
      · intro i h1 h2
        have hi : i < n := by simpa using h1
        simp [dotP, colM, List.getElem?_eq_getElem (show i < l.length by omega)]
    rw [e, dot_add y (by simp [hl]), dot_mul, dot_cols ws M y (fun k hk => hM k (List.mem_cons_of_mem _ hk)) hy]
    rfl
theorem mul_getD {M : List (List Int)} {y : List Int} {i : Nat} : (mulV M y).getD i 0 = dotP (M.getD i []) y := by
  unfold mulV
  rw [List.getD_eq_getElem?_getD, List.getElem?_map, List.getD_eq_getElem?_getD]
  cases M[i]? with
  | none => rfl
  | some l => rfl
theorem getD_mem {M : List (List Int)} {i : Nat} (h : i < M.length) : M.getD i [] ∈ M := by
  rw [List.getD_eq_getElem?_getD, List.getElem?_eq_getElem h]
  exact List.getElem_mem h
theorem numS_sq {n : Nat} {s : Step} {M : List (List Int)} (h : Sq n M) (ok : s.ok n) : Sq n (numS n s M) := by
  obtain ⟨h1, h2⟩ := h
  cases s with
  | turn i =>
    have hi : i < n := ok
    refine ⟨by simp [numS, h1], fun l hl => ?_⟩
    rcases List.mem_or_eq_of_mem_set hl with hl | rfl
    · exact h2 l hl
    · rw [List.length_map]
      exact h2 _ (getD_mem (by omega))
  | swap i j =>
    obtain ⟨hi, hj, _⟩ := ok
    refine ⟨by simp [numS, h1], fun l hl => ?_⟩
    rcases List.mem_or_eq_of_mem_set hl with hl | rfl
    · rcases List.mem_or_eq_of_mem_set hl with hl | rfl
      · exact h2 l hl
      · exact h2 _ (getD_mem (by omega))
    · exact h2 _ (getD_mem (by omega))
  | lift t ws sh =>
    obtain ⟨ht, _⟩ := ok
    refine ⟨by simp [numS, h1], fun l hl => ?_⟩
    rcases List.mem_or_eq_of_mem_set hl with hl | rfl
    · obtain ⟨k, hk, rfl⟩ := List.mem_map.mp hl
      rw [List.length_map]
      exact h2 k hk
    · rw [List.length_zipWith, List.length_map, List.length_map, List.length_range, h2 _ (getD_mem (by omega)), Nat.min_self]
theorem mul_num {n : Nat} {s : Step} {M : List (List Int)} {y : List Int} (h : Sq n M) (ok : s.ok n) (hy : y.length = n) : mulV (numS n s M) y = linS s (mulV M y) := by
  obtain ⟨h1, h2⟩ := h
  have hm : ∀ (A : List (List Int)) (i : Nat) (l : List Int), mulV (A.set i l) y = (mulV A y).set i (dotP l y) := fun A i l => by
    unfold mulV
    rw [List.map_set]
  cases s with
  | turn i =>
    show mulV (M.set i ((M.getD i []).map fun x => 0 - x)) y = (mulV M y).set i (0 - (mulV M y).getD i 0)
    rw [hm, dot_neg, mul_getD]
  | swap i j =>
    show mulV ((M.set i (M.getD j [])).set j (M.getD i [])) y = ((mulV M y).set i ((mulV M y).getD j 0)).set j ((mulV M y).getD i 0)
    rw [hm, hm, mul_getD, mul_getD]
  | lift t ws sh =>
    obtain ⟨ht, hw, _⟩ := ok
    have hl : (M.getD t []).length = n := h2 _ (getD_mem (by omega))
    show mulV ((M.map fun l => l.map fun x => x * 2 ^ sh).set t _) y = ((mulV M y).map fun x => x * 2 ^ sh).set t ((mulV M y).getD t 0 * 2 ^ sh + dotP ws (mulV M y))
    rw [hm, dot_add y (by rw [List.length_map, List.length_map, List.length_range, hl]), dot_cols ws M y h2 hy, dot_mulr, mul_getD]
    congr 1
    unfold mulV
    rw [List.map_map, List.map_map]
    exact List.map_congr_left fun l _ => dot_mulr _ l y
theorem addM_len {u v : List Int} {c : Int} (h : u.length = v.length) : (addM u c v).length = u.length := by
  unfold addM
  rw [List.length_zipWith, h, Nat.min_self]
theorem addM_getD {u v : List Int} {c : Int} (h : u.length = v.length) (i : Nat) : (addM u c v).getD i 0 = u.getD i 0 + c * v.getD i 0 := by
  unfold addM
  rw [List.getD_eq_getElem?_getD, List.getElem?_zipWith, List.getD_eq_getElem?_getD, List.getD_eq_getElem?_getD]
  by_cases k : i < u.length
  · rw [List.getElem?_eq_getElem k, List.getElem?_eq_getElem (show i < v.length by omega)]
    rfl
  · rw [List.getElem?_eq_none (by omega), List.getElem?_eq_none (by omega)]
    simp
theorem dot_addM (c : Int) : ∀ (ws u v : List Int), u.length = v.length → dotP ws (addM u c v) = dotP ws u + c * dotP ws v
  | [], u, v, _ => by cases u <;> cases v <;> simp [dotP, addM]
  | w :: ws, [], [], _ => by simp [dotP, addM]
  | w :: ws, x :: u, z :: v, h => by
    show w * (x + c * z) + dotP ws (addM u c v) = w * x + dotP ws u + c * (w * z + dotP ws v)
    rw [dot_addM c ws u v (by simpa using h), Int.mul_add, Int.mul_add, Int.mul_left_comm w c z]
    omega
  | w :: ws, [], _ :: _, h => by simp at h
  | w :: ws, _ :: _, [], h => by simp at h
theorem linS_len (s : Step) (v : List Int) : (linS s v).length = v.length := by
  cases s <;> simp [linS]
theorem step_add {n : Nat} {s : Step} {u v : List Int} (c : Int) (ok : s.ok n) (hu : u.length = n) (hv : v.length = n) : stepF 1 s (addM u (2 ^ shS s * c) v) = addM (stepF 1 s u) c (linS s v) := by
  have huv : u.length = v.length := by omega
  refine ext_getD (by rw [stepF_len, addM_len huv, addM_len (by rw [stepF_len, linS_len, huv]), stepF_len]) fun k hk => ?_
  rw [stepF_len, addM_len huv] at hk
  rw [addM_getD (by rw [stepF_len, linS_len, huv])]
  cases s with
  | turn i =>
    have hi : i < n := ok
    have e1 : (2 : Int) ^ shS (.turn i) * c = c := by show (2 : Int) ^ 0 * c = c; omega
    rw [e1]
    show ((addM u c v).set i (0 - (addM u c v).getD i 0)).getD k 0 = (u.set i (0 - u.getD i 0)).getD k 0 + c * (v.set i (0 - v.getD i 0)).getD k 0
    rw [getD_set (by rw [addM_len huv]; omega), getD_set (by omega), getD_set (by omega), addM_getD huv, addM_getD huv]
    by_cases e : i = k
    · rw [if_pos e, if_pos e, if_pos e, Int.mul_sub]
      omega
    · rw [if_neg e, if_neg e, if_neg e]
  | swap i j =>
    obtain ⟨hi, hj, _⟩ := ok
    have e1 : (2 : Int) ^ shS (.swap i j) * c = c := by show (2 : Int) ^ 0 * c = c; omega
    rw [e1]
    show (((addM u c v).set i ((addM u c v).getD j 0)).set j ((addM u c v).getD i 0)).getD k 0 = ((u.set i (u.getD j 0)).set j (u.getD i 0)).getD k 0 + c * ((v.set i (v.getD j 0)).set j (v.getD i 0)).getD k 0
    rw [getD_set (by rw [List.length_set, addM_len huv]; omega), getD_set (by rw [addM_len huv]; omega), getD_set (by rw [List.length_set]; omega), getD_set (by omega), getD_set (by rw [List.length_set]; omega), getD_set (by omega), addM_getD huv, addM_getD huv, addM_getD huv]
    by_cases e : j = k
    · rw [if_pos e, if_pos e, if_pos e]
    · rw [if_neg e, if_neg e, if_neg e]
      by_cases e' : i = k
      · rw [if_pos e', if_pos e', if_pos e']
      · rw [if_neg e', if_neg e', if_neg e']
  | lift t ws sh =>
    obtain ⟨ht, _⟩ := ok
    show ((addM u (2 ^ sh * c) v).set t ((addM u (2 ^ sh * c) v).getD t 0 + 1 * (dotP ws (addM u (2 ^ sh * c) v) / 2 ^ sh))).getD k 0 = (u.set t (u.getD t 0 + 1 * (dotP ws u / 2 ^ sh))).getD k 0 + c * ((v.map fun x => x * 2 ^ sh).set t (v.getD t 0 * 2 ^ sh + dotP ws v)).getD k 0
    rw [getD_set (by rw [addM_len huv]; omega), getD_set (by omega), getD_set (by rw [List.length_map]; omega), addM_getD huv, addM_getD huv, dot_addM _ _ _ _ huv]
    have hp : (2 : Int) ^ sh ≠ 0 := Int.ne_of_gt (Int.pow_pos (by decide))
    have e2 : (dotP ws u + 2 ^ sh * c * dotP ws v) / 2 ^ sh = dotP ws u / 2 ^ sh + c * dotP ws v := by
      rw [Int.mul_assoc, Int.add_mul_ediv_left _ _ hp]
    rw [e2]
    by_cases e : t = k
    · rw [if_pos e, if_pos e, if_pos e, Int.mul_add c]
      have : c * (v.getD t 0 * 2 ^ sh) = 2 ^ sh * c * v.getD t 0 := by
        rw [Int.mul_comm (v.getD t 0), ← Int.mul_assoc, Int.mul_comm c]
      omega
    · rw [if_neg e, if_neg e, if_neg e]
      have e3 : (v.map fun x => x * 2 ^ sh).getD k 0 = v.getD k 0 * 2 ^ sh := by
        rw [List.getD_eq_getElem?_getD, List.getElem?_map, List.getD_eq_getElem?_getD]
        cases v[k]? with
        | none => simp
        | some x => rfl
      rw [e3, Int.mul_comm (v.getD k 0), ← Int.mul_assoc, Int.mul_comm c]
theorem mulV_len (M : List (List Int)) (y : List Int) : (mulV M y).length = M.length := List.length_map ..
theorem play_addM {n : Nat} (c : Int) {y : List Int} (hy : y.length = n) : ∀ (ss : List Step) (M : List (List Int)) (u : List Int), (∀ s ∈ ss, s.ok n) → Sq n M → u.length = n →
    playF ss (addM u (2 ^ bitsS ss * c) (mulV M y)) = addM (playF ss u) c (mulV (ss.foldl (fun M s => numS n s M) M) y)
  | [], M, u, _, hM, hu => by
    show addM u (2 ^ 0 * c) (mulV M y) = addM u c (mulV M y)
    rw [Int.pow_zero, Int.one_mul]
  | s :: ss, M, u, ok, hM, hu => by
    have e : (2 : Int) ^ bitsS (s :: ss) * c = 2 ^ shS s * (2 ^ bitsS ss * c) := by
      show (2 : Int) ^ (shS s + bitsS ss) * c = _
      rw [Int.pow_add, Int.mul_assoc]
    have o1 := ok s List.mem_cons_self
    show playF ss (stepF 1 s (addM u (2 ^ bitsS (s :: ss) * c) (mulV M y))) = addM (playF ss (stepF 1 s u)) c (mulV (ss.foldl (fun M s => numS n s M) (numS n s M)) y)
    rw [e, step_add _ o1 hu (by rw [mulV_len]; exact hM.1), ← mul_num hM o1 hy]
    exact play_addM c hy ss _ _ (fun s hs => ok s (List.mem_cons_of_mem _ hs)) (numS_sq hM o1) (by rw [stepF_len, hu])
theorem unit_sq (n : Nat) : Sq n (unitM n) := ⟨by simp [unitM], fun l hl => by
  obtain ⟨i, _, rfl⟩ := List.mem_map.mp hl
  simp⟩
theorem dot_unit {i : Nat} : ∀ (n lo : Nat) (y : List Int), y.length = n → dotP ((List.range' lo n).map fun j => if i = j then (1 : Int) else 0) y = if lo ≤ i then y.getD (i - lo) 0 else 0
  | 0, lo, [], _ => by simp [dotP]
  | n + 1, lo, z :: y, h => by
    rw [List.range'_succ, List.map_cons]
    show (if i = lo then (1 : Int) else 0) * z + dotP ((List.range' (lo + 1) n).map fun j => if i = j then (1 : Int) else 0) y = _
    rw [dot_unit n (lo + 1) y (by simpa using h)]
    by_cases c : i = lo
    · rw [if_pos c, if_neg (by omega), if_pos (by omega), c, Nat.sub_self]
      simp
    · rw [if_neg c]
      by_cases d : lo + 1 ≤ i
      · rw [if_pos d, if_pos (by omega)]
        obtain ⟨k, rfl⟩ : ∃ k, i = lo + 1 + k := ⟨i - (lo + 1), by omega⟩
        rw [show lo + 1 + k - lo = k + 1 by omega, show lo + 1 + k - (lo + 1) = k by omega, List.getD_cons_succ]
        omega
      · rw [if_neg d, if_neg (by omega)]
        omega
  | 0, lo, _ :: _, h => by simp at h
  | _ + 1, lo, [], h => by simp at h
theorem mul_unit {n : Nat} {y : List Int} (hy : y.length = n) : mulV (unitM n) y = y := by
  refine ext_getD (by rw [mulV_len, (unit_sq n).1, hy]) fun i hi => ?_
  rw [mulV_len, (unit_sq n).1] at hi
  rw [mul_getD]
  have e : (unitM n).getD i [] = (List.range' 0 n).map fun j => if i = j then (1 : Int) else 0 := by
    unfold unitM
    rw [List.getD_eq_getElem?_getD, List.getElem?_map, List.getElem?_range hi]
    rw [List.range_eq_range']
    rfl
  rw [e, dot_unit n 0 y hy, if_pos (Nat.zero_le _), Nat.sub_zero]
theorem play_add {n : Nat} (c : Int) {ss : List Step} {x y : List Int} (ok : ∀ s ∈ ss, s.ok n) (hx : x.length = n) (hy : y.length = n) : playF ss (addM x (2 ^ bitsS ss * c) y) = addM (playF ss x) c (mulV (numF n ss) y) := by
  have := play_addM c hy ss (unitM n) x ok (unit_sq n) hx
  rw [mul_unit hy] at this
  exact this
/-! #### how great the numbers grow -/
def Bd (c : Nat) (M : List (List Int)) : Prop := ∀ l ∈ M, ∀ x ∈ l, x.natAbs < 2 ^ c
theorem dot_bd {c : Nat} : ∀ (ws xs : List Int), (∀ w ∈ ws, -1267650600228229401496703205376 ≤ w ∧ w ≤ 1267650600228229401496703205376) → (∀ x ∈ xs, x.natAbs < 2 ^ c) → (dotP ws xs).natAbs ≤ ws.length * (2 ^ 100 * 2 ^ c)
  | [], xs, _, _ => by cases xs <;> exact Nat.zero_le _
  | _ :: _, [], _, _ => Nat.zero_le _
  | w :: ws, x :: xs, h, k => by
    have ih := dot_bd ws xs (fun w hw => h w (List.mem_cons_of_mem _ hw)) (fun x hx => k x (List.mem_cons_of_mem _ hx))
    have hw := h w List.mem_cons_self
    have hx := k x List.mem_cons_self
    have e : (w * x).natAbs ≤ 2 ^ 100 * 2 ^ c := by
      rw [Int.natAbs_mul]
      exact Nat.mul_le_mul (by omega) (by omega)
    have e2 : (dotP (w :: ws) (x :: xs)).natAbs ≤ (w * x).natAbs + (dotP ws xs).natAbs := Int.natAbs_add_le _ _
    rw [List.length_cons, Nat.add_mul, Nat.one_mul]
    omega
theorem numS_bd {n c : Nat} {s : Step} {M : List (List Int)} (hM : Sq n M) (ok : s.ok n) (hn : n ≤ 4) (h : Bd c M) : Bd (c + 103) (numS n s M) := by
  have up : ∀ {x : Int}, x.natAbs < 2 ^ c → x.natAbs < 2 ^ (c + 103) := fun hx => Nat.lt_of_lt_of_le hx (Nat.pow_le_pow_right (by decide) (by omega))
  have pe : 2 ^ (c + 103) = 2 ^ c * 10141204801825835211973625643008 := Nat.pow_add 2 c 103
  cases s with
  | turn i =>
    have hi : i < n := ok
    intro l hl x hx
    rcases List.mem_or_eq_of_mem_set hl with hl | rfl
    · exact up (h l hl x hx)
    · obtain ⟨y, hy, rfl⟩ := List.mem_map.mp hx
      have := up (h _ (getD_mem (by rw [hM.1]; exact hi)) y hy)
      omega
  | swap i j =>
    obtain ⟨hi, hj, _⟩ := ok
    intro l hl x hx
    rcases List.mem_or_eq_of_mem_set hl with hl | rfl
    · rcases List.mem_or_eq_of_mem_set hl with hl | rfl
      · exact up (h l hl x hx)
      · exact up (h _ (getD_mem (by rw [hM.1]; exact hj)) x hx)
    · exact up (h _ (getD_mem (by rw [hM.1]; exact hi)) x hx)
  | lift t ws sh =>
    obtain ⟨ht, hw, _, hs, hws⟩ := ok
    have psh : 2 ^ sh ≤ 2 ^ 15 := Nat.pow_le_pow_right (by decide) hs
    have grow : ∀ {y : Int}, y.natAbs < 2 ^ c → (y * 2 ^ sh).natAbs ≤ 2 ^ c * 2 ^ 15 := fun {y} hy => by
      rw [Int.natAbs_mul, Int.natAbs_pow]
      exact Nat.mul_le_mul (by omega) psh
    have p0 : 0 < 2 ^ c := Nat.two_pow_pos c
    intro l hl x hx
    rcases List.mem_or_eq_of_mem_set hl with hl | rfl
    · obtain ⟨k, hk, rfl⟩ := List.mem_map.mp hl
      obtain ⟨y, hy, rfl⟩ := List.mem_map.mp hx
      have := grow (h k hk y hy)
      omega
    · obtain ⟨i, hi, rfl⟩ := List.mem_iff_getElem.mp hx
      rw [List.getElem_zipWith, List.getElem_map, List.getElem_map]
      have hi1 : i < (M.getD t []).length := by
        rw [List.length_zipWith, List.length_map] at hi
        omega
      have h1 := grow (h _ (getD_mem (by rw [hM.1]; exact ht)) _ (List.getElem_mem hi1))
      generalize hk : (List.range n)[i]'_ = k
      have hk' : k < n := by
        rw [← hk]
        exact List.mem_range.mp (List.getElem_mem _)
      have h2 := dot_bd (c := c) ws (colM M k) hws (fun x hx => by
        obtain ⟨l, hl, rfl⟩ := List.mem_map.mp hx
        have hlk : k < l.length := by rw [hM.2 l hl]; exact hk'
        rw [List.getD_eq_getElem?_getD, List.getElem?_eq_getElem hlk]
        exact h l hl _ (List.getElem_mem hlk))
      have h3 : ws.length * (2 ^ 100 * 2 ^ c) ≤ 4 * (2 ^ 100 * 2 ^ c) := Nat.mul_le_mul_right _ (by omega)
      have := Int.natAbs_add_le ((M.getD t [])[i] * 2 ^ sh) (dotP ws (colM M k))
      omega
theorem unit_bd (n : Nat) : Bd 1 (unitM n) := fun l hl x hx => by
  obtain ⟨i, _, rfl⟩ := List.mem_map.mp hl
  obtain ⟨j, _, rfl⟩ := List.mem_map.mp hx
  split <;> decide
theorem num_bd {n : Nat} (hn : n ≤ 4) : ∀ {ss : List Step} {M : List (List Int)} {c : Nat}, (∀ s ∈ ss, s.ok n) → Sq n M → Bd c M → Bd (c + 103 * ss.length) (ss.foldl (fun M s => numS n s M) M)
  | [], M, c, _, _, h => h
  | s :: ss, M, c, ok, hM, h => by
    have := num_bd hn (ss := ss) (fun t ht => ok t (List.mem_cons_of_mem _ ht)) (numS_sq hM (ok s List.mem_cons_self)) (numS_bd hM (ok s List.mem_cons_self) hn h)
    rw [show c + 103 + 103 * ss.length = c + 103 * (s :: ss).length by rw [List.length_cons]; omega] at this
    exact this
theorem num_sq {n : Nat} : ∀ {ss : List Step} {M : List (List Int)}, (∀ s ∈ ss, s.ok n) → Sq n M → Sq n (ss.foldl (fun M s => numS n s M) M)
  | [], M, _, h => h
  | s :: ss, M, ok, h => num_sq (ss := ss) (fun t ht => ok t (List.mem_cons_of_mem _ ht)) (numS_sq h (ok s List.mem_cons_self))
end My

namespace My
open PySem PySem.Spec PyProof.Rows L2 Pre
/-- the lists at as are new since H0, none of them is f, and they hold the rows -/
def NewRows (H0 : Hp) (f : Addr) (H : Hp) (as : List Addr) (rows : List (List Int)) : Prop := as.length = rows.length ∧ ∀ (i : Nat) (a : Addr) (r : List Int), as[i]? = some a → rows[i]? = some r → H0 a = none ∧ a ≠ f ∧ H a = some (.lst (r.map V.int))
theorem NewRows.nil {H0 H : Hp} {f : Addr} : NewRows H0 f H [] [] := ⟨rfl, fun i a r h => by simp at h⟩
theorem NewRows.app {H0 H : Hp} {f : Addr} {as bs : List Addr} {xs ys : List (List Int)} (h : NewRows H0 f H as xs) (k : NewRows H0 f H bs ys) : NewRows H0 f H (as ++ bs) (xs ++ ys) := by
  refine ⟨by rw [List.length_append, List.length_append, h.1, k.1], fun i a r ha hr => ?_⟩
  by_cases c : i < as.length
  · rw [List.getElem?_append_left c] at ha
    rw [List.getElem?_append_left (by rw [← h.1]; exact c)] at hr
    exact h.2 i a r ha hr
  · rw [List.getElem?_append_right (by omega)] at ha
    rw [List.getElem?_append_right (by rw [← h.1]; omega), ← h.1] at hr
    exact k.2 _ a r ha hr
theorem NewRows.one {H0 H : Hp} {f p : Addr} {r : List Int} (h1 : H0 p = none) (h2 : p ≠ f) (h3 : H p = some (.lst (r.map V.int))) : NewRows H0 f H [p] [r] := by
  refine ⟨rfl, fun i a q ha hq => ?_⟩
  cases i with
  | zero =>
    rw [List.getElem?_cons_zero] at ha hq
    cases ha
    cases hq
    exact ⟨h1, h2, h3⟩
  | succ i => simp at ha
/-- all but f stand -/
theorem NewRows.but {H0 H H' : Hp} {f : Addr} {as : List Addr} {rows : List (List Int)} (h : NewRows H0 f H as rows) (s : ∀ b o, b ≠ f → H b = some o → H' b = some o) : NewRows H0 f H' as rows :=
  ⟨h.1, fun i a r ha hr => by
    obtain ⟨a1, a2, a3⟩ := h.2 i a r ha hr
    exact ⟨a1, a2, s _ _ a2 a3⟩⟩
/-- another base, another one that it is not -/
theorem NewRows.base {H0 H1 H : Hp} {f g : Addr} {as : List Addr} {rows : List (List Int)} (h : NewRows H1 f H as rows) (s : Same H0 H1) (n : H1 g ≠ none) : NewRows H0 g H as rows :=
  ⟨h.1, fun i a r ha hr => by
    obtain ⟨a1, a2, a3⟩ := h.2 i a r ha hr
    exact ⟨s.free a1, fun z => n (by rw [← z]; exact a1), a3⟩⟩
theorem NewRows.rows {H0 H : Hp} {f p : Addr} {as : List Addr} {rows : List (List Int)} (h : NewRows H0 f H as rows) (hp : H p = some (.lst (as.map V.ref))) : RowsIn H p rows := ⟨as, hp, h.1, fun i a r ha hr => (h.2 i a r ha hr).2.2⟩
theorem ne_rows {K : PySem.W.Frag} {H : Hp} {p q : Addr} {xs ys : List (List Int)} {Q : V → Hp → Prop} (hp : RowsIn H p xs) (hq : RowsIn H q ys) (e : xs = ys) (k : Q (.bl false) H) : rNeD K (.ref p) (.ref q) H Q := by
  subst e
  obtain ⟨as, h1, h2, h3⟩ := hp
  obtain ⟨bs, k1, k2, k3⟩ := hq
  refine ⟨.list (xs.map rowD), .list (xs.map rowD), .lst (.inl (.inl h1)) (rows_dp h2 h3), .lst (.inl (.inl k1)) (rows_dp k2 k3), rows_shaped xs, rows_shaped xs, ?_⟩
  rw [SeqAt.eqv_refl _ (Bool.and_eq_true_iff.mp (rows_shaped xs)).1]
  exact k
theorem eq_rows {K : PySem.W.Frag} {H : Hp} {p q : Addr} {xs ys : List (List Int)} {Q : V → Hp → Prop} (hp : RowsIn H p xs) (hq : RowsIn H q ys) (e : xs = ys) (k : Q (.bl true) H) : rEqD K (.ref p) (.ref q) H Q := by
  subst e
  obtain ⟨as, h1, h2, h3⟩ := hp
  obtain ⟨bs, k1, k2, k3⟩ := hq
  refine ⟨.list (xs.map rowD), .list (xs.map rowD), .lst (.inl (.inl h1)) (rows_dp h2 h3), .lst (.inl (.inl k1)) (rows_dp k2 k3), rows_shaped xs, rows_shaped xs, ?_⟩
  rw [SeqAt.eqv_refl _ (Bool.and_eq_true_iff.mp (rows_shaped xs)).1]
  exact k
/-- a comprehension that makes new lists of whole numbers -/
theorem lc_rowsL {K : PySem.W.Frag} {a : Addr} {xs : List V} {j : Nat} {tt : TT} {te : TE} {vs : List Nat} {σ : L2.St} {H1 : Hp} {D : Addr} {Qd : Hp → Prop} (sel : List (Option (List Int))) (nD : H1 D = none) (hS : SqL K H1 a xs) (hlen : sel.length = xs.length) (hz : xs.length < sizeLine)
    (hw : ∀ x, wipe ((wipe σ vs).set j (some x)) vs = wipe σ vs)
    (hs : ∀ (i : Nat) (x : V) (o : Option (List Int)) (H' : Hp), xs[i]? = some x → sel[i]? = some o → Same H1 H' → ∀ Qt : Option V → Hp → Prop, (o = none → ∀ H'', Same H' H'' → Qt none H'') → (∀ r, o = some r → ∀ p H'', Same H' H'' → H' p = none → H'' p = some (.lst (r.map V.int)) → Qt (some (.ref p)) H'') →
      tt ((wipe σ vs).set j (some x)) H' fun b H3 => if b = true then te ((wipe σ vs).set j (some x)) H3 fun y H4 => Qt (some y) H4 else Qt none H3)
    (hd : ∀ H' as, Same H1 H' → H' D = some (.lst (as.map V.ref)) → NewRows H1 D H' as (sel.filterMap id) → Qd H') :
    ∃ W : Nat → Nat → Hp → Prop, (∃ m, W 0 m (upd H1 D (.lst []))) ∧ ∀ i m H, W i m H →
      ((Itl K a).stop i H ∧ Qd H) ∨ ((Itl K a).go i H ∧ ∃ Nx : Hp → Prop, (∀ H', Nx H' → ∃ m', m' < m ∧ W (i + 1) m' H') ∧ ∀ x H', (Itl K a).yld i H x H' → gName j x (wipe σ vs) H' fun σ2 H2 => wipe σ2 vs = wipe σ vs ∧ tt σ2 H2 fun b H3 =>
        if b = true then te σ2 H3 fun y H4 => ∃ acc, H4 D = some (.lst acc) ∧ acc.length < sizeLine ∧ Nx (upd H4 D (.lst (acc ++ [y]))) else Nx H3) := by
  refine lc_list (K := K) (a := a) (xs := xs) (fun i H => Same H1 H ∧ ∃ as, H D = some (.lst (as.map V.ref)) ∧ NewRows H1 D H as ((sel.take i).filterMap id)) ⟨same_upd nD, [], upd_same, .nil⟩ (fun i H _ p => p.1.seq hS) ?_ ?_
  · rintro i x H hx ⟨s, as, hD, hN⟩
    refine ⟨hw x, ?_⟩
    have hi : i < sel.length := by rw [hlen]; exact (List.getElem?_eq_some_iff.mp hx).1
    have ho : sel[i]? = some sel[i] := List.getElem?_eq_getElem hi
    have hl : (as.map V.ref).length < sizeLine := by
      rw [List.length_map, hN.1]
      exact Nat.lt_of_le_of_lt (fm_len sel i) (by omega)
    have h := hs i x sel[i] H hx ho s
    generalize sel[i] = o at ho h
    cases o with
    | none =>
      refine h (fun y H4 => match y with | some y => ∃ acc, H4 D = some (.lst acc) ∧ acc.length < sizeLine ∧ (Same H1 (upd H4 D (.lst (acc ++ [y]))) ∧ ∃ as, (upd H4 D (.lst (acc ++ [y]))) D = some (.lst (as.map V.ref)) ∧ NewRows H1 D (upd H4 D (.lst (acc ++ [y]))) as ((sel.take (i + 1)).filterMap id)) | none => Same H1 H4 ∧ ∃ as, H4 D = some (.lst (as.map V.ref)) ∧ NewRows H1 D H4 as ((sel.take (i + 1)).filterMap id)) (fun _ H4 s4 => ?_) (fun r z => by cases z)
      refine ⟨s.trans s4, as, s4 _ _ hD, ?_⟩
      rw [take_fm ho]
      simp only [Option.toList, List.append_nil]
      exact hN.but fun b o _ hb => s4 _ _ hb
    | some r =>
      refine h (fun y H4 => match y with | some y => ∃ acc, H4 D = some (.lst acc) ∧ acc.length < sizeLine ∧ (Same H1 (upd H4 D (.lst (acc ++ [y]))) ∧ ∃ as, (upd H4 D (.lst (acc ++ [y]))) D = some (.lst (as.map V.ref)) ∧ NewRows H1 D (upd H4 D (.lst (acc ++ [y]))) as ((sel.take (i + 1)).filterMap id)) | none => Same H1 H4 ∧ ∃ as, H4 D = some (.lst (as.map V.ref)) ∧ NewRows H1 D H4 as ((sel.take (i + 1)).filterMap id)) (fun z => by cases z) (fun r' z p H4 s4 np hp => ?_)
      cases z
      refine ⟨_, s4 _ _ hD, hl, same_over nD (s.trans s4), as ++ [p], by rw [upd_same, List.map_append]; rfl, ?_⟩
      rw [take_fm ho]
      have npD : p ≠ D := (ne_of_none hD np).symm
      refine (NewRows.app (hN.but fun b o _ hb => s4 _ _ hb) (NewRows.one (s.free np) npD hp)).but fun b o nb hb => by rw [upd_ne nb]; exact hb
  · rintro H ⟨s, as, hD, hN⟩
    rw [← hlen, List.take_length] at hN
    exact hd H as s hD hN
end My

namespace My
/-! ### two mixers alike on all rests are alike on all rows -/
def linesF (m : Nat) (M : List (List Int)) : List (List Int) := M.map fun l => l.map fun x => x * 2 ^ m
/-- all rows of n of the values -/
def listsF (vals : List Int) : Nat → List (List Int)
  | 0 => [[]]
  | k + 1 => (listsF vals k).flatMap fun row => vals.map fun v => row ++ [v]
def rngI (lo : Int) (n : Nat) : List Int := (List.range n).map fun (i : Nat) => lo + (i : Int)
theorem mem_rngI {lo : Int} {n : Nat} {x : Int} : x ∈ rngI lo n ↔ lo ≤ x ∧ x < lo + n := by
  unfold rngI
  rw [List.mem_map]
  constructor
  · rintro ⟨i, hi, rfl⟩
    have := List.mem_range.mp hi
    omega
  · rintro ⟨h1, h2⟩
    exact ⟨(x - lo).toNat, List.mem_range.mpr (by omega), by omega⟩
theorem mem_listsF {vals : List Int} : ∀ {n : Nat} {x : List Int}, x ∈ listsF vals n ↔ x.length = n ∧ ∀ v ∈ x, v ∈ vals
  | 0, x => by
    show x ∈ [[]] ↔ _
    rw [List.mem_singleton]
    constructor
    · rintro rfl
      exact ⟨rfl, fun v h => nomatch h⟩
    · intro h
      exact List.length_eq_zero_iff.mp h.1
  | n + 1, x => by
    show x ∈ (listsF vals n).flatMap _ ↔ _
    rw [List.mem_flatMap]
    constructor
    · rintro ⟨row, hr, hx⟩
      obtain ⟨v, hv, rfl⟩ := List.mem_map.mp hx
      obtain ⟨h1, h2⟩ := mem_listsF.mp hr
      refine ⟨by rw [List.length_append, h1]; rfl, fun w hw => ?_⟩
      rcases List.mem_append.mp hw with h | h
      · exact h2 w h
      · rw [List.mem_singleton.mp h]
        exact hv
    · rintro ⟨h1, h2⟩
      have hne : x ≠ [] := fun z => by rw [z] at h1; simp at h1
      refine ⟨x.dropLast, mem_listsF.mpr ⟨by rw [List.length_dropLast, h1]; rfl, fun v hv => h2 v (List.dropLast_subset _ hv)⟩, List.mem_map.mpr ⟨x.getLast hne, h2 _ (List.getLast_mem hne), List.dropLast_concat_getLast hne⟩⟩
theorem len_listsF (vals : List Int) : ∀ n : Nat, (listsF vals n).length = vals.length ^ n
  | 0 => rfl
  | n + 1 => by
    show ((listsF vals n).flatMap fun row => vals.map fun v => row ++ [v]).length = _
    rw [List.length_flatMap]
    have e : (listsF vals n).map (fun row => (vals.map fun v => row ++ [v]).length) = List.replicate (listsF vals n).length vals.length := by
      apply List.ext_getElem
      · simp
      · intro i h1 h2
        simp
    rw [e, List.sum_replicate_nat, len_listsF vals n, Nat.pow_succ]
/-! #### the two directions -/
def sameOn (A B : List Step) (rows : List (List Int)) : Bool := rows.all fun r => decide (playF A r = playF B r)
def alikeF (n : Nat) (A B : List Step) : Bool := decide (linesF (bitsS B) (numF n A) = linesF (bitsS A) (numF n B)) && sameOn A B (listsF (rngI 0 (2 ^ max (bitsS A) (bitsS B))) n)
theorem sameOn_iff {A B : List Step} {rows : List (List Int)} : sameOn A B rows = true ↔ ∀ r ∈ rows, playF A r = playF B r := by
  unfold sameOn
  rw [List.all_eq_true]
  exact ⟨fun h r hr => of_decide_eq_true (h r hr), fun h r hr => decide_eq_true (h r hr)⟩
theorem dot_pow {m k : Nat} {a b y : List Int} (h : (a.map fun x => x * 2 ^ m) = b.map fun x => x * 2 ^ k) : dotP a y * 2 ^ m = dotP b y * 2 ^ k := by
  rw [← dot_mulr, ← dot_mulr, h]
theorem lines_getD {m : Nat} {M : List (List Int)} {i : Nat} : (linesF m M).getD i [] = (M.getD i []).map fun x => x * 2 ^ m := by
  unfold linesF
  rw [List.getD_eq_getElem?_getD, List.getElem?_map, List.getD_eq_getElem?_getD]
  cases M[i]? with
  | none => rfl
  | some l => rfl
theorem pow_parts {a b : Nat} (h : a ≤ b) : (2 : Int) ^ b = 2 ^ a * 2 ^ (b - a) := by
  rw [← Int.pow_add]
  congr 1
  omega
theorem pow_ne (a : Nat) : (2 : Int) ^ a ≠ 0 := Int.ne_of_gt (Int.pow_pos (by decide))
/-- the parts behind 2 ^ m of both -/
theorem parts_eq {a b : Nat} {u v : Int} : u * 2 ^ b = v * 2 ^ a ↔ 2 ^ (max a b - a) * u = 2 ^ (max a b - b) * v := by
  rcases Nat.le_total a b with h | h
  · rw [Nat.max_eq_right h, Nat.sub_self, Int.pow_zero, Int.one_mul, pow_parts h]
    constructor
    · intro e
      have e2 : (2 : Int) ^ a * (2 ^ (b - a) * u) = 2 ^ a * v := by
        rw [← Int.mul_assoc, Int.mul_comm _ u, e, Int.mul_comm]
      exact Int.eq_of_mul_eq_mul_left (pow_ne a) e2
    · intro e
      rw [← e, Int.mul_comm u, Int.mul_assoc, Int.mul_comm]
  · rw [Nat.max_eq_left h, Nat.sub_self, Int.pow_zero, Int.one_mul, pow_parts h]
    constructor
    · intro e
      have e2 : (2 : Int) ^ b * u = 2 ^ b * (2 ^ (a - b) * v) := by
        rw [Int.mul_comm, e, ← Int.mul_assoc, Int.mul_comm v, Int.mul_assoc, Int.mul_comm v]
      exact Int.eq_of_mul_eq_mul_left (pow_ne b) e2
    · intro e
      rw [e, Int.mul_comm (2 ^ (a - b)) v, Int.mul_assoc, Int.mul_comm (2 ^ (a - b)) (2 ^ b)]
theorem num_len {n : Nat} {A : List Step} (hA : ∀ s ∈ A, s.ok n) : Sq n (numF n A) := num_sq hA (unit_sq n)
theorem play_far {n : Nat} {A : List Step} {m : Nat} {x y : List Int} (hA : ∀ s ∈ A, s.ok n) (hm : bitsS A ≤ m) (hx : x.length = n) (hy : y.length = n) : playF A (addM x (2 ^ m) y) = addM (playF A x) (2 ^ (m - bitsS A)) (mulV (numF n A) y) := by
  rw [pow_parts hm]
  exact play_add _ hA hx hy
theorem alike_all {n : Nat} {A B : List Step} (hA : ∀ s ∈ A, s.ok n) (hB : ∀ s ∈ B, s.ok n) (h : alikeF n A B = true) {x : List Int} (hx : x.length = n) : playF A x = playF B x := by
  unfold alikeF at h
  rw [Bool.and_eq_true] at h
  obtain ⟨h1, h2⟩ := h
  have h1 := of_decide_eq_true h1
  have h2 := sameOn_iff.mp h2
  generalize hm : max (bitsS A) (bitsS B) = m at h2
  have p0 : (0 : Int) < 2 ^ m := Int.pow_pos (by decide)
  have er : (x.map fun v => v % 2 ^ m).length = n := by rw [List.length_map, hx]
  have eq : (x.map fun v => v / 2 ^ m).length = n := by rw [List.length_map, hx]
  have ex : x = addM (x.map fun v => v % 2 ^ m) (2 ^ m) (x.map fun v => v / 2 ^ m) := by
    refine ext_getD (by rw [addM_len (by rw [er, eq]), List.length_map]) fun i hi => ?_
    rw [addM_getD (by rw [er, eq])]
    have e1 : ∀ f : Int → Int, (x.map f).getD i 0 = f (x.getD i 0) := fun f => by
      rw [List.getD_eq_getElem?_getD, List.getElem?_map, List.getD_eq_getElem?_getD, List.getElem?_eq_getElem hi]
      rfl
    rw [e1 (fun v => v % 2 ^ m), e1 (fun v => v / 2 ^ m)]
    exact (Int.emod_add_mul_ediv _ _).symm
  have hr := h2 (x.map fun v => v % 2 ^ m) (mem_listsF.mpr ⟨er, fun v hv => by
    obtain ⟨w, _, rfl⟩ := List.mem_map.mp hv
    refine mem_rngI.mpr ⟨Int.emod_nonneg _ (Int.ne_of_gt p0), ?_⟩
    have := Int.emod_lt_of_pos w p0
    rw [Int.natCast_pow]
    show w % 2 ^ m < 0 + (2 : Int) ^ m
    omega⟩)
  rw [ex, play_far hA (by omega) er eq, play_far hB (by omega) er eq, hr]
  have lA := num_len hA
  have lB := num_len hB
  refine ext_getD (by rw [addM_len (by rw [play_len, mulV_len, lA.1, er]), addM_len (by rw [play_len, mulV_len, lB.1, er])]) fun i hi => ?_
  rw [addM_getD (by rw [play_len, mulV_len, lA.1, er]), addM_getD (by rw [play_len, mulV_len, lB.1, er]), mul_getD, mul_getD]
  have el : (linesF (bitsS B) (numF n A)).getD i [] = (linesF (bitsS A) (numF n B)).getD i [] := by rw [h1]
  rw [lines_getD, lines_getD] at el
  have := parts_eq.mp (dot_pow (y := x.map fun v => v / 2 ^ m) el)
  rw [hm] at this
  rw [this]
theorem dot_one {n : Nat} {l : List Int} (hl : l.length = n) (j : Nat) (hj : j < n) : dotP l ((List.range' 0 n).map fun k => if j = k then (1 : Int) else 0) = l.getD j 0 := by
  have comm : ∀ a b : List Int, dotP a b = dotP b a := by
    intro a
    induction a with
    | nil => intro b; cases b <;> rfl
    | cons x a ih =>
      intro b
      cases b with
      | nil => rfl
      | cons z b =>
        show x * z + dotP a b = z * x + dotP b a
        rw [ih, Int.mul_comm]
  rw [comm, dot_unit n 0 l hl, if_pos (Nat.zero_le _), Nat.sub_zero]
theorem alike_of_box {n : Nat} {A B : List Step} (hA : ∀ s ∈ A, s.ok n) (hB : ∀ s ∈ B, s.ok n) (h : sameOn A B (listsF (rngI 0 (2 ^ max (bitsS A) (bitsS B) + 1)) n) = true) : alikeF n A B = true := by
  have h2 := sameOn_iff.mp h
  unfold alikeF
  generalize hm : max (bitsS A) (bitsS B) = m at h2
  have p0 : (0 : Int) < 2 ^ m := Int.pow_pos (by decide)
  have pc : ((2 ^ m : Nat) : Int) = 2 ^ m := by rw [Int.natCast_pow]; rfl
  have lA := num_len hA
  have lB := num_len hB
  rw [Bool.and_eq_true]
  refine ⟨decide_eq_true ?_, sameOn_iff.mpr fun r hr => h2 r ?_⟩
  · have entry : ∀ i j, i < n → j < n → ((numF n A).getD i []).getD j 0 * 2 ^ bitsS B = ((numF n B).getD i []).getD j 0 * 2 ^ bitsS A := fun i j hi hj => by
      have hz : (List.replicate n (0 : Int)).length = n := List.length_replicate
      have hu : ((List.range' 0 n).map fun k => if j = k then (1 : Int) else 0).length = n := by rw [List.length_map, List.length_range']
      have z0 := h2 (List.replicate n 0) (mem_listsF.mpr ⟨hz, fun v hv => by
        rw [List.eq_of_mem_replicate hv]
        exact mem_rngI.mpr ⟨by omega, by omega⟩⟩)
      have z1 := h2 (addM (List.replicate n 0) (2 ^ m) ((List.range' 0 n).map fun k => if j = k then (1 : Int) else 0)) (mem_listsF.mpr ⟨by rw [addM_len (by rw [hz, hu]), hz], fun v hv => by
        obtain ⟨k, hk, rfl⟩ := List.mem_iff_getElem.mp hv
        have hk' : k < n := by
          rw [addM_len (by rw [hz, hu]), hz] at hk
          exact hk
        have e : (addM (List.replicate n 0) (2 ^ m) ((List.range' 0 n).map fun k => if j = k then (1 : Int) else 0))[k] = (List.replicate n (0 : Int)).getD k 0 + 2 ^ m * ((List.range' 0 n).map fun k => if j = k then (1 : Int) else 0).getD k 0 := by
          rw [← addM_getD (by rw [hz, hu]) k, List.getD_eq_getElem?_getD, List.getElem?_eq_getElem hk]
          rfl
        rw [e]
        have e0 : (List.replicate n (0 : Int)).getD k 0 = 0 := by
          rw [List.getD_eq_getElem?_getD, List.getElem?_replicate, if_pos hk']
          rfl
        have e1 : ((List.range' 0 n).map fun k => if j = k then (1 : Int) else 0).getD k 0 = if j = k then 1 else 0 := by
          rw [List.getD_eq_getElem?_getD, List.getElem?_map, List.getElem?_range' (by omega)]
          simp
        rw [e0, e1]
        by_cases c : j = k
        · rw [if_pos c]
          exact mem_rngI.mpr ⟨by omega, by omega⟩
        · rw [if_neg c]
          exact mem_rngI.mpr ⟨by omega, by omega⟩⟩)
      rw [play_far hA (by omega) hz hu, play_far hB (by omega) hz hu, z0] at z1
      have z2 : ∀ u v : List Int, u = v → u.getD i 0 = v.getD i 0 := fun u v e => by rw [e]
      have z3 := z2 _ _ z1
      rw [addM_getD (by rw [play_len, mulV_len, lA.1, hz]), addM_getD (by rw [play_len, mulV_len, lB.1, hz]), mul_getD, mul_getD, dot_one (lA.2 _ (getD_mem (by rw [lA.1]; exact hi))) j hj, dot_one (lB.2 _ (getD_mem (by rw [lB.1]; exact hi))) j hj] at z3
      refine parts_eq.mpr ?_
      rw [hm]
      omega
    unfold linesF
    apply List.ext_getElem
    · rw [List.length_map, List.length_map, lA.1, lB.1]
    · intro i h1 h3
      have hi : i < n := by
        have := h1
        rw [List.length_map, lA.1] at this
        exact this
      have iA : i < (numF n A).length := by rw [lA.1]; exact hi
      have iB : i < (numF n B).length := by rw [lB.1]; exact hi
      have la : (numF n A)[i].length = n := lA.2 _ (List.getElem_mem iA)
      have lb : (numF n B)[i].length = n := lB.2 _ (List.getElem_mem iB)
      rw [List.getElem_map, List.getElem_map]
      apply List.ext_getElem
      · exact (List.length_map _).trans (la.trans (lb.symm.trans (List.length_map _).symm))
      · intro j h4 h5
        have hj : j < n := Nat.lt_of_lt_of_eq h4 ((List.length_map _).trans la)
        rw [List.getElem_map, List.getElem_map]
        have := entry i j hi hj
        rw [List.getD_eq_getElem?_getD, List.getD_eq_getElem?_getD, List.getElem?_eq_getElem iA] at this
        rw [List.getD_eq_getElem?_getD, List.getD_eq_getElem?_getD, List.getElem?_eq_getElem iB] at this
        simp only [Option.getD_some] at this
        rw [List.getElem?_eq_getElem (show j < (numF n A)[i].length by rw [la]; exact hj), List.getElem?_eq_getElem (show j < (numF n B)[i].length by rw [lb]; exact hj)] at this
        exact this
  · obtain ⟨h3, h4⟩ := mem_listsF.mp hr
    exact mem_listsF.mpr ⟨h3, fun v hv => by
      obtain ⟨h5, h6⟩ := mem_rngI.mp (h4 v hv)
      exact mem_rngI.mpr ⟨h5, by omega⟩⟩
/-- alike on the box, with its ends, or alike by the lines and all rests: the same -/
theorem alike_box {n : Nat} {A B : List Step} (hA : ∀ s ∈ A, s.ok n) (hB : ∀ s ∈ B, s.ok n) : sameOn A B (listsF (rngI 0 (2 ^ max (bitsS A) (bitsS B) + 1)) n) = alikeF n A B := by
  cases e : alikeF n A B with
  | true => exact sameOn_iff.mpr fun r hr => alike_all hA hB e (mem_listsF.mp hr).1
  | false =>
    cases e2 : sameOn A B (listsF (rngI 0 (2 ^ max (bitsS A) (bitsS B) + 1)) n) with
    | false => rfl
    | true =>
      rw [alike_of_box hA hB e2] at e
      cases e
theorem alike_comm {n : Nat} {A B : List Step} (hA : ∀ s ∈ A, s.ok n) (hB : ∀ s ∈ B, s.ok n) : alikeF n A B = alikeF n B A := by
  rw [← alike_box hA hB, ← alike_box hB hA, Nat.max_comm]
  unfold sameOn
  congr 1
  funext r
  exact decide_eq_decide.mpr eq_comm
/-! #### the first row that parts them -/
def maxAbs (r : List Int) : Nat := r.foldl (fun m v => max m v.natAbs) 0
def sizeRows (n size : Nat) : List (List Int) := (listsF (rngI (-(size : Int)) (2 * size + 1)) n).filter fun r => decide (maxAbs r = size)
def firstF (n : Nat) (A B : List Step) (top : Nat) : Option (List Int) := ((List.range (top + 1)).flatMap (sizeRows n)).find? fun r => decide (playF A r ≠ playF B r)
theorem foldl_max : ∀ (r : List Int) (m : Nat), r.foldl (fun m v => max m v.natAbs) m = max m (maxAbs r)
  | [], m => by simp [maxAbs]
  | v :: r, m => by
    have e : maxAbs (v :: r) = max v.natAbs (maxAbs r) := by
      show r.foldl (fun m v => max m v.natAbs) (max 0 v.natAbs) = _
      rw [foldl_max r, Nat.zero_max]
    rw [List.foldl_cons, foldl_max r, e]
    omega
theorem maxAbs_le {r : List Int} {v : Int} : v ∈ r → v.natAbs ≤ maxAbs r := by
  induction r with
  | nil => intro h; cases h
  | cons w r ih =>
    intro h
    have e : maxAbs (w :: r) = max w.natAbs (maxAbs r) := by
      show r.foldl (fun m v => max m v.natAbs) (max 0 w.natAbs) = _
      rw [foldl_max r, Nat.zero_max]
    rcases List.mem_cons.mp h with rfl | h
    · omega
    · have := ih h
      omega
theorem maxAbs_bound {r : List Int} {m : Nat} (h : ∀ v ∈ r, v.natAbs ≤ m) : maxAbs r ≤ m := by
  induction r with
  | nil => exact Nat.zero_le _
  | cons w r ih =>
    have e : maxAbs (w :: r) = max w.natAbs (maxAbs r) := by
      show r.foldl (fun m v => max m v.natAbs) (max 0 w.natAbs) = _
      rw [foldl_max r, Nat.zero_max]
    have h1 := h w List.mem_cons_self
    have h2 := ih fun v hv => h v (List.mem_cons_of_mem _ hv)
    omega
theorem first_some {n : Nat} {A B : List Step} (hA : ∀ s ∈ A, s.ok n) (hB : ∀ s ∈ B, s.ok n) (h : alikeF n A B = false) : ∃ r, firstF n A B (2 ^ max (bitsS A) (bitsS B)) = some r ∧ r.length = n := by
  cases e : firstF n A B (2 ^ max (bitsS A) (bitsS B)) with
  | some r =>
    refine ⟨r, rfl, ?_⟩
    obtain ⟨k, _, hr⟩ := List.mem_flatMap.mp (List.mem_of_find?_eq_some e)
    exact (mem_listsF.mp (List.mem_filter.mp hr).1).1
  | none =>
    exfalso
    rw [← alike_box hA hB] at h
    have : sameOn A B (listsF (rngI 0 (2 ^ max (bitsS A) (bitsS B) + 1)) n) = true := sameOn_iff.mpr fun r hr => by
      obtain ⟨h1, h2⟩ := mem_listsF.mp hr
      have hb : ∀ v ∈ r, v.natAbs ≤ 2 ^ max (bitsS A) (bitsS B) := fun v hv => by
        have := mem_rngI.mp (h2 v hv)
        omega
      have hle := maxAbs_bound hb
      have hmem : r ∈ (List.range (2 ^ max (bitsS A) (bitsS B) + 1)).flatMap (sizeRows n) := List.mem_flatMap.mpr ⟨maxAbs r, List.mem_range.mpr (by omega), List.mem_filter.mpr ⟨mem_listsF.mpr ⟨h1, fun v hv => mem_rngI.mpr (by have := maxAbs_le hv; omega)⟩, decide_eq_true rfl⟩⟩
      have := List.find?_eq_none.mp e r hmem
      rw [decide_eq_true_eq] at this
      exact Decidable.not_not.mp this
    rw [this] at h
    cases h
theorem first_comm {n : Nat} {A B : List Step} (top : Nat) : firstF n A B top = firstF n B A top := by
  unfold firstF
  congr 1
  funext r
  exact decide_eq_decide.mpr ⟨fun h e => h e.symm, fun h e => h e.symm⟩
end My

namespace My
open PySem PySem.Spec PyProof.Rows L2 Pre
/-! ### more on new lists of rows -/
theorem NewRows.get {H0 H : Hp} {f : Addr} {as : List Addr} {rows : List (List Int)} (h : NewRows H0 f H as rows) {i : Nat} (hi : i < rows.length) : ∃ a r, as[i]? = some a ∧ rows[i]? = some r ∧ H0 a = none ∧ a ≠ f ∧ H a = some (.lst (r.map V.int)) := by
  have h1 : as[i]? = some (as[i]'(by rw [h.1]; exact hi)) := List.getElem?_eq_getElem _
  have h2 : rows[i]? = some rows[i] := List.getElem?_eq_getElem hi
  exact ⟨_, _, h1, h2, h.2 i _ _ h1 h2⟩
theorem NewRows.older {H0 H1 H : Hp} {f : Addr} {as : List Addr} {rows : List (List Int)} (h : NewRows H1 f H as rows) (s : Same H0 H1) : NewRows H0 f H as rows :=
  ⟨h.1, fun i a r ha hr => by
    obtain ⟨a1, a2, a3⟩ := h.2 i a r ha hr
    exact ⟨s.free a1, a2, a3⟩⟩
theorem NewRows.set {H0 H : Hp} {f b : Addr} {as : List Addr} {rows : List (List Int)} {r : List Int} (h : NewRows H0 f H as rows) (i : Nat) (h1 : H0 b = none) (h2 : b ≠ f) (h3 : H b = some (.lst (r.map V.int))) : NewRows H0 f H (as.set i b) (rows.set i r) := by
  refine ⟨by rw [List.length_set, List.length_set, h.1], fun k a q ha hq => ?_⟩
  rw [List.getElem?_set] at ha hq
  by_cases e : i = k
  · subst e
    rw [if_pos rfl] at ha hq
    by_cases c : i < as.length
    · rw [if_pos c] at ha
      rw [if_pos (by rw [← h.1]; exact c)] at hq
      cases ha
      cases hq
      exact ⟨h1, h2, h3⟩
    · rw [if_neg c] at ha
      cases ha
  · rw [if_neg e] at ha hq
    exact h.2 k a q ha hq
/-- the list of them is changed by other rows -/
theorem NewRows.upd {H0 H : Hp} {f : Addr} {as : List Addr} {rows : List (List Int)} {o : HO} (h : NewRows H0 f H as rows) : NewRows H0 f (upd H f o) as rows := h.but fun b o nb e => by rw [upd_ne nb]; exact e
/-- a comprehension over a range that makes new lists of whole numbers -/
theorem lc_rowsR {lo : Int} {n : Nat} {j : Nat} {te : TE} {vs : List Nat} {σ : L2.St} {H1 : Hp} {D : Addr} {Qd : Hp → Prop} (rows : List (List Int)) (nD : H1 D = none) (hlen : rows.length = n) (hz : n < sizeLine)
    (hw : ∀ x, wipe ((wipe σ vs).set j (some x)) vs = wipe σ vs)
    (hs : ∀ (i : Nat) (r : List Int) (H' : Hp), i < n → rows[i]? = some r → Same H1 H' → ∀ Qt : V → Hp → Prop, (∀ p H'', Same H' H'' → H' p = none → H'' p = some (.lst (r.map V.int)) → Qt (.ref p) H'') → te ((wipe σ vs).set j (some (.int (lo + (i : Int))))) H' Qt)
    (hd : ∀ H' as, Same H1 H' → H' D = some (.lst (as.map V.ref)) → NewRows H1 D H' as rows → Qd H') :
    ∃ W : Nat → Nat → Hp → Prop, (∃ m, W 0 m (upd H1 D (.lst []))) ∧ ∀ i m H, W i m H →
      ((Itr lo n).stop i H ∧ Qd H) ∨ ((Itr lo n).go i H ∧ ∃ Nx : Hp → Prop, (∀ H', Nx H' → ∃ m', m' < m ∧ W (i + 1) m' H') ∧ ∀ x H', (Itr lo n).yld i H x H' → gName j x (wipe σ vs) H' fun σ2 H2 => wipe σ2 vs = wipe σ vs ∧ tYes σ2 H2 fun b H3 =>
        if b = true then te σ2 H3 fun y H4 => ∃ acc, H4 D = some (.lst acc) ∧ acc.length < sizeLine ∧ Nx (upd H4 D (.lst (acc ++ [y]))) else Nx H3) := by
  refine lc_range (lo := lo) (n := n) (fun i H => Same H1 H ∧ ∃ as, H D = some (.lst (as.map V.ref)) ∧ NewRows H1 D H as (rows.take i)) ⟨same_upd nD, [], upd_same, .nil⟩ ?_ ?_
  · rintro i H hi ⟨s, as, hD, hN⟩
    refine ⟨hw _, ?_⟩
    unfold tYes
    dsimp only
    rw [if_pos (show true = true from rfl)]
    have hr : rows[i]? = some (rows[i]'(by omega)) := List.getElem?_eq_getElem (by omega)
    refine hs i _ H hi hr s _ fun p H4 s4 np hp => ?_
    have hl := hN.1
    rw [List.length_take] at hl
    have npD : p ≠ D := (ne_of_none hD np).symm
    refine ⟨_, s4 _ _ hD, by rw [List.length_map]; omega, same_over nD (s.trans s4), as ++ [p], by rw [upd_same, List.map_append]; rfl, ?_⟩
    rw [List.take_add_one, hr]
    exact (hN.but fun b o nb e => by rw [upd_ne nb]; exact s4 _ _ e).app (.one (s.free np) npD (by rw [upd_ne npD]; exact hp))
  · rintro H ⟨s, as, hD, hN⟩
    rw [← hlen, List.take_length] at hN
    exact hd H as s hD hN
/-- rows gone on by each number of a range: two clauses -/
theorem lc2_rows {K : PySem.W.Frag} {a : Addr} {rows : List (List Int)} {n : Nat} {lo : Int} {j j1 : Nat} {wi1 : TI} {te : TE} {vs vs1 : List Nat} {σ : L2.St} {H1 : Hp} {D : Addr} {Qd : Hp → Prop} (as : List Addr) (nD : H1 D = none) (hA : SqL K H1 a (as.map V.ref)) (hl : as.length = rows.length)
    (hr : ∀ (i : Nat) (b : Addr) (r : List Int), as[i]? = some b → rows[i]? = some r → H1 b = some (.lst (r.map V.int))) (hz : rows.length * n < sizeLine)
    (hw : ∀ x, wipe ((wipe σ vs).set j (some x)) vs = wipe σ vs) (hw1 : ∀ x y, wipe ((wipe ((wipe σ vs).set j (some x)) vs1).set j1 (some y)) vs1 = wipe ((wipe σ vs).set j (some x)) vs1)
    (hi : ∀ (x : V) (H' : Hp) (R : It → Hp → Prop), R (Itr lo n) H' → wi1 ((wipe σ vs).set j (some x)) H' R)
    (hs : ∀ (k : Nat) (b : Addr) (r : List Int) (H' : Hp), k < n → H' b = some (.lst (r.map V.int)) → r ∈ rows → ∀ Qt : V → Hp → Prop, (∀ p H'', Same H' H'' → H' p = none → H'' p = some (.lst ((r ++ [lo + (k : Int)]).map V.int)) → Qt (.ref p) H'') →
      te ((wipe ((wipe σ vs).set j (some (.ref b))) vs1).set j1 (some (.int (lo + (k : Int))))) H' Qt)
    (hd : ∀ H' bs, Same H1 H' → H' D = some (.lst (bs.map V.ref)) → NewRows H1 D H' bs (rows.flatMap fun r => (rngI lo n).map fun v => r ++ [v]) → Qd H') :
    ∃ W : Nat → Nat → Hp → Prop, (∃ m, W 0 m (upd H1 D (.lst []))) ∧ ∀ i m H, W i m H →
      ((Itl K a).stop i H ∧ Qd H) ∨ ((Itl K a).go i H ∧ ∃ Nx : Hp → Prop, (∀ H', Nx H' → ∃ m', m' < m ∧ W (i + 1) m' H') ∧ ∀ x H', (Itl K a).yld i H x H' → gName j x (wipe σ vs) H' fun σ2 H2 => wipe σ2 vs = wipe σ vs ∧ tYes σ2 H2 fun b H3 =>
        if b = true then wi1 σ2 H3 fun J1 H4 => ∃ W1 : Nat → Nat → Hp → Prop, (∃ m, W1 0 m H4) ∧ ∀ j k H, W1 j k H →
          (J1.stop j H ∧ Nx H) ∨ (J1.go j H ∧ ∃ Nx1 : Hp → Prop, (∀ H', Nx1 H' → ∃ k', k' < k ∧ W1 (j + 1) k' H') ∧ ∀ x H', J1.yld j H x H' → gName j1 x (wipe σ2 vs1) H' fun σ3 H5 => wipe σ3 vs1 = wipe σ2 vs1 ∧ tYes σ3 H5 fun b H6 =>
            if b = true then te σ3 H6 fun y H7 => ∃ acc, H7 D = some (.lst acc) ∧ acc.length < sizeLine ∧ Nx1 (upd H7 D (.lst (acc ++ [y]))) else Nx1 H6)
        else Nx H3) := by
  have flen : ∀ xs : List (List Int), (xs.flatMap fun r => (rngI lo n).map fun v => r ++ [v]).length = xs.length * n := fun xs => by
    rw [List.length_flatMap]
    have e : xs.map (fun r => ((rngI lo n).map fun v => r ++ [v]).length) = List.replicate xs.length n := by
      apply List.ext_getElem
      · simp
      · intro i h1 h2
        simp [rngI]
    rw [e, List.sum_replicate_nat]
  let S : Nat → Nat → Hp → Prop := fun i k H => Same H1 H ∧ ∃ bs, H D = some (.lst (bs.map V.ref)) ∧ NewRows H1 D H bs ((rows.take i).flatMap (fun r => (rngI lo n).map fun v => r ++ [v]) ++ ((rows[i]?.toList.flatMap fun r => (rngI lo k).map fun v => r ++ [v])))
  refine ⟨fun i m H => m = rows.length - i ∧ i ≤ rows.length ∧ S i 0 H, ⟨rows.length, by simp, Nat.zero_le _, same_upd nD, [], upd_same, ?_⟩, ?_⟩
  · have e : ((rows.take 0).flatMap (fun r => (rngI lo n).map fun v => r ++ [v]) ++ ((rows[0]?.toList.flatMap fun r => (rngI lo 0).map fun v => r ++ [v]))) = [] := by
      cases rows[0]? <;> rfl
    rw [e]
    exact .nil
  rintro i m H ⟨rfl, hi', s, bs, hD, hN⟩
  have hS := s.seq hA
  by_cases lt : i < rows.length
  · have hai : as[i]? = some (as[i]'(by omega)) := List.getElem?_eq_getElem (by omega)
    have hri : rows[i]? = some rows[i] := List.getElem?_eq_getElem lt
    refine .inr ⟨⟨_, .ref (as[i]'(by omega)), hS, by rw [List.getElem?_map, hai]; rfl⟩, S (i + 1) 0, fun H' p => ⟨rows.length - (i + 1), by omega, rfl, lt, p⟩, fun x H' y => ?_⟩
    obtain ⟨e, y⟩ := y
    subst e
    have hx := y _ hS
    rw [List.getElem?_map, hai] at hx
    cases hx
    refine ⟨hw _, ?_⟩
    unfold tYes
    dsimp only
    rw [if_pos (show true = true from rfl)]
    refine hi _ H' _ ⟨fun k m H => m = n - k ∧ k ≤ n ∧ S i k H, ⟨n, by simp, Nat.zero_le _, s, bs, hD, hN⟩, ?_⟩
    rintro k m H2 ⟨rfl, hk, s2, cs, hD2, hN2⟩
    by_cases kl : k < n
    · refine .inr ⟨kl, S i (k + 1), fun H' p => ⟨n - (k + 1), by omega, rfl, kl, p⟩, fun x H' y => ?_⟩
      obtain ⟨e, y⟩ := y
      subst e
      subst y
      refine ⟨hw1 _ _, ?_⟩
      rw [if_pos (show true = true from rfl)]
      refine hs k _ rows[i] _ kl (s2 _ _ (hr i _ _ hai hri)) (List.getElem_mem lt) _ fun p H7 s7 np hp => ?_
      have hcl := hN2.1
      have npD : p ≠ D := (ne_of_none hD2 np).symm
      have hlen : cs.length < rows.length * n := by
        rw [hcl, List.length_append, flen, List.length_take, Nat.min_eq_left (by omega), hri]
        show i * n + ((rngI lo k).map _ ++ []).length < _
        rw [List.append_nil, List.length_map]
        have : (rngI lo k).length = k := by simp [rngI]
        rw [this]
        have : (i + 1) * n ≤ rows.length * n := Nat.mul_le_mul_right _ lt
        rw [Nat.add_mul] at this
        omega
      refine ⟨_, s7 _ _ hD2, by rw [List.length_map]; omega, same_over nD (s2.trans s7), cs ++ [p], by rw [upd_same, List.map_append]; rfl, ?_⟩
      have e : ((rows.take i).flatMap (fun r => (rngI lo n).map fun v => r ++ [v]) ++ ((rows[i]?.toList.flatMap fun r => (rngI lo (k + 1)).map fun v => r ++ [v]))) = ((rows.take i).flatMap (fun r => (rngI lo n).map fun v => r ++ [v]) ++ ((rows[i]?.toList.flatMap fun r => (rngI lo k).map fun v => r ++ [v]))) ++ [rows[i] ++ [lo + (k : Int)]] := by
        rw [List.append_assoc, hri]
        congr 1
        show (rngI lo (k + 1)).map _ ++ [] = ((rngI lo k).map _ ++ []) ++ _
        rw [List.append_nil, List.append_nil]
        unfold rngI
        rw [List.range_succ, List.map_append, List.map_append]
        rfl
      rw [e]
      exact (hN2.but fun b o nb e => by rw [upd_ne nb]; exact s7 _ _ e).app (.one (s2.free np) npD (by rw [upd_ne npD]; exact hp))
    · have ek : k = n := by omega
      subst ek
      refine .inl ⟨Nat.le_refl _, s2, cs, hD2, ?_⟩
      have e : ((rows.take (i + 1)).flatMap (fun r => (rngI lo k).map fun v => r ++ [v]) ++ ((rows[i + 1]?.toList.flatMap fun r => (rngI lo 0).map fun v => r ++ [v]))) = ((rows.take i).flatMap (fun r => (rngI lo k).map fun v => r ++ [v]) ++ ((rows[i]?.toList.flatMap fun r => (rngI lo k).map fun v => r ++ [v]))) := by
        have e0 : (rows[i + 1]?.toList.flatMap fun r => (rngI lo 0).map fun v => r ++ [v]) = [] := by cases rows[i + 1]? <;> rfl
        rw [e0, List.append_nil, List.take_add_one, List.flatMap_append]
      rw [e]
      exact hN2
  · have ei : i = rows.length := by omega
    subst ei
    refine .inl ⟨⟨_, hS, by rw [List.length_map, hl]; exact Nat.le_refl _⟩, hd H bs s hD ?_⟩
    have e : ((rows.take rows.length).flatMap (fun r => (rngI lo n).map fun v => r ++ [v]) ++ ((rows[rows.length]?.toList.flatMap fun r => (rngI lo 0).map fun v => r ++ [v]))) = rows.flatMap fun r => (rngI lo n).map fun v => r ++ [v] := by
      rw [List.take_length, List.getElem?_eq_none (Nat.le_refl _)]
      show _ ++ [] = _
      rw [List.append_nil]
    rw [e] at hN
    exact hN
end My

namespace My
open PySem PySem.Spec PyProof.Rows L2 Pre
def liftSh : Step → Option V
  | .lift _ _ sh => some (.int (sh : Int))
  | _ => none
theorem sum_sh : ∀ ss : List Step, ∃ ns : List Int, (ss.map liftSh).filterMap id = ns.map V.int ∧ ns.sum = (bitsS ss : Int)
  | [] => ⟨[], rfl, rfl⟩
  | s :: ss => by
    obtain ⟨ns, h1, h2⟩ := sum_sh ss
    have e : bitsS (s :: ss) = shS s + bitsS ss := rfl
    cases s with
    | turn i => exact ⟨ns, h1, by rw [e, h2]; show _ = ((0 + bitsS ss : Nat) : Int); omega⟩
    | swap i j => exact ⟨ns, h1, by rw [e, h2]; show _ = ((0 + bitsS ss : Nat) : Int); omega⟩
    | lift t ws sh => exact ⟨(sh : Int) :: ns, by rw [List.map_cons, List.map_cons, ← h1]; rfl, by rw [List.sum_cons, e, h2]; show _ = ((sh + bitsS ss : Nat) : Int); omega⟩
theorem unit_cell (i k : Nat) : V.int (if decide (V.int (0 + (i : Int)) = V.int (0 + (k : Int))) = true then 1 else 0) = V.int (if i = k then 1 else 0) := by
  by_cases h : i = k
  · rw [if_pos h, decide_eq_true (by rw [h])]
    rfl
  · rw [if_neg h, decide_eq_false (fun e => h (by have := V.int.inj e; omega))]
    rfl
theorem ref_at {bs : List Addr} {i : Nat} {a : Addr} (h : bs[i]? = some a) : atI (bs.map V.ref) (i : Int) = some (.ref a) := atI_nat (by rw [List.getElem?_map, h]; rfl)
theorem getD_of {M : List (List Int)} {i : Nat} {l : List Int} (h : M[i]? = some l) : M.getD i [] = l := by
  rw [List.getD_eq_getElem?_getD, h]
  rfl
local macro_rules | `(tactic| walk_at "go") => `(tactic| repeat (first | (with_reducible first | refine iteT ?_ | refine iteF ?_ | refine iteNtt ?_ | refine iteNff ?_ | refine iteET (by omega) ?_ | refine iteEF (by omega) ?_ | refine iteENT (by omega) ?_ | refine iteENF (by omega) ?_ | refine iteDT (by omega) ?_ | refine iteDF (by omega) ?_ | refine iteNT (by omega) ?_ | refine iteNF (by omega) ?_) | refine ⟨_, rfl, ?_⟩ | refine ⟨_, _, rfl, rfl, ?_⟩ | refine ⟨_, _, rfl, ?_⟩ | refine ⟨rfl, ?_⟩ | refine .inl ⟨_, rfl, ?_⟩ | refine .inr ⟨_, rfl, ?_⟩))
local macro_rules | `(tactic| walk_at "b") => `(tactic| try dsimp (config := { proj := false, iota := false, eta := false, zeta := false }) only)
section
variable {P : Program} {w : World} {K : PySem.W.Frag} {mg : Str → Option Value} {base : Heap}
def sp_shifts_of (K : PySem.W.Frag) : Sp := fun vs H Q _ => ∃ (r : Addr) (us : List V) (ss : List Step), vs = [.ref r] ∧ H r = some (.lst us) ∧ AllV (RowV H) us ss ∧ ss.length ≤ 24 ∧ ∀ H', Same H H' → Q (.int (bitsS ss : Nat)) H'
theorem G_shifts_of (T : Top K mg) : FnOk P w K mg base CX0 1 T.f_shifts_of T.fd_shifts_of ["rows"] (sp_shifts_of K) := by
  refine T.F_shifts_of.ok sc_shifts_of (fun vs H Q E h => by obtain ⟨r, us, ss, rfl, _⟩ := h; rfl) (fun cdv A outer s H vs Q E hr h => ?_)
  obtain ⟨r, us, ss, rfl, hr0, hv, hl, q⟩ := h
  refine ⟨_, PSs.nox (pss_one (ps_ret (pe_callB (k_sum K rfl rfl) (by rfl) T.n_sum (by decide +kernel) (pa_cons (pe_lc (own := [("row", 1)]) (g := gName 1) (by rfl) sc_shifts_of.nd (k_piL K rfl (pv 0)) (blkOk_by (own := [("row", 1)]) (N := N_shifts_of) (sc := defScope s_shifts_of) (by decide +kernel)) (fun _ _ _ _ _ => (pg_name (i := 1) sc_shifts_of.nd rfl (by first | exact Or.inl rfl | exact Or.inr rfl))) (fun _ _ _ _ _ => (pts_one (pt_cmpR op_eq (pe_ix (k_ixT K rfl) (pv 1) pe_int (fun _ _ => rfl)) pe_str (nomark _)))) (fun _ _ _ _ _ => (pe_ix (k_ixT K rfl) (pv 1) pe_int (fun _ _ => rfl)))) pa_nil)))), ?_⟩
  have hvl := hv.len
  walk_at "go"
  refine ⟨⟨_, .inl (.inl hr0)⟩, fun D nD => ?_⟩
  refine lc_selL (K := K) (xs := us) (ss.map liftSh) nD (.inl (.inl hr0)) (by rw [List.length_map, hvl]) (small1000 (by omega)) (fun x => rfl) ?_ ?_
  · intro i y o H' hy ho s' Qt qt
    obtain ⟨s, hs, hys⟩ := hv.get hy
    rw [List.getElem?_map, hs] at ho
    cases ho
    have hys := hys.same s'
    walk_at "go"
    cases s with
    | turn i =>
      obtain ⟨t, rfl, ht⟩ := hys
      refine ⟨t, _, _, _, rfl, rfl, .inl (.inl ht), rfl, rfl, _, rfl, iteDF (by decide) ?_⟩
      exact qt _ (Same.refl _)
    | swap i j =>
      obtain ⟨t, rfl, ht⟩ := hys
      refine ⟨t, _, _, _, rfl, rfl, .inl (.inl ht), rfl, rfl, _, rfl, iteDF (by decide) ?_⟩
      exact qt _ (Same.refl _)
    | lift b ws sh =>
      obtain ⟨t, l, rfl, ht, _⟩ := hys
      refine ⟨t, _, _, _, rfl, rfl, .inl (.inl ht), rfl, rfl, _, rfl, iteDT rfl ?_⟩
      refine ⟨_, rfl, t, _, _, _, rfl, rfl, .inl (.inl ht), rfl, ?_⟩
      exact qt _ (Same.refl _)
  intro H1 s1 hD
  obtain ⟨ns, en, es⟩ := sum_sh ss
  rw [en] at hD
  refine ⟨D, ns, rfl, .inl (.inl hD), ?_⟩
  rw [es]
  exact q _ s1
def sp_numbers_of (K : PySem.W.Frag) : Sp := fun vs H Q _ => ∃ (r : Addr) (us : List V) (n : Nat) (ss : List Step), vs = [.ref r, .int n] ∧ H r = some (.lst us) ∧ AllV (RowV H) us ss ∧ (∀ s ∈ ss, s.ok n) ∧ 1 ≤ n ∧ n ≤ 4 ∧ ss.length ≤ 24 ∧ ∀ H' D, Same H H' → RowsIn H' D (numF n ss) → Q (.ref D) H'
theorem G_numbers_of (T : Top K mg) : FnOk P w K mg base CX0 2 T.f_numbers_of T.fd_numbers_of ["rows", "wide"] (sp_numbers_of K) := by
  refine T.F_numbers_of.ok sc_numbers_of (fun vs H Q E h => by obtain ⟨r, us, n, ss, rfl, _⟩ := h; rfl) (fun cdv A outer s H vs Q E hr h => ?_)
  obtain ⟨r, us, n, ss, rfl, hr0, hv, hO, hn1, hn4, hl, q⟩ := h
  refine ⟨_, PSs.nox (pss_cons (ps_set (i := 2) sc_numbers_of.nd rfl (Or.inr rfl) (pe_lc (own := [("one", 4)]) (g := gName 4) (tt := tYes) (by rfl) sc_numbers_of.nd (pi_range1 (by rfl) T.n_range (pa_cons (pv 1) pa_nil)) (blkOk_by (own := [("one", 4)]) (N := N_numbers_of) (sc := defScope s_numbers_of) (by decide +kernel)) (fun _ _ _ _ _ => (pg_name (i := 4) sc_numbers_of.nd rfl (by first | exact Or.inl rfl | exact Or.inr rfl))) (fun _ _ _ _ _ => pts_nil) (fun _ _ _ _ _ => (pe_lc (own := [("other", 6)]) (g := gName 6) (tt := tYes) (by rfl) sc_numbers_of.nd (pi_range1 (by rfl) T.n_range (pa_cons (pv 1) pa_nil)) (blkOk_by (own := [("other", 6)]) (N := N_numbers_of) (by kernel_rfl)) (fun _ _ _ _ _ => (pg_name (i := 6) sc_numbers_of.nd rfl (by first | exact Or.inl rfl | exact Or.inr rfl))) (fun _ _ _ _ _ => pts_nil) (fun _ _ _ _ _ => (pe_callTy call_int1 (by rfl) T.n_int (by decide +kernel) (pa_cons (pe_cmpR op_eq (pv 4) (pv 6) (nomark _)) pa_nil)))))))
  (pss_cons (ps_for PassesOwn.never rfl (k_piL K rfl (pv 0)) (pg_name (i := 3) sc_numbers_of.nd rfl (by first | exact Or.inl rfl | exact Or.inr rfl))
    (pss_one (ps_if (pt_cmpR op_eq (pe_ix (k_ixT K rfl) (pv 3) pe_int (fun _ _ => rfl)) pe_str (nomark _))
    (pss_cons (ps_setLc (i := 5) (own := [("at", 7)]) (g := gName 7) (tt := tYes) (by rfl) sc_numbers_of.nd rfl rfl (sw_true rfl rfl rfl (by decide +kernel)) (pi_range1 (by rfl) T.n_range (pa_cons (pv 1) pa_nil)) (blkOk_by (own := [("at", 7)]) (N := N_numbers_of) (sc := defScope s_numbers_of) (by decide +kernel)) (fun _ _ _ _ _ => (pg_name (i := 7) sc_numbers_of.nd rfl (by first | exact Or.inl rfl | exact Or.inr rfl))) (fun _ _ _ _ _ => pts_nil) (fun _ _ _ _ _ => (pe_call (G_summed T) (hr.mono (by decide)) (by rfl) T.g_summed T.F_summed.kp T.b_summed .nil pass0 (pa_cons (pe_ix (k_ixT K rfl) (pv 3) pe_int (fun _ _ => rfl)) (pa_cons (pe_lc (own := [("line", 8)]) (g := gName 8) (tt := tYes) (by rfl) sc_numbers_of.nd (k_piL K rfl (pv 2)) (blkOk_by (own := [("line", 8)]) (N := N_numbers_of) (by kernel_rfl)) (fun _ _ _ _ _ => (pg_name (i := 8) sc_numbers_of.nd rfl (by first | exact Or.inl rfl | exact Or.inr rfl))) (fun _ _ _ _ _ => pts_nil) (fun _ _ _ _ _ => (pe_ix (k_ixL K rfl) (pv 8) (pv 7) (fun _ _ => rfl)))) pa_nil)))))
  (pss_cons (ps_set (i := 2) sc_numbers_of.nd rfl (Or.inr rfl) (pe_lc (own := [("line", 8)]) (g := gName 8) (tt := tYes) (by rfl) sc_numbers_of.nd (k_piL K rfl (pv 2)) (blkOk_by (own := [("line", 8)]) (N := N_numbers_of) (sc := defScope s_numbers_of) (by decide +kernel)) (fun _ _ _ _ _ => (pg_name (i := 8) sc_numbers_of.nd rfl (by first | exact Or.inl rfl | exact Or.inr rfl))) (fun _ _ _ _ _ => pts_nil) (fun _ _ _ _ _ => (pe_lc (own := [("number", 9)]) (g := gName 9) (tt := tYes) (by rfl) sc_numbers_of.nd (k_piL K rfl (pv 8)) (blkOk_by (own := [("number", 9)]) (N := N_numbers_of) (by kernel_rfl)) (fun _ _ _ _ _ => (pg_name (i := 9) sc_numbers_of.nd rfl (by first | exact Or.inl rfl | exact Or.inr rfl))) (fun _ _ _ _ _ => pts_nil) (fun _ _ _ _ _ => (pe_op op_shlW (pv 9) (pe_ix (k_ixT K rfl) (pv 3) pe_int (fun _ _ => rfl))))))))
  (pss_one (ps_asg (pe_lc (own := [("number", 9), ("other", 6)]) (g := gTup K 2 (gCons (gName 9) (gCons (gName 6) (gNil)))) (tt := tYes) (by rfl) sc_numbers_of.nd (k_piZL K rfl (by rfl) T.n_zip (pa_cons (pe_ix (k_ixL K rfl) (pv 2) (pe_ix (k_ixT K rfl) (pv 3) pe_int (fun _ _ => rfl)) (fun _ _ => rfl)) (pa_cons (pv 5) pa_nil)) (pk_cons pe_bl pk_nil)) (blkOk_by (own := [("number", 9), ("other", 6)]) (N := N_numbers_of) (sc := defScope s_numbers_of) (by decide +kernel)) (fun _ _ _ _ _ => (k_pgT K rfl (by rfl) (pgs_cons (pg_name (i := 9) sc_numbers_of.nd rfl (by first | exact Or.inl rfl | exact Or.inr rfl)) (pgs_cons (pg_name (i := 6) sc_numbers_of.nd rfl (by first | exact Or.inl rfl | exact Or.inr rfl)) pgs_nil)))) (fun _ _ _ _ _ => pts_nil) (fun _ _ _ _ _ => (pe_op op_add (pv 9) (pv 6)))) (pg_sub (pv 2) (pe_ix (k_ixT K rfl) (pv 3) pe_int (fun _ _ => rfl)) set_list)))))
    (pss_one (ps_if (pt_cmpR op_eq (pe_ix (k_ixT K rfl) (pv 3) pe_int (fun _ _ => rfl)) pe_str (nomark _))
    (pss_one (ps_asg (pe_lc (own := [("number", 9)]) (g := gName 9) (tt := tYes) (by rfl) sc_numbers_of.nd (k_piL K rfl (pe_ix (k_ixL K rfl) (pv 2) (pe_ix (k_ixT K rfl) (pv 3) pe_int (fun _ _ => rfl)) (fun _ _ => rfl))) (blkOk_by (own := [("number", 9)]) (N := N_numbers_of) (sc := defScope s_numbers_of) (by decide +kernel)) (fun _ _ _ _ _ => (pg_name (i := 9) sc_numbers_of.nd rfl (by first | exact Or.inl rfl | exact Or.inr rfl))) (fun _ _ _ _ _ => pts_nil) (fun _ _ _ _ _ => (pe_op op_sub pe_int (pv 9)))) (pg_sub (pv 2) (pe_ix (k_ixT K rfl) (pv 3) pe_int (fun _ _ => rfl)) set_list)))
    (pss_one (ps_asg (pe_tup (pa_cons (pe_ix (k_ixL K rfl) (pv 2) (pe_ix (k_ixT K rfl) (pv 3) pe_int (fun _ _ => rfl)) (fun _ _ => rfl)) (pa_cons (pe_ix (k_ixL K rfl) (pv 2) (pe_ix (k_ixT K rfl) (pv 3) pe_int (fun _ _ => rfl)) (fun _ _ => rfl)) pa_nil))) (k_pgT K rfl (by rfl) (pgs_cons (pg_sub (pv 2) (pe_ix (k_ixT K rfl) (pv 3) pe_int (fun _ _ => rfl)) set_list) (pgs_cons (pg_sub (pv 2) (pe_ix (k_ixT K rfl) (pv 3) pe_int (fun _ _ => rfl)) set_list) pgs_nil))))))))))
  (pss_one (ps_ret (pv 2))))), ?_⟩
  have hvl := hv.len
  walk_at "go"
  refine ⟨by omega, by omega, fun D nD => ?_⟩
  rw [Int.toNat_natCast]
  refine lc_rowsR (lo := 0) (n := n) (unitM n) nD (unit_sq n).1 (small1000 (by omega)) (fun x => rfl) ?_ ?_
  · intro i l H' hi hl' s Qt qt
    unfold unitM at hl'
    rw [List.getElem?_map, List.getElem?_range hi] at hl'
    cases hl'
    walk_at "go"
    refine ⟨by omega, by omega, fun D2 nD2 => ?_⟩
    rw [Int.toNat_natCast]
    refine lc_mapR (lo := 0) (n := n) (((List.range n).map fun j => if i = j then (1 : Int) else 0).map V.int) nD2 (by rw [List.length_map, List.length_map, List.length_range]) (small1000 (by omega)) (fun x => rfl) ?_ ?_
    · intro k y H2 hk hy s2 Qt2 qt2
      rw [List.getElem?_map, List.getElem?_map, List.getElem?_range hk] at hy
      cases hy
      walk_at "go"
      rw [unit_cell]
      exact qt2 _ (Same.refl _)
    · intro H2 s2 hD2
      exact qt D2 H2 s2 nD2 hD2
  · intro H1 as s1 hD hN
    walk_at "go"
    have hr1 := s1 _ _ hr0
    have lenM : ∀ k, Sq n ((ss.take k).foldl (fun M s => numS n s M) (unitM n)) := fun k => num_sq (fun s hs => hO s (List.take_subset _ _ hs)) (unit_sq n)
    refine ⟨⟨_, .inl (.inl hr1)⟩, for_list (K := K) (a := r) (xs := us) (fun k σ H2 => ∃ (v3 v5 : Option V) (D' : Addr) (as : List Addr), σ = [some (.ref r), some (.int n), some (.ref D'), v3, none, v5, none, none, none, none] ∧ Same H H2 ∧ H D' = none ∧ H2 D' = some (.lst (as.map V.ref)) ∧ NewRows H D' H2 as ((ss.take k).foldl (fun M s => numS n s M) (unitM n))) ⟨none, none, D, as, rfl, s1, nD, hD, hN⟩ (fun i σ H1 _ ⟨_, _, _, _, _, s, _⟩ => .inl (.inl (s _ _ hr0))) ?_ ?_⟩
    · rintro k v σ H2 hk ⟨v3, v5, D', bs, rfl, s2, nD', hD', hB⟩
      obtain ⟨s, hs, hvs⟩ := hv.get hk
      have hvs := hvs.same s2
      have ho := hO s (List.mem_of_getElem? hs)
      obtain ⟨hM1, hM2⟩ := lenM k
      have hbd := num_bd hn4 (ss := ss.take k) (fun s hs => hO s (List.take_subset _ _ hs)) (unit_sq n) (unit_bd n)
      have hkl : (ss.take k).length ≤ 24 := by rw [List.length_take]; omega
      generalize (ss.take k).length = kl at hbd hkl
      have ek : (ss.take (k + 1)).foldl (fun M s => numS n s M) (unitM n) = numS n s ((ss.take k).foldl (fun M s => numS n s M) (unitM n)) := by
        rw [take_snoc hs, List.foldl_append]
        rfl
      rw [ek]
      generalize (ss.take k).foldl (fun M s => numS n s M) (unitM n) = M at hB hM1 hM2 hbd
      clear ek
      walk_at "go"
      cases s with
      | turn b =>
        obtain ⟨t, rfl, ht⟩ := hvs
        have hT : SqT K H2 t [sT, .int b] := .inl (.inl ht)
        refine ⟨t, _, _, _, rfl, rfl, hT, rfl, rfl, _, rfl, iteDF (by decide) ?_⟩
        walk_at "go"
        refine ⟨t, _, _, _, rfl, rfl, hT, rfl, rfl, _, rfl, iteDT rfl ?_⟩
        walk_at "go"
        have hb : b < n := ho
        obtain ⟨a, l, ea, el, na, naD, ha⟩ := hB.get (i := b) (by omega)
        have eM : numS n (.turn b) M = M.set b (l.map fun x => 0 - x) := by
          show M.set b ((M.getD b []).map fun x => 0 - x) = _
          rw [getD_of el]
        rw [eM]
        refine ⟨t, _, _, _, rfl, rfl, hT, rfl, ?_⟩
        refine ⟨D', _, _, _, rfl, rfl, .inl (.inl hD'), ref_at ea, a, rfl, ⟨_, .inl (.inl ha)⟩, fun D3 nD3 => ?_⟩
        have ll : l.length = n := hM2 _ (List.mem_of_getElem? el)
        refine lc_mapL (K := K) (xs := l.map V.int) ((l.map fun x => 0 - x).map V.int) nD3 (.inl (.inl ha)) (by rw [List.length_map, List.length_map, List.length_map]) (by rw [List.length_map]; exact small1000 (by omega)) (fun x => rfl) ?_ ?_
        · intro i x y H' hx hy s Qt qt
          obtain ⟨m, hm, rfl⟩ := int_at hx
          rw [List.getElem?_map, List.getElem?_map, hm] at hy
          cases hy
          walk_at "go"
          exact qt _ (Same.refl _)
        · intro H3 s3 hD3
          walk_at "go"
          refine ⟨t, _, _, _, rfl, rfl, Same.tup s3 hT, rfl, ?_⟩
          have s03 := s2.trans s3
          refine ⟨D', _, _, b, rfl, rfl, s3 _ _ hD', ix_ok (by rw [List.length_map, hB.1]; omega), ?_⟩
          have D3D : D3 ≠ D' := (ne_of_none hD' nD3).symm
          refine ⟨_, _, D', bs.set b D3, rfl, same_over nD' s03, nD', by rw [upd_same, List.map_set], ?_⟩
          exact (((hB.but fun c o _ e => s3 _ _ e).set b (s2.free nD3) D3D hD3)).upd
      | swap b c =>
        obtain ⟨t, rfl, ht⟩ := hvs
        have hT : SqT K H2 t [sS, .int b, .int c] := .inl (.inl ht)
        refine ⟨t, _, _, _, rfl, rfl, hT, rfl, rfl, _, rfl, iteDF (by decide) ?_⟩
        walk_at "go"
        refine ⟨t, _, _, _, rfl, rfl, hT, rfl, rfl, _, rfl, iteDF (by decide) ?_⟩
        walk_at "go"
        obtain ⟨hb, hc, hbc⟩ := ho
        obtain ⟨a, l, ea, el, na, naD, ha⟩ := hB.get (i := b) (by omega)
        obtain ⟨a2, l2, ea2, el2, na2, naD2, ha2⟩ := hB.get (i := c) (by omega)
        have eM : numS n (.swap b c) M = (M.set b l2).set c l := by
          show (M.set b (M.getD c [])).set c (M.getD b []) = _
          rw [getD_of el, getD_of el2]
        rw [eM]
        refine ⟨t, _, _, _, rfl, rfl, hT, rfl, ?_⟩
        refine ⟨D', _, _, _, rfl, rfl, .inl (.inl hD'), ref_at ea2, ?_⟩
        walk_at "go"
        refine ⟨t, _, _, _, rfl, rfl, hT, rfl, ?_⟩
        refine ⟨D', _, _, _, rfl, rfl, .inl (.inl hD'), ref_at ea, ?_⟩
        refine ⟨(show 2 ≤ sizeLine by decide), fun tp ntp => ?_⟩
        obtain ⟨H3, e3, s3, h3⟩ := fresh (.tup [V.ref a2, V.ref a]) ntp
        rw [e3]
        refine ⟨tp, _, rfl, .inl (.inl h3), rfl, ?_⟩
        walk_at "go"
        have ht3 := s3 _ _ ht
        have hD3 := s3 _ _ hD'
        have tD : t ≠ D' := fun z => by rw [z, hD'] at ht; cases ht
        refine ⟨t, _, _, _, rfl, rfl, Same.tup s3 hT, rfl, ?_⟩
        refine ⟨D', _, _, b, rfl, rfl, hD3, ix_ok (by rw [List.length_map, hB.1]; omega), ?_⟩
        walk_at "go"
        refine ⟨t, _, _, _, rfl, rfl, .inl (.inl (by rw [upd_ne tD]; exact ht3)), rfl, ?_⟩
        refine ⟨D', _, _, c, rfl, rfl, upd_same, ix_ok (by rw [List.length_set, List.length_map, hB.1]; omega), rfl, ?_⟩
        have hB3 : NewRows H D' H3 bs M := hB.but fun c o _ e => s3 _ _ e
        refine ⟨_, _, D', (bs.set b a2).set c a, rfl, same_over nD' (same_over nD' (s2.trans s3)), nD', by rw [upd_same, List.map_set, List.map_set], ?_⟩
        exact ((hB3.set b na2 naD2 (s3 _ _ ha2)).upd.set c na naD (by rw [upd_ne naD]; exact s3 _ _ ha)).upd
      | lift b ws sh =>
        obtain ⟨t, lw, rfl, ht, hlw⟩ := hvs
        have hT : SqT K H2 t [sL, .int b, .ref lw, .int sh] := .inl (.inl ht)
        refine ⟨t, _, _, _, rfl, rfl, hT, rfl, rfl, _, rfl, iteDT rfl ?_⟩
        walk_at "go"
        obtain ⟨hb, hwl, hw0, hs15, hws⟩ := ho
        refine ⟨by omega, by omega, fun D3 nD3 => ?_⟩
        rw [Int.toNat_natCast]
        refine lc_mapR (lo := 0) (n := n) (((List.range n).map fun k => dotP ws (colM M k)).map V.int) nD3 (by rw [List.length_map, List.length_map, List.length_range]) (small1000 (by omega)) (fun x => rfl) ?_ ?_
        · intro i y H' hi hy s Qt qt
          rw [List.getElem?_map, List.getElem?_map, List.getElem?_range hi] at hy
          cases hy
          walk_at "go"
          refine ⟨t, _, _, _, rfl, rfl, Same.tup s hT, rfl, ?_⟩
          have hD3 := s _ _ hD'
          walk_at "go"
          refine ⟨⟨_, .inl (.inl hD3)⟩, fun D4 nD4 => ?_⟩
          refine lc_mapL (K := K) (xs := bs.map V.ref) ((colM M i).map V.int) nD4 (.inl (.inl hD3)) (by unfold colM; rw [List.length_map, List.length_map, List.length_map, hB.1]) (by rw [List.length_map, hB.1]; exact small1000 (by omega)) (fun x => rfl) ?_ ?_
          · intro q x y H4 hx hy s4 Qt4 qt4
            rw [List.getElem?_map] at hx
            obtain ⟨a, ea, rfl⟩ := Option.map_eq_some_iff.mp hx
            have hq : q < M.length := by rw [← hB.1]; exact (List.getElem?_eq_some_iff.mp ea).1
            obtain ⟨a', l, ea', el, na, naD, ha⟩ := hB.get hq
            rw [ea] at ea'
            cases ea'
            unfold colM at hy
            rw [List.getElem?_map, List.getElem?_map, el] at hy
            cases hy
            walk_at "go"
            refine ⟨a, _, _, _, rfl, rfl, .inl (.inl ((s.trans s4) _ _ ha)), by rw [Int.zero_add]; exact at_getD (by rw [hM2 l (List.mem_of_getElem? el)]; exact hi), ?_⟩
            exact qt4 _ (Same.refl _)
          · intro H4 s4 hD4
            walk_at "go"
            refine ⟨lw, D4, ws, colM M i, rfl, .inl (.inl (.inl ((s.trans s4) _ _ hlw))), .inl (.inl hD4), by unfold colM; rw [List.length_map, hM1, hwl], by omega, .inr fun w hw x hx => ?_, fun H5 s5 => ?_⟩
            rotate_left
            · exact qt _ (s4.trans s5)
            have h1 := hws w hw
            have p100 : (2 : Nat) ^ 101 = 2535301200456458802993406410752 := by decide +kernel
            have b1 : Builtin.Int.intBits w ≤ 101 := PyProof.Rows.intBits_le (by rw [p100]; omega)
            obtain ⟨l, hl, rfl⟩ := List.mem_map.mp (show x ∈ M.map fun l => l.getD i 0 from hx)
            have b2 : Builtin.Int.intBits (l.getD i 0) ≤ 1 + 103 * kl := PyProof.Rows.intBits_le (hbd l hl _ (by rw [List.getD_eq_getElem?_getD, List.getElem?_eq_getElem (show i < l.length by rw [hM2 l hl]; exact hi)]; exact List.getElem_mem _))
            show (Builtin.Int.intBits w : Int) + (Builtin.Int.intBits (l.getD i 0) : Int) ≤ 134217728
            omega
        · intro H3 s3 hD3
          walk_at "go"
          have hD3' := s3 _ _ hD'
          refine ⟨⟨_, .inl (.inl hD3')⟩, fun D4 nD4 => ?_⟩
          refine lc_rowsL (K := K) (xs := bs.map V.ref) ((M.map fun l => l.map fun x => x * 2 ^ sh).map some) nD4 (.inl (.inl hD3')) (by rw [List.length_map, List.length_map, List.length_map, hB.1]) (by rw [List.length_map, hB.1]; exact small1000 (by omega)) ?_ ?_ ?_
          · exact fun x => rfl
          · intro q x o H4 hx ho s4 Qt qtn qt
            rw [List.getElem?_map] at hx
            obtain ⟨a, ea, rfl⟩ := Option.map_eq_some_iff.mp hx
            have hq : q < M.length := by rw [← hB.1]; exact (List.getElem?_eq_some_iff.mp ea).1
            obtain ⟨a', l, ea', el, na, naD, ha⟩ := hB.get hq
            rw [ea] at ea'
            cases ea'
            rw [List.getElem?_map, List.getElem?_map, el] at ho
            cases ho
            have ha4 := (s3.trans s4) _ _ ha
            refine iteT (B := True) ?_
            walk_at "go"
            refine ⟨⟨_, .inl (.inl ha4)⟩, fun D5 nD5 => ?_⟩
            have ll : l.length = n := hM2 _ (List.mem_of_getElem? el)
            walk_at "b"
            refine lc_mapL (K := K) (xs := l.map V.int) ((l.map fun x => x * 2 ^ sh).map V.int) nD5 (.inl (.inl ha4)) (by rw [List.length_map, List.length_map, List.length_map]) (by rw [List.length_map]; exact small1000 (by omega)) ?_ ?_ ?_
            · exact fun x => rfl
            · intro i x y H' hx hy s Qt2 qt2
              obtain ⟨m, hm, rfl⟩ := int_at hx
              rw [List.getElem?_map, List.getElem?_map, hm] at hy
              cases hy
              walk_at "go"
              refine ⟨t, _, _, _, rfl, rfl, Same.tup ((s3.trans s4).trans s) hT, rfl, ?_⟩
              refine ⟨_, _, rfl, rfl, shl_ok (hbd l (List.mem_of_getElem? el) m (List.mem_of_getElem? hm)) (by omega), ?_⟩
              walk_at "b"
              rw [Int.toNat_natCast]
              exact qt2 _ (Same.refl _)
            · intro H5 s5 hD5
              exact qt _ rfl D5 H5 s5 nD5 hD5
          · intro H4 cs s4 hD4 hN4
            rw [fm_some] at hN4
            have s34 := s3.trans s4
            have s04 := s2.trans s34
            have hN := hN4.older (s2.trans s3)
            have lM : (M.map fun l => l.map fun x => x * 2 ^ sh).length = n := by rw [List.length_map, hM1]
            obtain ⟨a, l, ea, el, na, naD, ha⟩ := hN.get (i := b) (by rw [lM]; exact hb)
            rw [List.getElem?_map] at el
            obtain ⟨l0, el0, rfl⟩ := Option.map_eq_some_iff.mp el
            have ll : l0.length = n := hM2 _ (List.mem_of_getElem? el0)
            have eM : numS n (.lift b ws sh) M = (M.map fun l => l.map fun x => x * 2 ^ sh).set b (List.zipWith (fun a b => a + b) (l0.map fun x => x * 2 ^ sh) ((List.range n).map fun k => dotP ws (colM M k))) := by
              show (M.map fun l => l.map fun x => x * 2 ^ sh).set b (List.zipWith (fun a b => a + b) ((M.getD b []).map fun x => x * 2 ^ sh) _) = _
              rw [getD_of el0]
            rw [eM]
            have hD34 := s4 _ _ hD3
            walk_at "go"
            refine ⟨t, _, _, _, rfl, rfl, Same.tup s34 hT, rfl, ?_⟩
            refine ⟨D4, _, _, _, rfl, rfl, .inl (.inl hD4), ref_at ea, ?_⟩
            walk_at "go"
            refine ⟨a, D3, _, _, rfl, .inl (.inl ha), .inl (.inl hD34), fun D5 nD5 => ?_⟩
            generalize eu : (l0.map fun x => x * 2 ^ sh) = u
            generalize ew : ((List.range n).map fun k => dotP ws (colM M k)) = v at hD3 hD34
            have lu : u.length = n := by rw [← eu, List.length_map, ll]
            have lv : v.length = n := by rw [← ew, List.length_map, List.length_range]
            have hzl : (List.zipWith (fun a b => a + b) u v).length = n := by rw [List.length_zipWith, lu, lv, Nat.min_self]
            rw [eu] at ha
            refine lc_dW (walk_zl (K := K) (a := a) (b := D3) (xs := u.map V.int) (ys := v.map V.int) (by rw [List.length_map, List.length_map, lu, lv])) (S := []) Has.nil ((List.zipWith (fun a b => a + b) u v).map fun x => some (PyData.int x)) nD5 (by rw [List.length_map, hzl, List.length_map, lu]) (by rw [List.length_map, lu]; exact small1000 (by omega)) (fun H' s => ⟨s.seq (.inl (.inl ha)), s.seq (.inl (.inl hD34))⟩) ?_ ?_
            · rintro j o H0 x H'' hj ho s0 hH ⟨T1, x1, y1, rfl, nT, rfl, e1, e2⟩ Qt qt
              have st := same_upd (o := .tup [x1, y1]) nT
              obtain ⟨n1, en1, rfl⟩ := int_at e1
              obtain ⟨n2, en2, rfl⟩ := int_at e2
              have eo : o = some (PyData.int (n1 + n2)) := by
                rw [List.getElem?_map, List.getElem?_zipWith, en1, en2] at ho
                exact (Option.some.inj ho).symm
              subst eo
              refine ⟨T1, _, rfl, .inl (.inl upd_same), rfl, ?_⟩
              generalize upd H0 T1 (.tup [V.int n1, V.int n2]) = H8 at st
              refine ⟨_, _, rfl, _, _, rfl, rfl, ⟨rfl, ?_⟩⟩
              walk_at "go"
              exact qt _ _ st (.int _)
            · intro H7 s7 _ dD
              have el : ((List.zipWith (fun a b => a + b) u v).map fun x => some (PyData.int x)).filterMap id = (List.zipWith (fun a b => a + b) u v).map PyData.int := sel_map _ _
              rw [el, rs_nil] at dD
              obtain ⟨_, e, hD5⟩ := Dt.intsE (ns := List.zipWith (fun a b => a + b) u v) dD
              cases e
              have ht7 := s7 _ _ (s34 _ _ ht)
              walk_at "go"
              refine ⟨t, _, _, _, rfl, rfl, .inl (.inl ht7), rfl, ?_⟩
              refine ⟨D4, _, _, b, rfl, rfl, s7 _ _ hD4, ix_ok (by rw [List.length_map, hN.1, lM]; exact hb), ?_⟩
              have D5D : D5 ≠ D4 := (ne_of_none hD4 nD5).symm
              have nD4H : H D4 = none := (s2.trans s3).free nD4
              refine ⟨_, _, D4, cs.set b D5, rfl, same_over nD4H (s04.trans s7), nD4H, by rw [upd_same, List.map_set], ?_⟩
              exact (((hN.but fun c o _ e => s7 _ _ e).set b (s04.free nD5) D5D hD5)).upd
    · rintro σ H2 ⟨v3, v5, D', bs, rfl, s2, nD', hD', hB⟩
      rw [hvl, List.take_length] at hB
      exact ⟨_, rfl, q _ D' s2 (hB.rows hD')⟩
end
end My

namespace My
open PySem PySem.Spec PyProof.Rows L2 Pre
local macro_rules | `(tactic| walk_at "go") => `(tactic| repeat (first | (with_reducible first | refine iteT ?_ | refine iteF ?_ | refine iteNtt ?_ | refine iteNff ?_ | refine iteET (by omega) ?_ | refine iteEF (by omega) ?_ | refine iteENT (by omega) ?_ | refine iteENF (by omega) ?_ | refine iteDT (by omega) ?_ | refine iteDF (by omega) ?_ | refine iteNT (by omega) ?_ | refine iteNF (by omega) ?_) | refine ⟨_, rfl, ?_⟩ | refine ⟨_, _, rfl, rfl, ?_⟩ | refine ⟨_, _, rfl, ?_⟩ | refine ⟨rfl, ?_⟩ | refine .inl ⟨_, rfl, ?_⟩ | refine .inr ⟨_, rfl, ?_⟩))
local macro_rules | `(tactic| walk_at "b") => `(tactic| try dsimp (config := { proj := false, iota := false, eta := false, zeta := false }) only)
section
variable {P : Program} {w : World} {K : PySem.W.Frag} {mg : Str → Option Value} {base : Heap}
/-! ### common divisors and fractions, of whole numbers of either sign -/
def sp_common_divisor : Sp := fun vs H Q _ => ∃ a b : Int, vs = [.int a, .int b] ∧ Q (.int (Int.gcd a b : Nat)) H
theorem abs_int (a : Int) : (if a < 0 then -a else a) = (a.natAbs : Int) := by split <;> omega
theorem G_common_divisor (T : Top K mg) : FnOk P w K mg base CX0 1 T.f_common_divisor T.fd_common_divisor ["one", "other"] sp_common_divisor := by
  refine T.F_common_divisor.ok sc_common_divisor (fun vs H Q E h => by obtain ⟨a, b, rfl, _⟩ := h; rfl) (fun cdv A outer s H vs Q E hr h => ?_)
  obtain ⟨a, b, rfl, q⟩ := h
  refine ⟨_, PSs.nox (pss_cons (ps_par (by rfl) sc_common_divisor.nd (i := 0) (j := 1) rfl rfl (by decide) rfl rfl (pa_cons (pe_callB call_abs (by rfl) T.n_abs (by decide +kernel) (pa_cons (pv 0) pa_nil)) (pa_cons (pe_callB call_abs (by rfl) T.n_abs (by decide +kernel) (pa_cons (pv 1) pa_nil)) pa_nil)) (by rfl))
  (pss_cons (ps_while PassesOwn.never (pt_cmpR op_ne (pv 1) pe_int (nomark _))
    (pss_one (ps_par (by rfl) sc_common_divisor.nd (i := 0) (j := 1) rfl rfl (by decide) rfl rfl (pa_cons (pv 1) (pa_cons (pe_op op_mod (pv 0) (pv 1)) pa_nil)) (by rfl))))
  (pss_one (ps_ret (pv 0))))), ?_⟩
  refine ⟨_, rfl, _, rfl, _, rfl, _, rfl, _, _, rfl, ?_⟩
  rw [abs_int, abs_int]
  refine ⟨fun m σ H2 => ∃ x y : Nat, σ = [some (.int x), some (.int y)] ∧ y = m ∧ Nat.gcd x y = Int.gcd a b ∧ H2 = H, ⟨b.natAbs, a.natAbs, b.natAbs, rfl, rfl, rfl, rfl⟩, ?_⟩
  rintro m σ H2 ⟨x, y, rfl, rfl, hg, rfl⟩
  refine ⟨_, rfl, rfl, _, rfl, ?_⟩
  by_cases hy : y = 0
  · subst hy
    refine iteENF rfl ⟨_, rfl, ?_⟩
    rw [← hg, Nat.gcd_zero_right] at q
    exact q
  · refine iteENT (by omega) ?_
    refine ⟨fun σ' H' => ∃ x' y' : Nat, σ' = [some (.int x'), some (.int y')] ∧ y' < y ∧ Nat.gcd x' y' = Int.gcd a b ∧ H' = H2, fun σ' H' ⟨x', y', e1, e2, e3, e4⟩ => ⟨y', e2, x', y', e1, rfl, e3, e4⟩, ?_⟩
    refine ⟨_, rfl, _, rfl, _, rfl, _, _, rfl, rfl, (by show (0 : Int) < _; omega), _, _, rfl, y, x % y, ?_, Nat.mod_lt _ (by omega), ?_, rfl⟩
    · show [some (V.int (y : Int)), some (.int ((x : Int) % (y : Int)))] = _
      rw [Int.natCast_emod]
    · rw [← hg, Nat.gcd_comm y, ← Nat.gcd_rec, Nat.gcd_comm]
/-- a fraction in lowest terms -/
def lowF (t u : Int) : Int × Int := (t / (Int.gcd t u : Nat), u / (Int.gcd t u : Nat))
def sp_fraction : Sp := fun vs H Q _ => ∃ t u : Int, vs = [.int t, .int u] ∧ 0 < u ∧ u < 2 ^ 1000 ∧ ∀ H' p, Same H H' → H p = none → H' p = some (.tup ([(lowF t u).1, (lowF t u).2].map V.int)) → Q (.ref p) H'
theorem G_fraction (T : Top K mg) : FnOk P w K mg base CX0 2 T.f_fraction T.fd_fraction ["top", "under"] sp_fraction := by
  refine T.F_fraction.ok sc_fraction (fun vs H Q E h => by obtain ⟨t, u, rfl, _⟩ := h; rfl) (fun cdv A outer s H vs Q E hr h => ?_)
  obtain ⟨t, u, rfl, hu, hz, q⟩ := h
  refine ⟨_, PSs.nox (pss_cons (ps_set (i := 2) sc_fraction.nd rfl (by first | exact Or.inl rfl | exact Or.inr rfl) (pe_call (G_common_divisor T) (hr.mono (by decide)) (by rfl) T.g_common_divisor T.F_common_divisor.kp T.b_common_divisor .nil pass0 (pa_cons (pv 0) (pa_cons (pv 1) pa_nil))))
  (pss_cons (ps_if (pt_cmpR op_lt (pv 1) pe_int (nomark _))
    (pss_one (ps_set (i := 2) sc_fraction.nd rfl (by first | exact Or.inl rfl | exact Or.inr rfl) (pe_op op_sub pe_int (pv 2))))
    pss_nil)
  (pss_one (ps_ret (pe_tup (pa_cons (pe_op op_fdivW (pv 0) (pv 2)) (pa_cons (pe_op op_fdivW (pv 1) (pv 2)) pa_nil))))))), ?_⟩
  have h1 : 0 < Int.gcd t u := Int.gcd_pos_of_ne_zero_right _ (by omega)
  have h2 : (Int.gcd t u : Int) ≤ u := Int.le_of_dvd hu (Int.gcd_dvd_right ..)
  have hw : ∀ x, CDivW x ((Int.gcd t u : Nat) : Int) := fun x => wide_div (b := 1000) (by omega) (by rw [Int.natAbs_natCast]; omega) (by decide) (by decide)
  walk_at "go"
  refine ⟨hw _, ?_⟩
  walk_at "go"
  refine ⟨hw _, (show 2 ≤ sizeLine by decide), fun p np => ?_⟩
  exact q _ p (same_upd np) np upd_same
theorem lowF_ok {t u : Int} (hu : 0 < u) : ∃ g : Int, 0 < g ∧ t = g * (lowF t u).1 ∧ u = g * (lowF t u).2 ∧ 0 < (lowF t u).2 := by
  have h1 : 0 < Int.gcd t u := Int.gcd_pos_of_ne_zero_right _ (by omega)
  have e1 := Int.mul_ediv_cancel' (Int.gcd_dvd_left (a := t) (b := u))
  have e2 := Int.mul_ediv_cancel' (Int.gcd_dvd_right (a := t) (b := u))
  refine ⟨(Int.gcd t u : Nat), by omega, e1.symm, e2.symm, ?_⟩
  show 0 < u / (Int.gcd t u : Nat)
  by_cases h : 0 < u / (Int.gcd t u : Nat)
  · exact h
  · have h3 : ((Int.gcd t u : Nat) : Int) * (u / (Int.gcd t u : Nat)) ≤ 0 := Int.mul_nonpos_of_nonneg_of_nonpos (by omega) (by omega)
    omega
theorem lowF_scale (t u : Int) {s : Int} (hs : 0 < s) : lowF (t * s) (u * s) = lowF t u := by
  unfold lowF
  rw [Int.gcd_mul_right]
  have e : ((t.gcd u * s.natAbs : Nat) : Int) = (t.gcd u : Nat) * s := by rw [Int.natCast_mul]; congr 1; omega
  rw [e, Int.mul_ediv_mul_of_pos_left _ _ hs, Int.mul_ediv_mul_of_pos_left _ _ hs]
/-- alike just if the products are -/
theorem lowF_eq {t u t' u' : Int} (hu : 0 < u) (hu' : 0 < u') : lowF t u = lowF t' u' ↔ t * u' = t' * u := by
  constructor
  · intro h
    obtain ⟨g, _, e1, e2, _⟩ := lowF_ok (t := t) hu
    obtain ⟨g', _, e1', e2', _⟩ := lowF_ok (t := t') hu'
    rw [h] at e1 e2
    generalize (lowF t' u').1 = x at *
    generalize (lowF t' u').2 = y at *
    rw [e1, e2, e1', e2']
    rw [Int.mul_assoc, Int.mul_assoc, Int.mul_left_comm x g' y, Int.mul_left_comm g g' , Int.mul_left_comm x g y]
  · intro h
    rw [← lowF_scale t u hu', ← lowF_scale t' u' hu, h, Int.mul_comm u u']
end
end My

namespace My
/-! ### fractions in lowest terms: sums, products, signs, order -/
theorem lowF_add {t u t' u' : Int} (hu : 0 < u) (hu' : 0 < u') : lowF ((lowF t u).1 * (lowF t' u').2 + (lowF t' u').1 * (lowF t u).2) ((lowF t u).2 * (lowF t' u').2) = lowF (t * u' + t' * u) (u * u') := by
  obtain ⟨g, g0, e1, e2, e3⟩ := lowF_ok (t := t) hu
  obtain ⟨g', g0', e1', e2', e3'⟩ := lowF_ok (t := t') hu'
  generalize lowF t u = p at *
  generalize lowF t' u' = q at *
  have k : 0 < g * g' := Int.mul_pos g0 g0'
  rw [← lowF_scale _ _ k, e1, e2, e1', e2']
  congr 1
  · rw [Int.add_mul]
    congr 1
    · ac_rfl
    · ac_rfl
  · ac_rfl
theorem lowF_mul {t u t' u' : Int} (hu : 0 < u) (hu' : 0 < u') : lowF ((lowF t u).1 * (lowF t' u').1) ((lowF t u).2 * (lowF t' u').2) = lowF (t * t') (u * u') := by
  obtain ⟨g, g0, e1, e2, e3⟩ := lowF_ok (t := t) hu
  obtain ⟨g', g0', e1', e2', e3'⟩ := lowF_ok (t := t') hu'
  generalize lowF t u = p at *
  generalize lowF t' u' = q at *
  have k : 0 < g * g' := Int.mul_pos g0 g0'
  rw [← lowF_scale _ _ k, e1, e2, e1', e2']
  congr 1
  · ac_rfl
  · ac_rfl
theorem lowF_neg {t u : Int} (hu : 0 < u) : (0 - (lowF t u).1, (lowF t u).2) = lowF (0 - t) u := by
  have h1 : 0 < Int.gcd t u := Int.gcd_pos_of_ne_zero_right _ (by omega)
  unfold lowF
  rw [Int.zero_sub, Int.zero_sub, Int.neg_gcd, Int.neg_ediv_of_dvd (Int.gcd_dvd_left ..)]
theorem lowF_less {t u t' u' : Int} (hu : 0 < u) (hu' : 0 < u') : (lowF t u).1 * (lowF t' u').2 < (lowF t' u').1 * (lowF t u).2 ↔ t * u' < t' * u := by
  obtain ⟨g, g0, e1, e2, e3⟩ := lowF_ok (t := t) hu
  obtain ⟨g', g0', e1', e2', e3'⟩ := lowF_ok (t := t') hu'
  generalize lowF t u = p at *
  generalize lowF t' u' = q at *
  have k : 0 < g * g' := Int.mul_pos g0 g0'
  have a1 : t * u' = (g * g') * (p.1 * q.2) := by
    rw [e1, e2']
    ac_rfl
  have a2 : t' * u = (g * g') * (q.1 * p.2) := by
    rw [e1', e2]
    ac_rfl
  rw [a1, a2]
  exact (Int.mul_lt_mul_left k).symm
theorem lowF_pos {t u : Int} (hu : 0 < u) : 0 < (lowF t u).2 := (lowF_ok hu).choose_spec.2.2.2
theorem lowF_self {t u : Int} (hu : 0 < u) : lowF (lowF t u).1 (lowF t u).2 = lowF t u := by
  obtain ⟨g, g0, e1, e2, e3⟩ := lowF_ok (t := t) hu
  have := lowF_scale (lowF t u).1 (lowF t u).2 g0
  rw [Int.mul_comm _ g, Int.mul_comm _ g, ← e1, ← e2] at this
  exact this.symm
theorem lowF_one (t : Int) : lowF t 1 = (t, 1) := by
  unfold lowF
  rw [Int.gcd_one]
  simp
theorem lowF_bd {t u : Int} (hu : 0 < u) {a : Nat} (ht : t.natAbs < 2 ^ a) : (lowF t u).1.natAbs < 2 ^ a := by
  obtain ⟨g, g0, e1, e2, e3⟩ := lowF_ok (t := t) hu
  refine Nat.lt_of_le_of_lt ?_ ht
  conv => rhs; rw [e1]
  rw [Int.natAbs_mul]
  exact Nat.le_mul_of_pos_left _ (by omega)
theorem lowF_bd2 {t u : Int} (hu : 0 < u) {a : Nat} (h : u.natAbs < 2 ^ a) : (lowF t u).2.natAbs < 2 ^ a := by
  obtain ⟨g, g0, e1, e2, e3⟩ := lowF_ok (t := t) hu
  refine Nat.lt_of_le_of_lt ?_ h
  conv => rhs; rw [e2]
  rw [Int.natAbs_mul]
  exact Nat.le_mul_of_pos_left _ (by omega)
/-- sums with one denominator -/
theorem low_same {t t' u : Int} (hu : 0 < u) : lowF ((lowF t u).1 * (lowF t' u).2 + (lowF t' u).1 * (lowF t u).2) ((lowF t u).2 * (lowF t' u).2) = lowF (t + t') u := by
  rw [lowF_add hu hu, ← lowF_scale (t + t') u hu, Int.add_mul]
/-! ### matrices of fractions -/
def frL (b : Nat) (l : List Int) : List (Int × Int) := l.map fun x => lowF x (2 ^ b)
def frM (b : Nat) (M : List (List Int)) : List (List (Int × Int)) := M.map (frL b)
theorem frL_len (b : Nat) (l : List Int) : (frL b l).length = l.length := List.length_map ..
theorem frL_scale (b s : Nat) (l : List Int) : frL (b + s) (l.map fun x => x * 2 ^ s) = frL b l := by
  unfold frL
  rw [List.map_map]
  apply List.map_congr_left
  intro x _
  show lowF (x * 2 ^ s) (2 ^ (b + s)) = lowF x (2 ^ b)
  rw [Int.pow_add]
  exact lowF_scale x (2 ^ b) (Int.pow_pos (by decide))
theorem frM_scale (b s : Nat) (M : List (List Int)) : frM (b + s) (M.map fun l => l.map fun x => x * 2 ^ s) = frM b M := by
  unfold frM
  rw [List.map_map]
  apply List.map_congr_left
  intro l _
  exact frL_scale b s l
/-! #### how great what comes out is -/
end My

namespace My
open PySem PySem.Spec PyProof.Rows L2 Pre
/-- a list of pairs, its list new since H0 -/
def FrRow (H0 H : Hp) (a : Addr) (ps : List (Int × Int)) : Prop := H0 a = none ∧ ∃ ts : List Addr, H a = some (.lst (ts.map V.ref)) ∧ ts.length = ps.length ∧ ∀ (i : Nat) (t : Addr) (p : Int × Int), ts[i]? = some t → ps[i]? = some p → H t = some (.tup [.int p.1, .int p.2])
theorem FrRow.same {H0 H H' : Hp} {a : Addr} {ps : List (Int × Int)} (h : FrRow H0 H a ps) (s : Same H H') : FrRow H0 H' a ps := by
  obtain ⟨n, ts, h1, h2, h3⟩ := h
  exact ⟨n, ts, s _ _ h1, h2, fun i t p ht hp => s _ _ (h3 i t p ht hp)⟩
theorem FrRow.older {H0 H1 H : Hp} {a : Addr} {ps : List (Int × Int)} (h : FrRow H1 H a ps) (s : Same H0 H1) : FrRow H0 H a ps := ⟨s.free h.1, h.2⟩
theorem FrRow.off {H0 H H' : Hp} {a D : Addr} {ps : List (Int × Int)} (h : FrRow H0 H a ps) (hD : ∃ xs, H D = some (.lst xs)) (na : a ≠ D) (k : ∀ b o, b ≠ D → H b = some o → H' b = some o) : FrRow H0 H' a ps := by
  obtain ⟨n, ts, h1, h2, h3⟩ := h
  refine ⟨n, ts, k _ _ na h1, h2, fun i t p ht hp => k _ _ (fun z => ?_) (h3 i t p ht hp)⟩
  obtain ⟨xs, e⟩ := hD
  have := h3 i t p ht hp
  rw [z, e] at this
  cases this
theorem FrRow.at {H0 H : Hp} {a : Addr} {ps : List (Int × Int)} (h : FrRow H0 H a ps) {i : Nat} (hi : i < ps.length) : ∃ t xs, H a = some (.lst xs) ∧ atI xs (i : Int) = some (.ref t) ∧ H t = some (.tup [.int (ps.getD i (0, 1)).1, .int (ps.getD i (0, 1)).2]) := by
  obtain ⟨n, ts, h1, h2, h3⟩ := h
  have e1 : ts[i]? = some (ts[i]'(by omega)) := List.getElem?_eq_getElem (by omega)
  have e2 : ps[i]? = some ps[i] := List.getElem?_eq_getElem hi
  refine ⟨ts[i]'(by omega), _, h1, atI_nat (by rw [List.getElem?_map, e1]; rfl), ?_⟩
  rw [List.getD_eq_getElem?_getD, e2]
  exact h3 i _ _ e1 e2
def FrMat (H0 H : Hp) (D : Addr) (M : List (List (Int × Int))) : Prop := H0 D = none ∧ ∃ as : List Addr, H D = some (.lst (as.map V.ref)) ∧ as.length = M.length ∧ ∀ (i : Nat) (a : Addr) (r : List (Int × Int)), as[i]? = some a → M[i]? = some r → FrRow H0 H a r ∧ a ≠ D
theorem FrMat.same {H0 H H' : Hp} {D : Addr} {M : List (List (Int × Int))} (h : FrMat H0 H D M) (s : Same H H') : FrMat H0 H' D M := by
  obtain ⟨n, as, h1, h2, h3⟩ := h
  exact ⟨n, as, s _ _ h1, h2, fun i a r ha hr => ⟨(h3 i a r ha hr).1.same s, (h3 i a r ha hr).2⟩⟩
theorem FrMat.older {H0 H1 H : Hp} {D : Addr} {M : List (List (Int × Int))} (h : FrMat H1 H D M) (s : Same H0 H1) : FrMat H0 H D M := by
  obtain ⟨n, as, h1, h2, h3⟩ := h
  exact ⟨s.free n, as, h1, h2, fun i a r ha hr => ⟨(h3 i a r ha hr).1.older s, (h3 i a r ha hr).2⟩⟩
theorem FrMat.at {H0 H : Hp} {D : Addr} {M : List (List (Int × Int))} (h : FrMat H0 H D M) {i : Nat} (hi : i < M.length) : ∃ a xs, H D = some (.lst xs) ∧ atI xs (i : Int) = some (.ref a) ∧ FrRow H0 H a (M.getD i []) ∧ a ≠ D := by
  obtain ⟨n, as, h1, h2, h3⟩ := h
  have e1 : as[i]? = some (as[i]'(by omega)) := List.getElem?_eq_getElem (by omega)
  have e2 : M[i]? = some M[i] := List.getElem?_eq_getElem hi
  refine ⟨as[i]'(by omega), _, h1, atI_nat (by rw [List.getElem?_map, e1]; rfl), ?_⟩
  rw [List.getD_eq_getElem?_getD, e2]
  exact h3 i _ _ e1 e2
/-- one row put in the place of another one -/
theorem FrMat.set {H0 H : Hp} {D a : Addr} {M : List (List (Int × Int))} {as : List Addr} {r : List (Int × Int)} (nD : H0 D = none) (h1 : H D = some (.lst (as.map V.ref))) (h2 : as.length = M.length) (h3 : ∀ (i : Nat) (a : Addr) (r : List (Int × Int)), as[i]? = some a → M[i]? = some r → FrRow H0 H a r ∧ a ≠ D) (i : Nat) (hr : FrRow H0 H a r) (na : a ≠ D) : FrMat H0 (upd H D (.lst ((as.set i a).map V.ref))) D (M.set i r) := by
  have k : ∀ b o, b ≠ D → H b = some o → upd H D (.lst ((as.set i a).map V.ref)) b = some o := fun b o nb h => by rw [upd_ne nb]; exact h
  refine ⟨nD, as.set i a, upd_same, by rw [List.length_set, List.length_set, h2], fun j c q hc hq => ?_⟩
  rw [List.getElem?_set] at hc hq
  by_cases e : i = j
  · subst e
    by_cases hi : i < as.length
    · rw [if_pos rfl, if_pos hi] at hc
      rw [if_pos rfl, if_pos (by omega)] at hq
      cases hc
      cases hq
      exact ⟨hr.off ⟨_, h1⟩ na k, na⟩
    · rw [if_pos rfl, if_neg hi] at hc
      cases hc
  · rw [if_neg e] at hc hq
    obtain ⟨a1, a2⟩ := h3 j c q hc hq
    exact ⟨a1.off ⟨_, h1⟩ a2 k, a2⟩
/-- as data -/
def matD (M : List (List (Int × Int))) : PyData := .list (M.map fun r => .list (r.map pairD))
theorem FrRow.dt {H0 H : Hp} {a : Addr} {ps : List (Int × Int)} (h : FrRow H0 H a ps) : Dt H (.ref a) (.list (ps.map pairD)) := by
  obtain ⟨n, ts, h1, h2, h3⟩ := h
  refine .lst h1 ?_
  clear h1
  induction ts generalizing ps with
  | nil =>
    cases ps with
    | nil => exact .nil
    | cons p ps => simp at h2
  | cons t ts ih =>
    cases ps with
    | nil => simp at h2
    | cons p ps =>
      refine .cons (.tup (h3 0 t p rfl rfl) (.cons (.int _) (.cons (.int _) .nil))) (ih (by simpa using h2) fun i u q hu hq => h3 (i + 1) u q (by simpa using hu) (by simpa using hq))
theorem FrMat.dt {H0 H : Hp} {D : Addr} {M : List (List (Int × Int))} (h : FrMat H0 H D M) : Dt H (.ref D) (matD M) := by
  obtain ⟨n, as, h1, h2, h3⟩ := h
  refine .lst h1 ?_
  clear h1
  induction as generalizing M with
  | nil =>
    cases M with
    | nil => exact .nil
    | cons r M => simp at h2
  | cons a as ih =>
    cases M with
    | nil => simp at h2
    | cons r M =>
      refine .cons (h3 0 a r rfl rfl).1.dt (ih (by simpa using h2) fun i u q hu hq => h3 (i + 1) u q (by simpa using hu) (by simpa using hq))
theorem pairs_shapedL (ps : List (Int × Int)) : PyData.canLayAll0 (ps.map pairD) = true ∧ PyData.depthAll (ps.map pairD) ≤ 1 := by
  induction ps with
  | nil => exact ⟨rfl, by simp [PyData.depthAll]⟩
  | cons p ps ih =>
    refine ⟨?_, ?_⟩
    · show (PyData.canLay0 (pairD p) && PyData.canLayAll0 (ps.map pairD)) = true
      rw [ih.1]
      rfl
    · show PyData.depthAll (pairD p :: ps.map pairD) ≤ 1
      rw [PyData.depthAll]
      have : PyData.depth (pairD p) ≤ 1 := by
        show PyData.depth (.tuple [.int p.1, .int p.2]) ≤ 1
        rw [PyData.depth, show ([PyData.int p.1, PyData.int p.2] : List PyData) = [p.1, p.2].map PyData.int from rfl, depth_ints]
        omega
      have := ih.2
      omega
theorem mat_shaped (M : List (List (Int × Int))) : SeqAt.shaped (matD M) = true := by
  have h : ∀ l : List (List (Int × Int)), PyData.canLayAll0 (l.map fun r => PyData.list (r.map pairD)) = true ∧ PyData.depthAll (l.map fun r => PyData.list (r.map pairD)) ≤ 2 := fun l => by
    induction l with
    | nil => exact ⟨rfl, by simp [PyData.depthAll]⟩
    | cons r l ih =>
      obtain ⟨a, b⟩ := pairs_shapedL r
      refine ⟨?_, ?_⟩
      · show (PyData.canLay0 (.list (r.map pairD)) && PyData.canLayAll0 (l.map fun r => PyData.list (r.map pairD))) = true
        rw [ih.1, PyData.canLay0, a]
        rfl
      · show PyData.depthAll (.list (r.map pairD) :: l.map fun r => PyData.list (r.map pairD)) ≤ 2
        rw [PyData.depthAll, PyData.depth]
        have := ih.2
        omega
  show (PyData.canLay0 (matD M) && decide (PyData.depth (matD M) ≤ 64)) = true
  obtain ⟨a, b⟩ := h M
  rw [Bool.and_eq_true]
  exact ⟨by unfold matD; rw [PyData.canLay0]; exact a, decide_eq_true (by unfold matD; rw [PyData.depth]; omega)⟩
/-- part of a scalar product -/
theorem dot_take : ∀ (ws xs : List Int) (i : Nat), i < ws.length → dotP (ws.take (i + 1)) xs = dotP (ws.take i) xs + ws.getD i 0 * xs.getD i 0
  | [], _, _, h => by simp at h
  | w :: ws, [], i, _ => by cases i <;> simp [dotP]
  | w :: ws, x :: xs, 0, _ => by
    show w * x + dotP [] xs = 0 + w * x
    rw [show dotP [] xs = 0 from by cases xs <;> rfl]
    omega
  | w :: ws, x :: xs, i + 1, h => by
    show w * x + dotP (ws.take (i + 1)) xs = w * x + dotP (ws.take i) xs + _
    rw [dot_take ws xs i (by simpa using h)]
    show _ = _ + ws.getD i 0 * xs.getD i 0
    omega
end My

namespace My
open PySem PySem.Spec PyProof.Rows L2 Pre
def PrAt (D : Addr) (ps : List (Int × Int)) (i : Nat) (y : V) (H : Hp) : Prop := ∃ t p, ps[i]? = some p ∧ y = .ref t ∧ t ≠ D ∧ H t = some (.tup [.int p.1, .int p.2])
theorem PrAt.mono {D : Addr} {ps : List (Int × Int)} (i : Nat) (y : V) (H H' : Hp) (o : Pre.Off D H H') (h : PrAt D ps i y H) : PrAt D ps i y H' := by
  obtain ⟨t, p, h1, h2, h3, h4⟩ := h
  exact ⟨t, p, h1, h2, h3, o _ _ h3 h4⟩
theorem PrAt.row {H0 H : Hp} {D : Addr} {ps : List (Int × Int)} {ys : List V} (nD : H0 D = none) (hD : H D = some (.lst ys)) (hl : ys.length = ps.length) (h : ∀ (i : Nat) (y : V), ys[i]? = some y → PrAt D ps i y H) : FrRow H0 H D ps := by
  have each : ∀ v ∈ ys, ∃ t, v = .ref t := fun v hv => by
    obtain ⟨i, hi, rfl⟩ := List.mem_iff_getElem.mp hv
    obtain ⟨t, p, _, e, _⟩ := h i _ (List.getElem?_eq_getElem hi)
    exact ⟨t, e⟩
  refine ⟨nD, ys.map fun v => match v with | .ref a => a | _ => 0, ?_, by rw [List.length_map, hl], fun i t p ht hp => ?_⟩
  · rw [hD, List.map_map]
    congr 2
    conv => lhs; rw [← List.map_id ys]
    apply List.map_congr_left
    intro v hv
    obtain ⟨t, rfl⟩ := each v hv
    rfl
  · rw [List.getElem?_map] at ht
    obtain ⟨v, hv, rfl⟩ := Option.map_eq_some_iff.mp ht
    obtain ⟨t', p', e1, rfl, _, e2⟩ := h i v hv
    rw [hp] at e1
    cases e1
    exact e2
def RwAt (H0 : Hp) (D : Addr) (M : List (List (Int × Int))) (i : Nat) (y : V) (H : Hp) : Prop := ∃ (a : Addr) (r : List (Int × Int)) (ts : List Addr), M[i]? = some r ∧ y = .ref a ∧ a ≠ D ∧ H0 a = none ∧ H a = some (.lst (ts.map V.ref)) ∧ ts.length = r.length ∧ ∀ (j : Nat) (t : Addr) (p : Int × Int), ts[j]? = some t → r[j]? = some p → t ≠ D ∧ H t = some (.tup [.int p.1, .int p.2])
theorem RwAt.mono {H0 : Hp} {D : Addr} {M : List (List (Int × Int))} (i : Nat) (y : V) (H H' : Hp) (o : Pre.Off D H H') (h : RwAt H0 D M i y H) : RwAt H0 D M i y H' := by
  obtain ⟨a, r, ts, h1, h2, h3, h4, h5, h6, h7⟩ := h
  exact ⟨a, r, ts, h1, h2, h3, h4, o _ _ h3 h5, h6, fun j t p ht hp => ⟨(h7 j t p ht hp).1, o _ _ (h7 j t p ht hp).1 (h7 j t p ht hp).2⟩⟩
theorem FrRow.rw {H0 H : Hp} {D a : Addr} {M : List (List (Int × Int))} {i : Nat} {r : List (Int × Int)} (h : FrRow H0 H a r) (hr : M[i]? = some r) (na : a ≠ D) (hD : ∃ zs, H D = some (.lst zs)) : RwAt H0 D M i (.ref a) H := by
  obtain ⟨n, ts, h1, h2, h3⟩ := h
  refine ⟨a, r, ts, hr, rfl, na, n, h1, h2, fun j t p ht hp => ⟨fun z => ?_, h3 j t p ht hp⟩⟩
  obtain ⟨zs, e⟩ := hD
  have := h3 j t p ht hp
  rw [z, e] at this
  cases this
theorem RwAt.mat {H0 H : Hp} {D : Addr} {M : List (List (Int × Int))} {ys : List V} (nD : H0 D = none) (hD : H D = some (.lst ys)) (hl : ys.length = M.length) (h : ∀ (i : Nat) (y : V), ys[i]? = some y → RwAt H0 D M i y H) : FrMat H0 H D M := by
  have each : ∀ v ∈ ys, ∃ t, v = .ref t := fun v hv => by
    obtain ⟨i, hi, rfl⟩ := List.mem_iff_getElem.mp hv
    obtain ⟨a, r, ts, _, e, _⟩ := h i _ (List.getElem?_eq_getElem hi)
    exact ⟨a, e⟩
  refine ⟨nD, ys.map fun v => match v with | .ref a => a | _ => 0, ?_, by rw [List.length_map, hl], fun i a r ha hr => ?_⟩
  · rw [hD, List.map_map]
    congr 2
    conv => lhs; rw [← List.map_id ys]
    apply List.map_congr_left
    intro v hv
    obtain ⟨t, rfl⟩ := each v hv
    rfl
  · rw [List.getElem?_map] at ha
    obtain ⟨v, hv, rfl⟩ := Option.map_eq_some_iff.mp ha
    obtain ⟨a', r', ts, e1, rfl, e2, e3, e4, e5, e6⟩ := h i v hv
    rw [hr] at e1
    cases e1
    exact ⟨⟨e3, ts, e4, e5, fun j t p ht hp => (e6 j t p ht hp).2⟩, e2⟩
/-- comprehensions that make pairs -/
theorem lc_pairsL {K : PySem.W.Frag} {a : Addr} {xs : List V} {j : Nat} {te : TE} {vs : List Nat} {σ : L2.St} {H1 : Hp} {D : Addr} {Qd : Hp → Prop} (ps : List (Int × Int)) (nD : H1 D = none) (hS : SqL K H1 a xs) (hlen : ps.length = xs.length) (hz : xs.length < sizeLine)
    (hw : ∀ x, wipe ((wipe σ vs).set j (some x)) vs = wipe σ vs)
    (hs : ∀ (i : Nat) (x : V) (p : Int × Int) (H' : Hp), xs[i]? = some x → ps[i]? = some p → Same H1 H' → ∀ Qt : V → Hp → Prop, (∀ t H'', Same H' H'' → H'' t = some (.tup [.int p.1, .int p.2]) → Qt (.ref t) H'') → te ((wipe σ vs).set j (some x)) H' Qt)
    (hd : ∀ H', Same H1 H' → FrRow H1 H' D ps → Qd H') :
    ∃ W : Nat → Nat → Hp → Prop, (∃ m, W 0 m (upd H1 D (.lst []))) ∧ ∀ i m H, W i m H →
      ((Itl K a).stop i H ∧ Qd H) ∨ ((Itl K a).go i H ∧ ∃ Nx : Hp → Prop, (∀ H', Nx H' → ∃ m', m' < m ∧ W (i + 1) m' H') ∧ ∀ x H', (Itl K a).yld i H x H' → gName j x (wipe σ vs) H' fun σ2 H2 => wipe σ2 vs = wipe σ vs ∧ tYes σ2 H2 fun b H3 =>
        if b = true then te σ2 H3 fun y H4 => ∃ acc, H4 D = some (.lst acc) ∧ acc.length < sizeLine ∧ Nx (upd H4 D (.lst (acc ++ [y]))) else Nx H3) := by
  refine lc_relL (K := K) (a := a) (xs := xs) (PrAt D ps) nD hS hz PrAt.mono hw ?_ ?_
  · intro i x H' zs hx s hD Qt qt
    have hi := (List.getElem?_eq_some_iff.mp hx).1
    have hp : ps[i]? = some (ps[i]'(by omega)) := List.getElem?_eq_getElem (by omega)
    refine hs i x _ H' hx hp s Qt fun t H'' s'' ht => qt _ H'' s'' ⟨t, _, hp, rfl, fun z => ?_, ht⟩
    rw [z, s'' _ _ hD] at ht
    cases ht
  · intro H' ys s hD hl hR
    exact hd H' s (PrAt.row nD hD (by rw [hl, hlen]) hR)
theorem lc_pairsR {lo : Int} {n : Nat} {j : Nat} {te : TE} {vs : List Nat} {σ : L2.St} {H1 : Hp} {D : Addr} {Qd : Hp → Prop} (ps : List (Int × Int)) (nD : H1 D = none) (hlen : ps.length = n) (hz : n < sizeLine)
    (hw : ∀ x, wipe ((wipe σ vs).set j (some x)) vs = wipe σ vs)
    (hs : ∀ (i : Nat) (p : Int × Int) (H' : Hp), i < n → ps[i]? = some p → Same H1 H' → ∀ Qt : V → Hp → Prop, (∀ t H'', Same H' H'' → H'' t = some (.tup [.int p.1, .int p.2]) → Qt (.ref t) H'') → te ((wipe σ vs).set j (some (.int (lo + (i : Int))))) H' Qt)
    (hd : ∀ H', Same H1 H' → FrRow H1 H' D ps → Qd H') :
    ∃ W : Nat → Nat → Hp → Prop, (∃ m, W 0 m (upd H1 D (.lst []))) ∧ ∀ i m H, W i m H →
      ((Itr lo n).stop i H ∧ Qd H) ∨ ((Itr lo n).go i H ∧ ∃ Nx : Hp → Prop, (∀ H', Nx H' → ∃ m', m' < m ∧ W (i + 1) m' H') ∧ ∀ x H', (Itr lo n).yld i H x H' → gName j x (wipe σ vs) H' fun σ2 H2 => wipe σ2 vs = wipe σ vs ∧ tYes σ2 H2 fun b H3 =>
        if b = true then te σ2 H3 fun y H4 => ∃ acc, H4 D = some (.lst acc) ∧ acc.length < sizeLine ∧ Nx (upd H4 D (.lst (acc ++ [y]))) else Nx H3) := by
  refine lc_relR (lo := lo) (n := n) (PrAt D ps) nD hz PrAt.mono hw ?_ ?_
  · intro i H' zs hi s hD Qt qt
    have hp : ps[i]? = some (ps[i]'(by omega)) := List.getElem?_eq_getElem (by omega)
    refine hs i _ H' hi hp s Qt fun t H'' s'' ht => qt _ H'' s'' ⟨t, _, hp, rfl, fun z => ?_, ht⟩
    rw [z, s'' _ _ hD] at ht
    cases ht
  · intro H' ys s hD hl hR
    exact hd H' s (PrAt.row nD hD (by rw [hl, hlen]) hR)
/-- comprehensions that make rows of pairs -/
theorem lc_matL {K : PySem.W.Frag} {a : Addr} {xs : List V} {j : Nat} {te : TE} {vs : List Nat} {σ : L2.St} {H1 : Hp} {D : Addr} {Qd : Hp → Prop} (M : List (List (Int × Int))) (nD : H1 D = none) (hS : SqL K H1 a xs) (hlen : M.length = xs.length) (hz : xs.length < sizeLine)
    (hw : ∀ x, wipe ((wipe σ vs).set j (some x)) vs = wipe σ vs)
    (hs : ∀ (i : Nat) (x : V) (r : List (Int × Int)) (H' : Hp), xs[i]? = some x → M[i]? = some r → Same H1 H' → ∀ Qt : V → Hp → Prop, (∀ b H'', Same H' H'' → FrRow H' H'' b r → Qt (.ref b) H'') → te ((wipe σ vs).set j (some x)) H' Qt)
    (hd : ∀ H', Same H1 H' → FrMat H1 H' D M → Qd H') :
    ∃ W : Nat → Nat → Hp → Prop, (∃ m, W 0 m (upd H1 D (.lst []))) ∧ ∀ i m H, W i m H →
      ((Itl K a).stop i H ∧ Qd H) ∨ ((Itl K a).go i H ∧ ∃ Nx : Hp → Prop, (∀ H', Nx H' → ∃ m', m' < m ∧ W (i + 1) m' H') ∧ ∀ x H', (Itl K a).yld i H x H' → gName j x (wipe σ vs) H' fun σ2 H2 => wipe σ2 vs = wipe σ vs ∧ tYes σ2 H2 fun b H3 =>
        if b = true then te σ2 H3 fun y H4 => ∃ acc, H4 D = some (.lst acc) ∧ acc.length < sizeLine ∧ Nx (upd H4 D (.lst (acc ++ [y]))) else Nx H3) := by
  refine lc_relL (K := K) (a := a) (xs := xs) (RwAt H1 D M) nD hS hz RwAt.mono hw ?_ ?_
  · intro i x H' zs hx s hD Qt qt
    have hi := (List.getElem?_eq_some_iff.mp hx).1
    have hp : M[i]? = some (M[i]'(by omega)) := List.getElem?_eq_getElem (by omega)
    refine hs i x _ H' hx hp s Qt fun b H'' s'' hr => qt _ H'' s'' ((hr.older s).rw hp (fun z => ?_) ⟨zs, s'' _ _ hD⟩)
    have := hr.1
    rw [z, hD] at this
    cases this
  · intro H' ys s hD hl hR
    exact hd H' s (RwAt.mat nD hD (by rw [hl, hlen]) hR)
theorem lc_matR {lo : Int} {n : Nat} {j : Nat} {te : TE} {vs : List Nat} {σ : L2.St} {H1 : Hp} {D : Addr} {Qd : Hp → Prop} (M : List (List (Int × Int))) (nD : H1 D = none) (hlen : M.length = n) (hz : n < sizeLine)
    (hw : ∀ x, wipe ((wipe σ vs).set j (some x)) vs = wipe σ vs)
    (hs : ∀ (i : Nat) (r : List (Int × Int)) (H' : Hp), i < n → M[i]? = some r → Same H1 H' → ∀ Qt : V → Hp → Prop, (∀ b H'', Same H' H'' → FrRow H' H'' b r → Qt (.ref b) H'') → te ((wipe σ vs).set j (some (.int (lo + (i : Int))))) H' Qt)
    (hd : ∀ H', Same H1 H' → FrMat H1 H' D M → Qd H') :
    ∃ W : Nat → Nat → Hp → Prop, (∃ m, W 0 m (upd H1 D (.lst []))) ∧ ∀ i m H, W i m H →
      ((Itr lo n).stop i H ∧ Qd H) ∨ ((Itr lo n).go i H ∧ ∃ Nx : Hp → Prop, (∀ H', Nx H' → ∃ m', m' < m ∧ W (i + 1) m' H') ∧ ∀ x H', (Itr lo n).yld i H x H' → gName j x (wipe σ vs) H' fun σ2 H2 => wipe σ2 vs = wipe σ vs ∧ tYes σ2 H2 fun b H3 =>
        if b = true then te σ2 H3 fun y H4 => ∃ acc, H4 D = some (.lst acc) ∧ acc.length < sizeLine ∧ Nx (upd H4 D (.lst (acc ++ [y]))) else Nx H3) := by
  refine lc_relR (lo := lo) (n := n) (RwAt H1 D M) nD hz RwAt.mono hw ?_ ?_
  · intro i H' zs hi s hD Qt qt
    have hp : M[i]? = some (M[i]'(by omega)) := List.getElem?_eq_getElem (by omega)
    refine hs i _ H' hi hp s Qt fun b H'' s'' hr => qt _ H'' s'' ((hr.older s).rw hp (fun z => ?_) ⟨zs, s'' _ _ hD⟩)
    have := hr.1
    rw [z, hD] at this
    cases this
  · intro H' ys s hD hl hR
    exact hd H' s (RwAt.mat nD hD (by rw [hl, hlen]) hR)
end My

namespace My
open PySem PySem.Spec PyProof.Rows L2 Pre
theorem num_take {n : Nat} {ss : List Step} {i : Nat} {s : Step} (h : ss[i]? = some s) : numF n (ss.take (i + 1)) = numS n s (numF n (ss.take i)) := by
  unfold numF
  rw [take_snoc h, List.foldl_append]
  rfl
theorem bits_take {ss : List Step} {i : Nat} {s : Step} (h : ss[i]? = some s) : bitsS (ss.take (i + 1)) = bitsS (ss.take i) + shS s := by
  unfold bitsS
  rw [take_snoc h, List.map_append, List.sum_append]
  simp
theorem bits_take_le (ss : List Step) (i : Nat) : bitsS (ss.take i) ≤ bitsS ss := by
  have e : bitsS ss = bitsS (ss.take i) + bitsS (ss.drop i) := by
    unfold bitsS
    rw [← List.sum_append, ← List.map_append, List.take_append_drop]
  omega
theorem frM_len (b : Nat) (M : List (List Int)) : (frM b M).length = M.length := List.length_map ..
theorem frM_set (b : Nat) (M : List (List Int)) (i : Nat) (r : List Int) : frM b (M.set i r) = (frM b M).set i (frL b r) := by
  unfold frM
  rw [List.map_set]
theorem frM_getD (b : Nat) (M : List (List Int)) (i : Nat) : (frM b M).getD i [] = frL b (M.getD i []) := by
  unfold frM
  rw [List.getD_eq_getElem?_getD, List.getElem?_map, List.getD_eq_getElem?_getD]
  cases M[i]? <;> rfl
theorem frL_getD (b : Nat) (l : List Int) {i : Nat} (h : i < l.length) : (frL b l).getD i (0, 1) = lowF (l.getD i 0) (2 ^ b) := by
  unfold frL
  rw [List.getD_eq_getElem?_getD, List.getElem?_map, List.getD_eq_getElem?_getD, List.getElem?_eq_getElem h]
  rfl
theorem frL_at {b : Nat} {l : List Int} {i : Nat} {p : Int × Int} (h : (frL b l)[i]? = some p) : ∃ x, l[i]? = some x ∧ p = lowF x (2 ^ b) := by
  unfold frL at h
  rw [List.getElem?_map] at h
  obtain ⟨x, hx, e⟩ := Option.map_eq_some_iff.mp h
  exact ⟨x, hx, e.symm⟩
theorem p2_bd {b : Nat} (h : b < 400) : ((2 : Int) ^ b).natAbs < 2 ^ 400 := by
  rw [Int.natAbs_pow]
  exact Nat.pow_lt_pow_right (by decide) h
theorem p2_pos (b : Nat) : (0 : Int) < 2 ^ b := Int.pow_pos (by decide)
theorem shl_one (b : Nat) : (1 : Int) * 2 ^ ((b : Int)).toNat = ((2 ^ b : Nat) : Int) := by rw [Int.one_mul, Int.toNat_natCast, Int.natCast_pow]; rfl
local macro_rules | `(tactic| walk_at "go") => `(tactic| repeat (first | (with_reducible first | refine iteT ?_ | refine iteF ?_ | refine iteNtt ?_ | refine iteNff ?_ | refine iteET (by omega) ?_ | refine iteEF (by omega) ?_ | refine iteENT (by omega) ?_ | refine iteENF (by omega) ?_ | refine iteDT (by omega) ?_ | refine iteDF (by omega) ?_ | refine iteNT (by omega) ?_ | refine iteNF (by omega) ?_) | refine ⟨_, rfl, ?_⟩ | refine ⟨_, _, rfl, rfl, ?_⟩ | refine ⟨_, _, rfl, ?_⟩ | refine ⟨rfl, ?_⟩ | refine .inl ⟨_, rfl, ?_⟩ | refine .inr ⟨_, rfl, ?_⟩))
local macro_rules | `(tactic| walk_at "b") => `(tactic| try dsimp (config := { proj := false, iota := false, eta := false, zeta := false }) only)
section
variable {P : Program} {w : World} {K : PySem.W.Frag} {mg : Str → Option Value} {base : Heap}
def sp_matrix (C : Addr) (K : PySem.W.Frag) : Sp := fun vs H Q _ => ∃ (a r : Addr) (n : Nat) (ss : List Step), vs = [.ref a] ∧ MixAt C H a r n ss ∧ (∀ s ∈ ss, s.ok n) ∧ 1 ≤ n ∧ n ≤ 4 ∧ ss.length ≤ 24 ∧ bitsS ss ≤ 15 ∧ ∀ H' D, Same H H' → FrMat H H' D (frM (bitsS ss) (numF n ss)) → Q (.ref D) H'
theorem G_matrix (T : Top K mg) : FnOk P w K mg base CX0 3 T.f_matrix T.fd_matrix ["mixer"] (sp_matrix T.C_Mixer K) := by
  refine T.F_matrix.ok sc_matrix (fun vs H Q E h => by obtain ⟨a, r, n, ss, rfl, _⟩ := h; rfl) (fun cdv A outer s H vs Q E hr h => ?_)
  obtain ⟨a, r, n, ss, rfl, hM, hO, hn1, hn4, hl, hb, q⟩ := h
  refine ⟨_, PSs.nox (pss_cons (ps_expr (pe_call (G_check_mixer T) (hr.mono (by decide)) (by rfl) T.g_check_mixer T.F_check_mixer.kp T.b_check_mixer .nil pass0 (pa_cons (pv 0) pa_nil)))
  (pss_cons (ps_set (i := 1) sc_matrix.nd rfl (by first | exact Or.inl rfl | exact Or.inr rfl) (pe_op op_shl pe_int (pe_call (G_shifts_of T) (hr.mono (by decide)) (by rfl) T.g_shifts_of T.F_shifts_of.kp T.b_shifts_of .nil pass0 (pa_cons (pe_fld (pv 0) rfl) pa_nil))))
  (pss_one (ps_ret (pe_lc (own := [("line", 2)]) (g := gName 2) (tt := tYes) (by rfl) sc_matrix.nd (k_piL K rfl (pe_call (G_numbers_of T) (hr.mono (by decide)) (by rfl) T.g_numbers_of T.F_numbers_of.kp T.b_numbers_of .nil pass0 (pa_cons (pe_fld (pv 0) rfl) (pa_cons (pe_fld (pv 0) rfl) pa_nil)))) (blkOk_by (own := [("line", 2)]) (N := N_matrix) (sc := defScope s_matrix) (by decide +kernel)) (fun _ _ _ _ _ => (pg_name (i := 2) sc_matrix.nd rfl (by first | exact Or.inl rfl | exact Or.inr rfl))) (fun _ _ _ _ _ => pts_nil) (fun _ _ _ _ _ => (pe_lc (own := [("number", 3)]) (g := gName 3) (tt := tYes) (by rfl) sc_matrix.nd (k_piL K rfl (pv 2)) (blkOk_by (own := [("number", 3)]) (N := N_matrix) (by kernel_rfl)) (fun _ _ _ _ _ => (pg_name (i := 3) sc_matrix.nd rfl (by first | exact Or.inl rfl | exact Or.inr rfl))) (fun _ _ _ _ _ => pts_nil) (fun _ _ _ _ _ => (pe_call (G_fraction T) (hr.mono (by decide)) (by rfl) T.g_fraction T.F_fraction.kp T.b_fraction .nil pass0 (pa_cons (pv 3) (pa_cons (pv 1) pa_nil))))))))))), ?_⟩
  obtain ⟨dx, us, ha, hr0, hv⟩ := id hM
  walk_at "go"
  refine ⟨a, r, n, ss, rfl, hM, ?_⟩
  walk_at "go"
  refine ⟨a, T.C_Mixer, dx, _, _, rfl, ha, T.cl_Mixer, T.na_Mixer_rows, rfl, ?_⟩
  walk_at "go"
  refine ⟨r, us, ss, rfl, hr0, hv, by omega, fun H1 s1 => ?_⟩
  walk_at "go"
  refine ⟨⟨by omega, by omega, by decide⟩, ?_⟩
  walk_at "b"
  rw [shl_one, Int.natCast_pow]
  walk_at "go"
  refine ⟨a, T.C_Mixer, dx, _, _, rfl, s1 _ _ ha, T.cl_Mixer, T.na_Mixer_rows, rfl, ?_⟩
  walk_at "go"
  refine ⟨a, T.C_Mixer, dx, _, _, rfl, s1 _ _ ha, T.cl_Mixer, T.na_Mixer_many, rfl, ?_⟩
  walk_at "go"
  refine ⟨r, us, n, ss, rfl, s1 _ _ hr0, hv.imp fun v s => RowV.same s1, hO, hn1, hn4, by omega, fun H2 p2 s2 hR2 => ?_⟩
  have s02 := s1.trans s2
  obtain ⟨as2, hp2, hl2, hr2⟩ := hR2
  have sq := num_len (n := n) hO
  have hp0 : (0 : Int) < 2 ^ bitsS ss := p2_pos _
  have hp1 : (2 : Int) ^ bitsS ss < 2 ^ 1000 := by
    have : (2 : Int) ^ bitsS ss ≤ 2 ^ 15 := pow2_le hb
    have : (2 : Int) ^ 15 < 2 ^ 1000 := by decide +kernel
    omega
  walk_at "go"
  refine ⟨⟨_, .inl (.inl hp2)⟩, fun D nD => ?_⟩
  refine lc_matL (K := K) (xs := as2.map V.ref) (frM (bitsS ss) (numF n ss)) nD (.inl (.inl hp2)) (by rw [frM_len, List.length_map, hl2]) (by rw [List.length_map, hl2, sq.1]; exact small1000 (by omega)) (fun x => rfl) ?_ ?_
  · intro i x rr H' hx hr s' Qt qt
    rw [List.getElem?_map] at hx
    obtain ⟨c, ec, rfl⟩ := Option.map_eq_some_iff.mp hx
    have hq : i < (numF n ss).length := by rw [← hl2]; exact (List.getElem?_eq_some_iff.mp ec).1
    have el : (numF n ss)[i]? = some (numF n ss)[i] := List.getElem?_eq_getElem hq
    have hc := s' _ _ (hr2 i c _ ec el)
    have lm := List.mem_of_getElem? el
    generalize (numF n ss)[i] = l at el hc lm
    unfold frM at hr
    rw [List.getElem?_map, el] at hr
    cases hr
    have ll : l.length = n := sq.2 _ lm
    walk_at "go"
    refine ⟨⟨_, .inl (.inl hc)⟩, fun D2 nD2 => ?_⟩
    walk_at "b"
    refine lc_pairsL (K := K) (xs := l.map V.int) (frL (bitsS ss) l) nD2 (.inl (.inl hc)) (by rw [frL_len, List.length_map]) (by rw [List.length_map]; exact small1000 (by omega)) ?_ ?_ ?_
    · exact fun x => rfl
    · intro k y p H2 hy hp s2 Qt2 qt2
      obtain ⟨m, hm, rfl⟩ := int_at hy
      obtain ⟨x, hx, rfl⟩ := frL_at hp
      rw [hm] at hx
      cases hx
      walk_at "go"
      exact ⟨hp0, hp1, fun H3 t s3 nt ht => qt2 t H3 s3 ht⟩
    · intro H3 s3 hF
      exact qt D2 H3 s3 hF
  · intro H3 s3 hF
    exact q H3 D (s02.trans s3) (hF.older s02)
end
end My

namespace My
/-! ### how far a fraction is: by nearest whole numbers -/
/-- the distance to the next multiple -/
def dst (p : Int) (u : Nat) : Nat := min (p % u).toNat (u - (p % u).toNat)
def stp : Nat → Nat → Int → Nat
  | 0, _, _ => 0
  | f + 1, u, p => if u = 0 then 0 else 1 + stp f (dst p u) u
theorem dst_le {p : Int} {u : Nat} (h : 0 < u) : 2 * dst p u ≤ u := by
  unfold dst
  have h1 := Int.emod_nonneg p (show (u : Int) ≠ 0 by omega)
  have h2 := Int.emod_lt_of_pos p (show (0 : Int) < u by omega)
  omega
theorem stp_fuel : ∀ {f g u : Nat} {p : Int}, u < f → u < g → stp f u p = stp g u p
  | 0, _, u, _, h, _ => absurd h (Nat.not_lt_zero u)
  | _, 0, u, _, _, h => absurd h (Nat.not_lt_zero u)
  | f + 1, g + 1, u, p, h1, h2 => by
    show (if u = 0 then 0 else 1 + stp f (dst p u) u) = if u = 0 then 0 else 1 + stp g (dst p u) u
    by_cases c : u = 0
    · rw [if_pos c, if_pos c]
    · rw [if_neg c, if_neg c]
      have := dst_le (p := p) (show 0 < u by omega)
      rw [stp_fuel (f := f) (g := g) (by omega) (by omega)]
def lenL (u : Nat) (p : Int) : Nat := stp (u + 1) u p
theorem lenL_zero (p : Int) : lenL 0 p = 0 := rfl
theorem lenL_eq {u : Nat} (h : 0 < u) (p : Int) : lenL u p = 1 + lenL (dst p u) u := by
  unfold lenL
  show (if u = 0 then 0 else 1 + stp u (dst p u) u) = _
  rw [if_neg (by omega)]
  have := dst_le (p := p) h
  rw [stp_fuel (f := u) (g := dst p u + 1) (by omega) (by omega)]
theorem dst_add (p a : Int) (u : Nat) : dst (p + a * u) u = dst p u := by
  unfold dst
  rw [Int.add_mul_emod_self_right]
theorem dst_neg (p : Int) (u : Nat) : dst (-p) u = dst p u := by
  by_cases h : u = 0
  · subst h
    unfold dst
    simp
  · unfold dst
    have hu : (u : Int) ≠ 0 := by omega
    have h1 := Int.emod_nonneg p hu
    have h2 := Int.emod_lt_of_pos p (show (0 : Int) < u by omega)
    by_cases c : p % u = 0
    · have : (-p) % (u : Int) = 0 := Int.emod_eq_zero_of_dvd (Int.dvd_neg.mpr (Int.dvd_of_emod_eq_zero c))
      rw [c, this]
    · have : (-p) % (u : Int) = u - p % u := by
        have e : -p = (u - p % u) + (-(p / u) - 1) * u := by
          have := Int.emod_add_mul_ediv p u
          have e2 : (-(p / (u : Int)) - 1) * u = -((u : Int) * (p / u)) - u := by
            rw [Int.sub_mul, Int.neg_mul, Int.mul_comm, Int.one_mul]
          omega
        rw [e, Int.add_mul_emod_self_right]
        exact Int.emod_eq_of_lt (by omega) (by omega)
      rw [this]
      omega
theorem lenL_add (p a : Int) (u : Nat) : lenL u (p + a * u) = lenL u p := by
  by_cases h : u = 0
  · subst h; rfl
  · rw [lenL_eq (by omega) (p + a * u), lenL_eq (by omega) p, dst_add]
theorem lenL_neg (p : Int) (u : Nat) : lenL u (-p) = lenL u p := by
  by_cases h : u = 0
  · subst h; rfl
  · rw [lenL_eq (by omega) (-p), lenL_eq (by omega) p, dst_neg]
theorem lenL_abs (p : Int) (u : Nat) : lenL u (p.natAbs : Int) = lenL u p := by
  rcases Int.natAbs_eq p with h | h
  · rw [← h]
  · conv => rhs; rw [h]
    rw [lenL_neg]
/-- a natural number within the half -/
theorem dst_low {n u : Nat} (h : 2 * n ≤ u) (h0 : 0 < u) : dst (n : Int) u = n := by
  unfold dst
  rw [Int.emod_eq_of_lt (by omega) (by omega)]
  omega
theorem dst_high {n u : Nat} (h : u ≤ 2 * n) (h2 : n ≤ u) (h0 : 0 < u) : dst (n : Int) u = u - n := by
  by_cases c : n = u
  · subst c
    unfold dst
    rw [Int.emod_self]
    simp
  · unfold dst
    rw [Int.emod_eq_of_lt (by omega) (by omega)]
    omega
theorem near_less : ∀ u : Nat, ∀ r : Nat, 1 ≤ r → 2 * r ≤ u → lenL r u ≤ lenL (u - r) r := by
  intro u
  induction u using Nat.strongRecOn with
  | _ u ih =>
    intro r hr hu
    have hv : u = (u - r) + r := by omega
    generalize u - r = v at hv
    subst hv
    have hvr : r ≤ v := by omega
    rw [lenL_eq (show 0 < v by omega) r]
    have e1 : lenL r ((v + r : Nat) : Int) = lenL r v := by
      rw [show ((v + r : Nat) : Int) = (v : Int) + 1 * (r : Int) by omega, lenL_add]
    rw [e1]
    by_cases c : 2 * r ≤ v
    · rw [dst_low c (by omega)]
      omega
    · rw [dst_high (by omega) hvr (by omega)]
      obtain ⟨s, rfl⟩ : ∃ s, v = r + s := ⟨v - r, by omega⟩
      rw [show r + s - r = s by omega]
      have e2 : lenL r ((r + s : Nat) : Int) = lenL r s := by
        rw [show ((r + s : Nat) : Int) = (s : Int) + 1 * (r : Int) by omega, lenL_add]
      have e3 : lenL s ((r + s : Nat) : Int) = lenL s r := by
        rw [show ((r + s : Nat) : Int) = (r : Int) + 1 * (s : Int) by omega, lenL_add]
      rw [e2, e3, lenL_eq (show 0 < r by omega) s]
      by_cases d : 2 * s ≤ r
      · rw [dst_low d (by omega)]
        exact Nat.le_refl _
      · rw [dst_high (by omega) (by omega) (by omega)]
        have h := ih r (by omega) (r - s) (by omega) (by omega)
        rw [show r - (r - s) = s by omega] at h
        have e4 : lenL s ((r - s : Nat) : Int) = lenL s r := by
          rw [show (r : Int) = ((r - s : Nat) : Int) + 1 * (s : Int) by omega, lenL_add]
        rw [e4] at h
        omega
theorem least_rest {u : Nat} (hu : 0 < u) : ∀ n : Nat, lenL (dst (n : Int) u) u ≤ lenL n u := by
  intro n
  induction n using Nat.strongRecOn with
  | _ n ih =>
    by_cases c1 : 2 * n ≤ u
    · rw [dst_low c1 hu]
      exact Nat.le_refl _
    by_cases c2 : n ≤ u
    · rw [dst_high (by omega) c2 hu]
      by_cases c3 : n = u
      · subst c3
        rw [Nat.sub_self, lenL_zero]
        exact Nat.zero_le _
      have h := near_less u (u - n) (by omega) (by omega)
      rw [show u - (u - n) = n by omega] at h
      have e : lenL n ((u - n : Nat) : Int) = lenL n u := by
        rw [show (u : Int) = ((u - n : Nat) : Int) + 1 * (n : Int) by omega, lenL_add]
      omega
    · rw [lenL_eq (show 0 < n by omega) u]
      by_cases c3 : 2 * u ≤ n
      · rw [dst_low c3 (by omega), lenL_eq hu n]
        omega
      · rw [dst_high (n := u) (u := n) (by omega) (by omega) (by omega)]
        have h := ih (n - u) (by omega)
        have e1 : dst ((n - u : Nat) : Int) u = dst (n : Int) u := by
          rw [show (n : Int) = ((n - u : Nat) : Int) + 1 * (u : Int) by omega, dst_add]
        have e2 : lenL (n - u) ((n : Nat) : Int) = lenL (n - u) u := by
          rw [show (n : Int) = (u : Int) + 1 * ((n - u : Nat) : Int) by omega, lenL_add]
        rw [e1] at h
        omega
/-- one more -/
theorem lenL_swap (p q : Int) : lenL p.natAbs q ≤ 1 + lenL q.natAbs p := by
  by_cases h : p = 0
  · subst h; show 0 ≤ _; omega
  · have hp : 0 < p.natAbs := by omega
    have h1 := least_rest hp q.natAbs
    have e : dst (q.natAbs : Int) p.natAbs = dst q p.natAbs := by
      rcases Int.natAbs_eq q with z | z
      · rw [← z]
      · conv => rhs; rw [z]
        rw [dst_neg]
    rw [e] at h1
    have e2 : lenL q.natAbs (p.natAbs : Int) = lenL q.natAbs p := lenL_abs p _
    rw [lenL_eq hp q]
    omega
end My

namespace My
/-! ### chains of whole numbers, forth and back -/
/-- two columns -/
def cfm : List Int → (Int × Int) × (Int × Int)
  | [] => ((1, 0), (0, 1))
  | w :: ws => ((w * (cfm ws).1.1 + (cfm ws).1.2, (cfm ws).1.1), (w * (cfm ws).2.1 + (cfm ws).2.2, (cfm ws).2.1))
theorem cfm_le : ∀ ws : List Int, lenL (cfm ws).1.2.natAbs (cfm ws).1.1 ≤ ws.length
  | [] => Nat.le_refl 0
  | w :: ws => by
    have ih := cfm_le ws
    show lenL (cfm ws).1.1.natAbs (w * (cfm ws).1.1 + (cfm ws).1.2) ≤ ws.length + 1
    generalize (cfm ws).1.1 = p at *
    generalize (cfm ws).1.2 = q at *
    have h := lenL_swap p q
    have e : lenL p.natAbs (w * p + q) = lenL p.natAbs q := by
      rcases Int.natAbs_eq p with z | z
      · have : w * p + q = q + w * (p.natAbs : Int) := by rw [← z]; omega
        rw [this, lenL_add]
      · have : w * p + q = q + (-w) * (p.natAbs : Int) := by
          have : (p.natAbs : Int) = -p := by omega
          rw [this]; grind
        rw [this, lenL_add]
    omega
theorem cfm_det : ∀ ws : List Int, (cfm ws).1.1 * (cfm ws).2.2 - (cfm ws).2.1 * (cfm ws).1.2 = 1 ∨ (cfm ws).1.1 * (cfm ws).2.2 - (cfm ws).2.1 * (cfm ws).1.2 = -1
  | [] => .inl rfl
  | w :: ws => by
    have ih := cfm_det ws
    show (w * (cfm ws).1.1 + (cfm ws).1.2) * (cfm ws).2.1 - (w * (cfm ws).2.1 + (cfm ws).2.2) * (cfm ws).1.1 = 1 ∨ (w * (cfm ws).1.1 + (cfm ws).1.2) * (cfm ws).2.1 - (w * (cfm ws).2.1 + (cfm ws).2.2) * (cfm ws).1.1 = -1
    generalize (cfm ws).1.1 = p at *
    generalize (cfm ws).1.2 = q at *
    generalize (cfm ws).2.1 = p' at *
    generalize (cfm ws).2.2 = q' at *
    have e : (w * p + q) * p' - (w * p' + q') * p = -(p * q' - p' * q) := by grind
    rw [e]
    omega
theorem cfm_app (w : Int) : ∀ ws : List Int, cfm (ws ++ [w]) = ((w * (cfm ws).1.1 + (cfm ws).2.1, w * (cfm ws).1.2 + (cfm ws).2.2), ((cfm ws).1.1, (cfm ws).1.2))
  | [] => by
    show ((w * 1 + 0, (1 : Int)), (w * 0 + 1, (0 : Int))) = ((w * 1 + 0, w * 0 + 1), ((1 : Int), (0 : Int)))
    simp
  | v :: ws => by
    have ih := cfm_app w ws
    show ((v * (cfm (ws ++ [w])).1.1 + (cfm (ws ++ [w])).1.2, (cfm (ws ++ [w])).1.1), (v * (cfm (ws ++ [w])).2.1 + (cfm (ws ++ [w])).2.2, (cfm (ws ++ [w])).2.1)) = ((w * (v * (cfm ws).1.1 + (cfm ws).1.2) + (v * (cfm ws).2.1 + (cfm ws).2.2), w * (cfm ws).1.1 + (cfm ws).2.1), (v * (cfm ws).1.1 + (cfm ws).1.2, (cfm ws).1.1))
    rw [ih]
    generalize (cfm ws).1.1 = p at *
    generalize (cfm ws).1.2 = q at *
    generalize (cfm ws).2.1 = p' at *
    generalize (cfm ws).2.2 = q' at *
    have e : v * (w * p + p') + (w * q + q') = w * (v * p + q) + (v * p' + q') := by grind
    dsimp only
    rw [e]
theorem cfm_rev : ∀ ws : List Int, cfm ws.reverse = (((cfm ws).1.1, (cfm ws).2.1), ((cfm ws).1.2, (cfm ws).2.2))
  | [] => rfl
  | w :: ws => by
    rw [List.reverse_cons, cfm_app, cfm_rev ws]
    rfl
/-- a fraction has a chain as long as told -/
theorem cfm_best : ∀ (n : Nat) (p q : Int), q.natAbs = n → (∃ x y : Int, x * p + y * q = 1) → ∃ (ws : List Int) (e : Int), (e = 1 ∨ e = -1) ∧ (cfm ws).1 = (e * p, e * q) ∧ ws.length = lenL n p := by
  intro n
  induction n using Nat.strongRecOn with
  | _ n ih =>
    rintro p q hq ⟨x, y, hxy⟩
    by_cases h0 : n = 0
    · subst h0
      obtain rfl : q = 0 := by omega
      have hp : x * p = 1 := by rw [Int.mul_zero] at hxy; omega
      have : p = 1 ∨ p = -1 := by
        have := Int.natAbs_mul x p
        rw [hp] at this
        have h2 : p.natAbs = 1 := Nat.eq_one_of_mul_eq_one_left this.symm
        omega
      rcases this with rfl | rfl
      · exact ⟨[], 1, .inl rfl, rfl, rfl⟩
      · exact ⟨[], -1, .inr rfl, rfl, rfl⟩
    · have hn : 0 < n := by omega
      -- the nearest multiple
      obtain ⟨w, r, hr, hd⟩ : ∃ w r : Int, p = w * q + r ∧ r.natAbs = dst p n := by
        have m1 := Int.emod_nonneg p (show (n : Int) ≠ 0 by omega)
        have m2 := Int.emod_lt_of_pos p (show (0 : Int) < n by omega)
        have m3 := Int.emod_add_mul_ediv p n
        have near : ∃ v r : Int, p = v * n + r ∧ r.natAbs = dst p n := by
          unfold dst
          by_cases c : 2 * (p % n) ≤ n
          · exact ⟨p / n, p % n, by rw [Int.mul_comm]; omega, by omega⟩
          · exact ⟨p / n + 1, p % n - n, by rw [Int.add_mul, Int.one_mul, Int.mul_comm]; omega, by omega⟩
        obtain ⟨v, r, h1, h2⟩ := near
        rcases Int.natAbs_eq q with z | z
        · exact ⟨v, r, by rw [z, hq]; exact h1, h2⟩
        · exact ⟨-v, r, by rw [z, hq]; rw [h1]; grind, h2⟩
      have hlt : dst p n < n := by have := dst_le (p := p) hn; omega
      obtain ⟨ws, e, he, hc, hl⟩ := ih (dst p n) hlt q r hd ⟨x * w + y, x, by rw [hr] at hxy; grind⟩
      refine ⟨w :: ws, e, he, ?_, ?_⟩
      · show (w * (cfm ws).1.1 + (cfm ws).1.2, (cfm ws).1.1) = _
        rw [hc]
        dsimp only
        rw [hr]
        congr 1
        grind
      · rw [List.length_cons, hl, lenL_eq hn p]
        have : lenL (dst p n) q = lenL (dst p n) n := by rw [← hq, lenL_abs]
        omega
theorem inv_le {a b d : Int} {e : Int} (he : e = 1 ∨ e = -1) (h : ∃ c, a * d - b * c = e) : lenL b.natAbs d ≤ lenL b.natAbs a := by
  by_cases h0 : b = 0
  · subst h0; exact Nat.le_refl _
  obtain ⟨c, h⟩ := h
  have hu : 0 < b.natAbs := by omega
  generalize hub : b.natAbs = u at *
  rw [lenL_eq hu a, lenL_eq hu d]
  have ha : ∃ (f k : Int), (f = 1 ∨ f = -1) ∧ ((dst a u : Nat) : Int) = f * a + k * u := by
    have m1 := Int.emod_nonneg a (show (u : Int) ≠ 0 by omega)
    have m2 := Int.emod_lt_of_pos a (show (0 : Int) < u by omega)
    have m3 := Int.emod_add_mul_ediv a u
    unfold dst
    by_cases c : 2 * (a % u) ≤ u
    · refine ⟨1, -(a / u), .inl rfl, ?_⟩
      have e1 : -(a / (u : Int)) * u = -((u : Int) * (a / u)) := by rw [Int.neg_mul, Int.mul_comm]
      rw [e1]
      omega
    · refine ⟨-1, a / u + 1, .inr rfl, ?_⟩
      have e1 : (a / (u : Int) + 1) * u = (u : Int) * (a / u) + u := by rw [Int.add_mul, Int.one_mul, Int.mul_comm]
      rw [e1]
      omega
  obtain ⟨f, k, hf, hr⟩ := ha
  obtain ⟨b', hb, hbs⟩ : ∃ g : Int, b = g * u ∧ (g = 1 ∨ g = -1) := by
    rcases Int.natAbs_eq b with z | z
    · exact ⟨1, by rw [Int.one_mul]; omega, .inl rfl⟩
    · exact ⟨-1, by omega, .inr rfl⟩
  generalize dst a u = r at *
  obtain ⟨ws, e1, he1, hc1, hl⟩ := cfm_best r (u : Int) (r : Int) (by omega) ⟨-(f * e * k * d + e * b' * c), e * f * d, by
    rw [hr]
    have z : e * e = 1 := by rcases he with rfl | rfl <;> rfl
    have z2 : f * f = 1 := by rcases hf with rfl | rfl <;> rfl
    rw [hb] at h
    grind⟩
  have hdet := cfm_det ws
  have hle := cfm_le ws.reverse
  rw [cfm_rev, List.length_reverse] at hle
  dsimp only at hle
  have hc2 : (cfm ws).1.1 = e1 * u := by rw [hc1]
  have hc3 : (cfm ws).1.2 = e1 * r := by rw [hc1]
  rw [hc2, hc3] at hdet
  rw [hc2, hl] at hle
  generalize (cfm ws).2.1 = ps at *
  generalize (cfm ws).2.2 = qs at *
  have hps : ∃ s m : Int, (s = 1 ∨ s = -1) ∧ ps = s * d + m * u := by
    have : ∃ t : Int, (t = 1 ∨ t = -1) ∧ e1 * u * qs - ps * (e1 * r) = t := by
      rcases hdet with z | z
      · exact ⟨1, .inl rfl, z⟩
      · exact ⟨-1, .inr rfl, z⟩
    obtain ⟨t, ht, hz⟩ := this
    rw [hr] at hz
    rw [hb] at h
    have z1 : e * e = 1 := by rcases he with rfl | rfl <;> rfl
    have z2 : f * f = 1 := by rcases hf with rfl | rfl <;> rfl
    have z3 : e1 * e1 = 1 := by rcases he1 with rfl | rfl <;> rfl
    refine ⟨-(t * e1 * f * e), f * e * d * qs - f * e * k * d * ps - e * b' * c * ps, ?_, ?_⟩
    · rcases ht with rfl | rfl <;> rcases he1 with rfl | rfl <;> rcases hf with rfl | rfl <;> rcases he with rfl | rfl <;> decide
    · grind
  obtain ⟨s, m, hs, hps⟩ := hps
  have h1 := least_rest hu ps.natAbs
  have h2 : dst (ps.natAbs : Int) u = dst d u := by
    have h3 : dst (ps.natAbs : Int) u = dst ps u := by
      rcases Int.natAbs_eq ps with z | z
      · rw [← z]
      · conv => rhs; rw [z]
        rw [dst_neg]
    rw [h3, hps, dst_add]
    rcases hs with rfl | rfl
    · rw [Int.one_mul]
    · rw [show (-1 : Int) * d = -d by omega, dst_neg]
  rw [h2] at h1
  have h4 : lenL ps.natAbs (e1 * u) = lenL ps.natAbs u := by
    rcases he1 with rfl | rfl
    · rw [Int.one_mul]
    · rw [show (-1 : Int) * (u : Int) = -(u : Int) by omega, lenL_neg]
  rw [h4] at hle
  omega
theorem inv_eq {a b c d : Int} (h : a * d - b * c = 1 ∨ a * d - b * c = -1) : lenL b.natAbs d = lenL b.natAbs a := by
  have : ∃ e : Int, (e = 1 ∨ e = -1) ∧ a * d - b * c = e := by
    rcases h with z | z
    · exact ⟨1, .inl rfl, z⟩
    · exact ⟨-1, .inr rfl, z⟩
  obtain ⟨e, he, h⟩ := this
  exact Nat.le_antisymm (inv_le he ⟨c, h⟩) (inv_le he ⟨c, by rw [Int.mul_comm d a]; exact h⟩)
end My

namespace My
/-! ### ways: nearest multiples, neighbours -/
def nearZ (t u : Int) : Int := t / u + (if 2 * (t % u) > u then 1 else 0)
def plc (q : Int × Int) : Int × Int := if q.2 > 0 ∨ q.2 = 0 ∧ q.1 > 0 then q else (-q.1, -q.2)
def crs (x y : Int × Int) : Int := x.1 * y.2 - x.2 * y.1
def sgn (e : Int) : Prop := e = 1 ∨ e = -1
def wayR : Nat → Int × Int → Int × Int → Int → Int → List (Int × Int)
  | 0, _, _, _, _ => []
  | f + 1, l, a, t, u => if u = 0 then [] else (nearZ t u * l.1 + a.1, nearZ t u * l.2 + a.2) :: wayR f (nearZ t u * l.1 + a.1, nearZ t u * l.2 + a.2) l (plc (u, t - nearZ t u * u)).1 (plc (u, t - nearZ t u * u)).2
def wayTo (x : Int × Int) : List (Int × Int) := (1, 0) :: wayR (x.2.natAbs + 1) (1, 0) (0, 1) x.1 x.2
theorem near_rest {t u : Int} (h : 0 < u) : (t - nearZ t u * u).natAbs = dst t u.natAbs := by
  unfold nearZ dst
  have m1 := Int.emod_nonneg t (show u ≠ 0 by omega)
  have m2 := Int.emod_lt_of_pos t h
  have m3 := Int.emod_add_mul_ediv t u
  rw [show ((u.natAbs : Nat) : Int) = u by omega]
  by_cases c : 2 * (t % u) > u
  · rw [if_pos c, Int.add_mul, Int.one_mul, Int.mul_comm (t / u) u]
    omega
  · rw [if_neg c, Int.add_zero, Int.mul_comm (t / u) u]
    omega
theorem plc_sgn (q : Int × Int) : ∃ e, sgn e ∧ plc q = (e * q.1, e * q.2) := by
  unfold plc
  by_cases c : q.2 > 0 ∨ q.2 = 0 ∧ q.1 > 0
  · rw [if_pos c]
    exact ⟨1, .inl rfl, by rw [Int.one_mul, Int.one_mul]⟩
  · rw [if_neg c]
    exact ⟨-1, .inr rfl, by congr 1 <;> omega⟩
theorem plc_nn (q : Int × Int) : 0 ≤ (plc q).2 := by
  unfold plc
  by_cases c : q.2 > 0 ∨ q.2 = 0 ∧ q.1 > 0
  · rw [if_pos c]; omega
  · rw [if_neg c]; show 0 ≤ -q.2; omega
theorem plc_abs (q : Int × Int) : (plc q).2.natAbs = q.2.natAbs ∧ (plc q).1.natAbs = q.1.natAbs := by
  obtain ⟨e, he, h⟩ := plc_sgn q
  rw [h]
  rcases he with rfl | rfl <;> constructor <;> dsimp only <;> omega
theorem plc_len (q : Int × Int) : lenL (plc q).2.natAbs (plc q).1 = lenL q.2.natAbs q.1 := by
  rw [(plc_abs q).1]
  obtain ⟨e, he, h⟩ := plc_sgn q
  rw [h]
  rcases he with rfl | rfl
  · rw [Int.one_mul]
  · rw [show -1 * q.1 = -q.1 by omega, lenL_neg]
theorem plc_idem (q : Int × Int) : plc (plc q) = plc q := by
  unfold plc
  by_cases c : q.2 > 0 ∨ q.2 = 0 ∧ q.1 > 0
  · rw [if_pos c, if_pos c]
  · rw [if_neg c]
    by_cases d : (-q.1, -q.2).2 > 0 ∨ (-q.1, -q.2).2 = 0 ∧ (-q.1, -q.2).1 > 0
    · rw [if_pos d]
    · rw [if_neg d]
      dsimp only at d ⊢
      congr 1 <;> omega
theorem plc_neg (q : Int × Int) (h : q.1 ≠ 0 ∨ q.2 ≠ 0) : plc (-q.1, -q.2) = plc q := by
  unfold plc
  by_cases c : q.2 > 0 ∨ q.2 = 0 ∧ q.1 > 0
  · rw [if_pos c, if_neg (by dsimp only; omega)]
    dsimp only
    rw [Int.neg_neg, Int.neg_neg]
  · rw [if_neg c, if_pos (by dsimp only; omega)]
theorem wayR_len : ∀ (f : Nat) (l a : Int × Int) (t u : Int), 0 ≤ u → u.natAbs < f → (wayR f l a t u).length = lenL u.natAbs t
  | 0, l, a, t, u, _, h => absurd h (Nat.not_lt_zero _)
  | f + 1, l, a, t, u, hu, h => by
    show (if u = 0 then [] else _ :: _).length = _
    by_cases c : u = 0
    · subst c; rfl
    · rw [if_neg c, List.length_cons, lenL_eq (show 0 < u.natAbs by omega) t]
      have h1 := near_rest (t := t) (show 0 < u by omega)
      have h2 := plc_abs (u, t - nearZ t u * u)
      have h3 := dst_le (p := t) (show 0 < u.natAbs by omega)
      have h4 := plc_len (u, t - nearZ t u * u)
      dsimp only at h2 h4
      rw [wayR_len f _ _ _ _ (plc_nn _) (by omega), h4, h1, show lenL (dst t u.natAbs) u = lenL (dst t u.natAbs) (u.natAbs : Int) by rw [lenL_abs]]
      omega
theorem wayTo_len {x : Int × Int} (h : 0 ≤ x.2) : (wayTo x).length = 1 + lenL x.2.natAbs x.1 := by
  unfold wayTo
  rw [List.length_cons, wayR_len _ _ _ _ _ h (Nat.lt_succ_self _)]
  omega
/-- neighbours -/
def PathOk : Int × Int → List (Int × Int) → Prop
  | _, [] => True
  | p, q :: r => sgn (crs p q) ∧ PathOk q r
theorem wayR_path : ∀ (f : Nat) (l a : Int × Int) (t u : Int), sgn (crs l a) → PathOk l (wayR f l a t u)
  | 0, l, a, t, u, _ => trivial
  | f + 1, l, a, t, u, h => by
    show PathOk l (if u = 0 then [] else _ :: _)
    by_cases c : u = 0
    · rw [if_pos c]; trivial
    · rw [if_neg c]
      have e : crs l (nearZ t u * l.1 + a.1, nearZ t u * l.2 + a.2) = crs l a := by unfold crs; dsimp only; grind
      refine ⟨by rw [e]; exact h, wayR_path f _ l _ _ ?_⟩
      have e2 : crs (nearZ t u * l.1 + a.1, nearZ t u * l.2 + a.2) l = - crs l a := by unfold crs; dsimp only; grind
      rw [e2]
      rcases h with z | z
      · right; omega
      · left; omega
def lastQ (l : Int × Int) (r : List (Int × Int)) : Int × Int := r.getLastD l
theorem lastQ_cons (l q : Int × Int) (r : List (Int × Int)) : lastQ l (q :: r) = lastQ q r := by unfold lastQ; cases r <;> rfl
theorem wayR_last : ∀ (f : Nat) (l a : Int × Int) (t u : Int), 0 ≤ u → u.natAbs < f → (∃ x y : Int, x * t + y * u = 1) → ∃ e, sgn e ∧ lastQ l (wayR f l a t u) = (e * (t * l.1 + u * a.1), e * (t * l.2 + u * a.2))
  | 0, l, a, t, u, _, h, _ => absurd h (Nat.not_lt_zero _)
  | f + 1, l, a, t, u, hu, h, ⟨x, y, hxy⟩ => by
    show ∃ e, sgn e ∧ lastQ l (if u = 0 then [] else _ :: _) = _
    by_cases c : u = 0
    · subst c
      have ht : t = 1 ∨ t = -1 := by
        have h1 : x * t = 1 := by omega
        have := Int.natAbs_mul x t
        rw [h1] at this
        have h2 : t.natAbs = 1 := Nat.eq_one_of_mul_eq_one_left this.symm
        omega
      rw [if_pos rfl]
      refine ⟨t, ht, ?_⟩
      show l = _
      have : t * t = 1 := by rcases ht with rfl | rfl <;> rfl
      have e1 : t * (t * l.1 + 0 * a.1) = l.1 := by rw [Int.zero_mul, Int.add_zero, ← Int.mul_assoc, this, Int.one_mul]
      have e2 : t * (t * l.2 + 0 * a.2) = l.2 := by rw [Int.zero_mul, Int.add_zero, ← Int.mul_assoc, this, Int.one_mul]
      rw [e1, e2]
    · rw [if_neg c, lastQ_cons]
      have h1 := near_rest (t := t) (show 0 < u by omega)
      have h2 := plc_abs (u, t - nearZ t u * u)
      have h3 := dst_le (p := t) (show 0 < u.natAbs by omega)
      dsimp only at h2
      obtain ⟨d, hd, hp⟩ := plc_sgn (u, t - nearZ t u * u)
      have hdd : d * d = 1 := by rcases hd with rfl | rfl <;> rfl
      obtain ⟨e, he, hl⟩ := wayR_last f (nearZ t u * l.1 + a.1, nearZ t u * l.2 + a.2) l (plc (u, t - nearZ t u * u)).1 (plc (u, t - nearZ t u * u)).2 (plc_nn _) (by omega) ⟨d * (x * nearZ t u + y), d * x, by rw [hp]; dsimp only; grind⟩
      refine ⟨e * d, ?_, ?_⟩
      · rcases he with rfl | rfl <;> rcases hd with rfl | rfl <;> first | exact .inl rfl | exact .inr rfl
      · rw [hl, hp]
        dsimp only
        congr 1 <;> grind
/-- how far numbers grow -/
def Grw (p q : Int × Int) : Prop := p.1.natAbs ≤ max 1 q.1.natAbs ∧ p.2.natAbs ≤ max 1 q.2.natAbs
theorem Grw.trans {p q r : Int × Int} (h : Grw p q) (k : Grw q r) : Grw p r := by
  obtain ⟨a, b⟩ := h
  obtain ⟨c, d⟩ := k
  exact ⟨by omega, by omega⟩
theorem Grw.refl (p : Int × Int) : Grw p p := ⟨by omega, by omega⟩
theorem near_two {t u : Int} (h : 0 < u) (h2 : 2 * u.natAbs ≤ t.natAbs) : 2 ≤ (nearZ t u).natAbs := by
  have h1 := near_rest (t := t) h
  have h3 := dst_le (p := t) (show 0 < u.natAbs by omega)
  generalize nearZ t u = n at *
  by_cases c : 2 ≤ n.natAbs
  · exact c
  · have : n = 0 ∨ n = 1 ∨ n = -1 := by omega
    rcases this with rfl | rfl | rfl <;> omega
theorem mul_two {n l a : Int} (hn : 2 ≤ n.natAbs) (h : a.natAbs ≤ max 1 l.natAbs) : l.natAbs ≤ max 1 (n * l + a).natAbs := by
  by_cases c : l = 0
  · subst c; simp
  · have h1 : 2 * l.natAbs ≤ (n * l).natAbs := by rw [Int.natAbs_mul]; exact Nat.mul_le_mul_right _ hn
    omega
theorem wayR_grow : ∀ (f : Nat) (l a : Int × Int) (t u : Int), 0 ≤ u → ((l.1.natAbs ≤ 1 ∧ l.2.natAbs ≤ 1) ∨ (2 * u.natAbs ≤ t.natAbs ∧ Grw a l)) → ∀ z ∈ l :: wayR f l a t u, Grw z (lastQ l (wayR f l a t u))
  | 0, l, a, t, u, _, _ => fun z hz => by rw [List.mem_singleton.mp hz]; exact Grw.refl l
  | f + 1, l, a, t, u, hu, h => by
    show ∀ z ∈ l :: (if u = 0 then [] else _ :: _), Grw z (lastQ l (if u = 0 then [] else _ :: _))
    by_cases c : u = 0
    · rw [if_pos c]
      exact fun z hz => by rw [List.mem_singleton.mp hz]; exact Grw.refl l
    · rw [if_neg c, lastQ_cons]
      have hn : Grw l (nearZ t u * l.1 + a.1, nearZ t u * l.2 + a.2) := by
        rcases h with ⟨h1, h2⟩ | ⟨h1, h2⟩
        · exact ⟨by omega, by omega⟩
        · have := near_two (show 0 < u by omega) h1
          exact ⟨mul_two this h2.1, mul_two this h2.2⟩
      have h1 := near_rest (t := t) (show 0 < u by omega)
      have h2 := plc_abs (u, t - nearZ t u * u)
      have h3 := dst_le (p := t) (show 0 < u.natAbs by omega)
      dsimp only at h2
      have ih := wayR_grow f (nearZ t u * l.1 + a.1, nearZ t u * l.2 + a.2) l (plc (u, t - nearZ t u * u)).1 (plc (u, t - nearZ t u * u)).2 (plc_nn _) (.inr ⟨by omega, hn⟩)
      intro z hz
      rcases List.mem_cons.mp hz with rfl | hz
      · exact hn.trans (ih _ List.mem_cons_self)
      · exact ih z hz
/-- a way to a place -/
theorem wayTo_ok {x : Int × Int} (h : 0 ≤ x.2) (hg : ∃ y z : Int, y * x.1 + z * x.2 = 1) : PathOk (1, 0) (wayTo x).tail ∧ (∃ e, sgn e ∧ lastQ (1, 0) (wayTo x).tail = (e * x.1, e * x.2)) ∧ ∀ z ∈ wayTo x, Grw z x := by
  have h1 := wayR_path (x.2.natAbs + 1) (1, 0) (0, 1) x.1 x.2 (.inl rfl)
  obtain ⟨e, he, h2⟩ := wayR_last (x.2.natAbs + 1) (1, 0) (0, 1) x.1 x.2 h (Nat.lt_succ_self _) hg
  have h3 := wayR_grow (x.2.natAbs + 1) (1, 0) (0, 1) x.1 x.2 h (.inl ⟨by decide, by decide⟩)
  have h4 : lastQ (1, 0) (wayTo x).tail = (e * x.1, e * x.2) := by
    show lastQ (1, 0) (wayR _ _ _ _ _) = _
    rw [h2]
    dsimp only
    congr 1 <;> grind
  refine ⟨h1, ⟨e, he, h4⟩, fun z hz => ?_⟩
  have := h3 z hz
  have h5 : lastQ (1, 0) (wayR (x.2.natAbs + 1) (1, 0) (0, 1) x.1 x.2) = (e * x.1, e * x.2) := h4
  rw [h5] at this
  rcases he with rfl | rfl
  · rw [Int.one_mul, Int.one_mul] at this; exact this
  · unfold Grw at this ⊢
    dsimp only at this
    exact ⟨by omega, by omega⟩
end My

namespace My
open PySem PySem.Spec PyProof.Rows L2 Pre
/-! ### crossed, placed, way_to -/
/-- a pair in a heap, a list or a tuple -/
def PairH (H : Hp) (v : V) (q : Int × Int) : Prop := ∃ a, v = .ref a ∧ (H a = some (.lst [.int q.1, .int q.2]) ∨ H a = some (.tup [.int q.1, .int q.2]))
theorem rows2 {H : Hp} {p : Addr} {l m : List Int} (h : RowsIn H p [l, m]) : ∃ a b, H p = some (.lst [.ref a, .ref b]) ∧ H a = some (.lst (l.map V.int)) ∧ H b = some (.lst (m.map V.int)) := by
  obtain ⟨as, h1, h2, h3⟩ := h
  match as, h2 with
  | [a, b], _ => exact ⟨a, b, h1, h3 0 a l rfl rfl, h3 1 b m rfl rfl⟩
theorem none_back {H H' : Hp} {a : Addr} (s : Same H H') (h : H' a = none) : H a = none := by
  cases e : H a with
  | none => rfl
  | some o => rw [s _ _ e] at h; cases h
theorem newH {H H' : Hp} {a : Addr} {o : HO} (n : H a = none) (e : upd H a o = H') : Same H H' ∧ H' a = some o := by
  subst e
  exact ⟨same_upd n, upd_same⟩
section
variable {K : PySem.W.Frag} {H H' : Hp} {v : V} {q : Int × Int} {Q : VK}
theorem PairH.same (h : PairH H v q) (s : Same H H') : PairH H' v q := by
  obtain ⟨a, e, h⟩ := h
  exact ⟨a, e, h.imp (s _ _) (s _ _)⟩
theorem ix_pair0 (h : PairH H v q) (k : Q (.int q.1) H) : rIxB K v (.int 0) H Q := by
  obtain ⟨a, rfl, h | h⟩ := h
  · exact .inl ⟨a, _, _, _, rfl, rfl, .inl (.inl h), atI_nat (j := 0) rfl, k⟩
  · exact .inr ⟨a, _, _, _, rfl, rfl, .inl (.inl h), atI_nat (j := 0) rfl, k⟩
theorem ix_pair1 (h : PairH H v q) (k : Q (.int q.2) H) : rIxB K v (.int 1) H Q := by
  obtain ⟨a, rfl, h | h⟩ := h
  · exact .inl ⟨a, _, _, _, rfl, rfl, .inl (.inl h), atI_nat (j := 1) rfl, k⟩
  · exact .inr ⟨a, _, _, _, rfl, rfl, .inl (.inl h), atI_nat (j := 1) rfl, k⟩
theorem gt_pair {a b : Addr} {i j : Int} (ha : H a = some (.tup [.int i, .int j])) (hb : H b = some (.tup [.int 0, .int 0])) (k : Q (.bl (decide (i > 0 ∨ i = 0 ∧ j > 0))) H) : rGtU K (.ref a) (.ref b) H Q := by
  refine ⟨[i, j], [0, 0], .tup (.inl (.inl ha)) (dp_ints [i, j]), .tup (.inl (.inl hb)) (dp_ints [0, 0]), ?_⟩
  have e2 : (([0, 0] : List Int) < [i, j]) ↔ (i > 0 ∨ i = 0 ∧ j > 0) := by
    rw [List.cons_lt_cons_iff, List.cons_lt_cons_iff]
    constructor
    · rintro (h | ⟨h, h2 | ⟨_, h3⟩⟩)
      · exact .inl h
      · exact .inr ⟨h.symm, h2⟩
      · exact absurd h3 (List.lt_irrefl _)
    · rintro (h | ⟨h, h2⟩)
      · exact .inl h
      · exact .inr ⟨h.symm, .inl h2⟩
  have e : decide (([0, 0] : List Int) < [i, j]) = decide (i > 0 ∨ i = 0 ∧ j > 0) := decide_eq_decide.mpr e2
  rw [e]
  exact k
end
local macro_rules | `(tactic| walk_at "go") => `(tactic| repeat (first | (with_reducible first | refine iteT ?_ | refine iteF ?_ | refine iteNtt ?_ | refine iteNff ?_ | refine iteET (by omega) ?_ | refine iteEF (by omega) ?_ | refine iteENT (by omega) ?_ | refine iteENF (by omega) ?_ | refine iteDT (by omega) ?_ | refine iteDF (by omega) ?_ | refine iteNT (by omega) ?_ | refine iteNF (by omega) ?_) | refine ⟨_, rfl, ?_⟩ | refine ⟨_, _, rfl, rfl, ?_⟩ | refine ⟨_, _, rfl, ?_⟩ | refine ⟨rfl, ?_⟩ | refine .inl ⟨_, rfl, ?_⟩ | refine .inr ⟨_, rfl, ?_⟩))
local macro_rules | `(tactic| walk_at "b") => `(tactic| try dsimp (config := { proj := false, iota := false, eta := false, zeta := false }) only)
section
variable {P : Program} {w : World} {K : PySem.W.Frag} {mg : Str → Option Value} {base : Heap}
def sp_crossed (K : PySem.W.Frag) : Sp := fun vs H Q _ => ∃ (v u : V) (x y : Int × Int), vs = [v, u] ∧ PairH H v x ∧ PairH H u y ∧ CMulX x.1 y.2 ∧ CMulX x.2 y.1 ∧ Q (.int (x.1 * y.2 - x.2 * y.1)) H
theorem G_crossed (T : Top K mg) : FnOk P w K mg base CX0 1 T.f_crossed T.fd_crossed ["one", "other"] (sp_crossed K) := by
  refine T.F_crossed.ok sc_crossed (fun vs H Q E h => by obtain ⟨v, u, x, y, rfl, _⟩ := h; rfl) (fun cdv A outer s H vs Q E hr h => ?_)
  obtain ⟨v, u, x, y, rfl, hx, hy, c1, c2, q⟩ := h
  refine ⟨_, PSs.nox (pss_one (ps_ret (pe_op op_sub (pe_op op_mulX (pe_ix (k_ixB K rfl) (pv 0) pe_int (fun _ _ => rfl)) (pe_ix (k_ixB K rfl) (pv 1) pe_int (fun _ _ => rfl))) (pe_op op_mulX (pe_ix (k_ixB K rfl) (pv 0) pe_int (fun _ _ => rfl)) (pe_ix (k_ixB K rfl) (pv 1) pe_int (fun _ _ => rfl)))))), ?_⟩
  refine ⟨_, rfl, ?_⟩
  refine ix_pair0 hx ⟨_, rfl, ?_⟩
  refine ix_pair1 hy ⟨_, _, rfl, rfl, c1, ?_⟩
  refine ⟨_, rfl, ?_⟩
  refine ix_pair1 hx ⟨_, rfl, ?_⟩
  refine ix_pair0 hy ⟨_, _, rfl, rfl, c2, ?_⟩
  exact ⟨_, _, rfl, rfl, q⟩
def sp_placed (K : PySem.W.Frag) : Sp := fun vs H Q _ => ∃ (v : V) (x : Int × Int), vs = [v] ∧ PairH H v x ∧ ∀ H' p, Same H H' → H p = none → H' p = some (.tup [.int (plc x).1, .int (plc x).2]) → Q (.ref p) H'
theorem G_placed (T : Top K mg) : FnOk P w K mg base CX0 1 T.f_placed T.fd_placed ["row"] (sp_placed K) := by
  refine T.F_placed.ok sc_placed (fun vs H Q E h => by obtain ⟨v, x, rfl, _⟩ := h; rfl) (fun cdv A outer s H vs Q E hr h => ?_)
  obtain ⟨v, x, rfl, hx, q⟩ := h
  refine ⟨_, PSs.nox (pss_one (ps_ret (pe_ifExp (pt_cmpR (k_gtU K rfl hr.units) (pe_tup (pa_cons (pe_ix (k_ixB K rfl) (pv 0) pe_int (fun _ _ => rfl)) (pa_cons (pe_ix (k_ixB K rfl) (pv 0) pe_int (fun _ _ => rfl)) pa_nil))) (pe_tup (pa_cons pe_int (pa_cons pe_int pa_nil))) (nomark _)) (pe_tup (pa_cons (pe_ix (k_ixB K rfl) (pv 0) pe_int (fun _ _ => rfl)) (pa_cons (pe_ix (k_ixB K rfl) (pv 0) pe_int (fun _ _ => rfl)) pa_nil))) (pe_tup (pa_cons (pe_op op_sub pe_int (pe_ix (k_ixB K rfl) (pv 0) pe_int (fun _ _ => rfl))) (pa_cons (pe_op op_sub pe_int (pe_ix (k_ixB K rfl) (pv 0) pe_int (fun _ _ => rfl))) pa_nil)))))), ?_⟩
  refine ⟨_, rfl, ?_⟩
  refine ix_pair1 hx ⟨_, rfl, ?_⟩
  refine ix_pair0 hx ⟨(by show 2 ≤ sizeLine; decide), fun t1 n1 => ?_⟩
  generalize e0 : upd _ t1 _ = H1
  obtain ⟨s1, h1⟩ := newH n1 e0
  refine ⟨(by show 2 ≤ sizeLine; decide), fun t2 n2 => ?_⟩
  generalize e0 : upd _ t2 _ = H2
  obtain ⟨s2, h2⟩ := newH n2 e0
  have s12 := s1.trans s2
  have hx2 := hx.same s12
  refine gt_pair (s2 _ _ h1) h2 ⟨_, rfl, ?_⟩
  unfold plc at q
  by_cases c : x.2 > 0 ∨ x.2 = 0 ∧ x.1 > 0
  · rw [decide_eq_true c]
    rw [if_pos c] at q
    refine iteT ⟨_, rfl, ?_⟩
    refine ix_pair0 hx2 ⟨_, rfl, ?_⟩
    refine ix_pair1 hx2 ⟨(by show 2 ≤ sizeLine; decide), fun p np => ?_⟩
    exact q _ p (s12.trans (same_upd np)) (none_back s12 np) upd_same
  · rw [decide_eq_false c]
    rw [if_neg c] at q
    refine iteF ⟨_, rfl, ?_⟩
    refine ix_pair0 hx2 ⟨_, _, rfl, rfl, _, rfl, ?_⟩
    refine ix_pair1 hx2 ⟨_, _, rfl, rfl, (by show 2 ≤ sizeLine; decide), fun p np => ?_⟩
    refine q _ p (s12.trans (same_upd np)) (none_back s12 np) ?_
    rw [upd_same]
    dsimp only
    rw [Int.zero_sub, Int.zero_sub]
def sp_is_turning (K : PySem.W.Frag) : Sp := fun vs H Q _ => ∃ (p : Addr) (x y : Int × Int), vs = [.ref p] ∧ RowsIn H p [[x.1, x.2], [y.1, y.2]] ∧ CMulX x.1 y.2 ∧ CMulX x.2 y.1 ∧ (x.1 * y.2 - x.2 * y.1 = 1 ∨ x.1 * y.2 - x.2 * y.1 = -1) ∧ ∀ H', Same H H' → Q (.bl true) H'
theorem G_is_turning (T : Top K mg) : FnOk P w K mg base CX0 3 T.f_is_turning T.fd_is_turning ["value"] (sp_is_turning K) := by
  refine T.F_is_turning.ok sc_is_turning (fun vs H Q E h => by obtain ⟨p, x, y, rfl, _⟩ := h; rfl) (fun cdv A outer s H vs Q E hr h => ?_)
  obtain ⟨p, x, y, rfl, hR, c1, c2, hd, q⟩ := h
  refine ⟨_, PSs.nox (pss_cons (ps_if (PW.pt (pw_or (pt_not (pt_val (pe_callB (k_isi K rfl) (by rfl) T.n_isinstance (by decide +kernel) (pa_cons (pv 0) (pa_cons (pe_bltn (v := .ty "list") (by rfl) T.n_list (by decide +kernel) rfl) pa_nil))))) (pw_or1 (pt_cmpR op_ne (pe_callB (k_len K rfl) (by rfl) T.n_len (by decide +kernel) (pa_cons (pv 0) pa_nil)) pe_int (nomark _)))))
    (pss_one (ps_ret pe_bl))
    pss_nil)
  (pss_cons (ps_if (pt_cmpR (k_neD K rfl hr.units) (pe_lc (own := [("line", 1)]) (g := gName 1) (by rfl) sc_is_turning.nd (k_piL K rfl (pv 0)) (blkOk_by (own := [("line", 1)]) (N := N_is_turning) (sc := defScope s_is_turning) (by decide +kernel)) (fun _ _ _ _ _ => (pg_name (i := 1) sc_is_turning.nd rfl (by first | exact Or.inl rfl | exact Or.inr rfl))) (fun _ _ _ _ _ => (pts_one (PW.pt (pw_or (pt_not (pt_val (pe_call (G_are_wholes T) (hr.mono (by decide)) (by rfl) T.g_are_wholes T.F_are_wholes.kp T.b_are_wholes .nil pass0 (pa_cons (pv 1) pa_nil)))) (pw_or1 (pt_cmpR op_ne (pe_callB (k_len K rfl) (by rfl) T.n_len (by decide +kernel) (pa_cons (pv 1) pa_nil)) pe_int (nomark _))))))) (fun _ _ _ _ _ => (pv 1))) (pe_lst pa_nil) (nomark _))
    (pss_one (ps_ret pe_bl))
    pss_nil)
  (pss_one (ps_ret (pe_cmpR op_eq (pe_callB call_abs (by rfl) T.n_abs (by decide +kernel) (pa_cons (pe_call (G_crossed T) (hr.mono (by decide)) (by rfl) T.g_crossed T.F_crossed.kp T.b_crossed .nil pass0 (pa_cons (pe_ix (k_ixL K rfl) (pv 0) pe_int (fun _ _ => rfl)) (pa_cons (pe_ix (k_ixL K rfl) (pv 0) pe_int (fun _ _ => rfl)) pa_nil))) pa_nil)) pe_int (nomark _)))))), ?_⟩
  obtain ⟨a, b, hp, ha, hb⟩ := rows2 hR
  refine ⟨_, rfl, _, _, _, _, true, rfl, .ty _, .base (.lst hp), kit_ty (by decide +kernel), true, rfl, iteF ?_⟩
  refine ⟨_, rfl, p, _, rfl, .inl (.inl (.inl hp)), rfl, _, rfl, iteENF rfl ?_⟩
  simp only [tNext]
  refine ⟨_, rfl, p, rfl, ⟨_, .inl (.inl hp)⟩, fun D nD => ?_⟩
  refine lc_selL (K := K) (a := p) (xs := [.ref a, .ref b]) [none, none] nD (.inl (.inl hp)) rfl (by rw [sizeLine_eq]; show 2 < _; decide) (fun x => rfl) ?_ ?_
  · intro i v o H' hv ho s Qt qt
    have ex : ∃ (c : Addr) (z : Int × Int), v = .ref c ∧ H' c = some (.lst (([z.1, z.2] : List Int).map V.int)) ∧ o = none := by
      match i, hv, ho with
      | 0, hv, ho => cases hv; cases ho; exact ⟨a, x, rfl, s _ _ ha, rfl⟩
      | 1, hv, ho => cases hv; cases ho; exact ⟨b, y, rfl, s _ _ hb, rfl⟩
    obtain ⟨c, z, rfl, hc, rfl⟩ := ex
    refine ⟨_, rfl, c, _, rfl, hc, by show 2 ≤ 1000; decide, fun H2 s2 => ⟨_, rfl, iteF ?_⟩⟩
    refine ⟨_, rfl, c, _, rfl, .inl (.inl (.inl (s2 _ _ hc))), rfl, _, rfl, iteENF rfl ?_⟩
    exact qt _ s2
  intro H1 s1 hD
  refine ⟨(by show 0 ≤ sizeLine; decide), fun z nz => ?_⟩
  generalize e0 : upd _ z _ = H2
  obtain ⟨s2, hz⟩ := newH nz e0
  have s12 := s1.trans s2
  refine neD_lst (ns := []) (ms := []) (.inl (.inl (s2 _ _ hD))) (.inl (.inl hz)) ⟨_, rfl, ?_⟩
  rw [decide_eq_true rfl]
  refine iteF ?_
  refine ⟨_, rfl, p, _, _, _, rfl, rfl, .inl (.inl (s12 _ _ hp)), atI_nat (j := 0) rfl, _, rfl, p, _, _, _, rfl, rfl, .inl (.inl (s12 _ _ hp)), atI_nat (j := 1) rfl, .ref a, .ref b, x, y, rfl, ⟨a, rfl, .inl (s12 _ _ ha)⟩, ⟨b, rfl, .inl (s12 _ _ hb)⟩, c1, c2, _, rfl, rfl, ?_⟩
  have e : (if x.1 * y.2 - x.2 * y.1 < 0 then -(x.1 * y.2 - x.2 * y.1) else x.1 * y.2 - x.2 * y.1) = 1 := by
    rcases hd with z | z <;> rw [z] <;> rfl
  rw [e, decide_eq_true rfl]
  exact q _ s12
def sp_check_matrix (K : PySem.W.Frag) : Sp := fun vs H Q _ => ∃ (p : Addr) (x y : Int × Int), vs = [.ref p] ∧ RowsIn H p [[x.1, x.2], [y.1, y.2]] ∧ CMulX x.1 y.2 ∧ CMulX x.2 y.1 ∧ (x.1 * y.2 - x.2 * y.1 = 1 ∨ x.1 * y.2 - x.2 * y.1 = -1) ∧ ∀ H', Same H H' → Q .non H'
theorem G_check_matrix (T : Top K mg) : FnOk P w K mg base CX0 4 T.f_check_matrix T.fd_check_matrix ["numbers"] (sp_check_matrix K) := by
  refine T.F_check_matrix.ok sc_check_matrix (fun vs H Q E h => by obtain ⟨p, x, y, rfl, _⟩ := h; rfl) (fun cdv A outer s H vs Q E hr h => ?_)
  obtain ⟨p, x, y, rfl, hR, c1, c2, hd, q⟩ := h
  refine ⟨_, PSs.nox (pss_one (ps_if (pt_not (pt_val (pe_call (G_is_turning T) (hr.mono (by decide)) (by rfl) T.g_is_turning T.F_is_turning.kp T.b_is_turning .nil pass0 (pa_cons (pv 0) pa_nil))))
    (pss_one ps_never)
    pss_nil)), ?_⟩
  exact ⟨_, rfl, p, x, y, rfl, hR, c1, c2, hd, fun H1 s1 => ⟨_, rfl, iteF (q _ s1)⟩⟩
theorem cmx {i j : Int} (hi : i.natAbs < 2 ^ 200) (hj : j.natAbs < 2 ^ 200) : CMulX i j := by
  have a := PyProof.Rows.intBits_le hi
  have b := PyProof.Rows.intBits_le hj
  show (Builtin.Int.intBits i : Int) + (Builtin.Int.intBits j : Int) ≤ 134217728
  omega
theorem p80 : (2 : Nat) ^ 80 = 1208925819614629174706176 := by decide +kernel
theorem p200 : (2 : Nat) ^ 80 < 2 ^ 200 := by decide +kernel
theorem lenL_log : ∀ (k u : Nat) (p : Int), u < 2 ^ k → lenL u p ≤ k
  | 0, u, p, h => by
    obtain rfl : u = 0 := by omega
    exact Nat.le_refl 0
  | k + 1, u, p, h => by
    by_cases c : u = 0
    · subst c; exact Nat.zero_le _
    · rw [lenL_eq (by omega)]
      have h1 := dst_le (p := p) (show 0 < u by omega)
      rw [Nat.pow_succ] at h
      have := lenL_log k (dst p u) u (by omega)
      omega
theorem wayTo_81 {x : Int × Int} (h : 0 ≤ x.2) (b : x.2.natAbs < 2 ^ 80) : (wayTo x).length ≤ 81 := by
  rw [wayTo_len h]
  have := lenL_log 80 _ x.1 b
  omega
theorem lt80_max {a b : Nat} (h : a ≤ max 1 b) (hb : b < 2 ^ 80) : a < 2 ^ 80 := by
  have : 1 < 2 ^ 80 := by decide +kernel
  generalize 2 ^ 80 = B at *
  omega
theorem near_bd {t u : Int} (hu : 0 < u) (bt : t.natAbs < 2 ^ 80) (bu : u.natAbs < 2 ^ 80) : (nearZ t u).natAbs < 2 ^ 200 := by
  have hnr := near_rest (t := t) hu
  have hdl := dst_le (p := t) (show 0 < u.natAbs by omega)
  have h0 : (nearZ t u * u).natAbs ≤ t.natAbs + u.natAbs := by omega
  rw [Int.natAbs_mul] at h0
  have h1 : (nearZ t u).natAbs * 1 ≤ (nearZ t u).natAbs * u.natAbs := Nat.mul_le_mul_left _ (by omega)
  have h2 : 2 ^ 80 + 2 ^ 80 < 2 ^ 200 := by decide +kernel
  generalize 2 ^ 80 = B at *
  generalize 2 ^ 200 = C at *
  omega
/-- a list of pairs, all new -/
def PairsN (H0 H : Hp) (p : Addr) (ps : List (Int × Int)) : Prop := ∃ ts : List Addr, H p = some (.lst (ts.map V.ref)) ∧ ts.length = ps.length ∧ H0 p = none ∧ ∀ (i : Nat) (t : Addr) (q : Int × Int), ts[i]? = some t → ps[i]? = some q → H0 t = none ∧ H t = some (.tup [.int q.1, .int q.2])
theorem PairsN.same {H0 H H' : Hp} {p : Addr} {ps : List (Int × Int)} (h : PairsN H0 H p ps) (s : Same H H') : PairsN H0 H' p ps := by
  obtain ⟨ts, h1, h2, h3, h4⟩ := h
  exact ⟨ts, s _ _ h1, h2, h3, fun i t q a b => ⟨(h4 i t q a b).1, s _ _ (h4 i t q a b).2⟩⟩
theorem PairsN.snoc {H0 H H' : Hp} {p t : Addr} {ps : List (Int × Int)} {q : Int × Int} {ts : List Addr} (hl : ts.length = ps.length) (n0 : H0 p = none) (hi : ∀ (i : Nat) (t : Addr) (q : Int × Int), ts[i]? = some t → ps[i]? = some q → H0 t = none ∧ H t = some (.tup [.int q.1, .int q.2])) (hk : ∀ b ys, H b = some (.tup ys) → H' b = some (.tup ys)) (hp : H' p = some (.lst ((ts ++ [t]).map V.ref))) (nt : H0 t = none) (ht : H' t = some (.tup [.int q.1, .int q.2])) : PairsN H0 H' p (ps ++ [q]) := by
  refine ⟨ts ++ [t], hp, by rw [List.length_append, List.length_append, hl]; rfl, n0, fun i u r hu hr => ?_⟩
  by_cases c : i < ts.length
  · rw [List.getElem?_append_left c] at hu
    rw [List.getElem?_append_left (by rw [← hl]; exact c)] at hr
    obtain ⟨h1, h2⟩ := hi i u r hu hr
    exact ⟨h1, hk _ _ h2⟩
  · rw [List.getElem?_append_right (by omega)] at hu
    rw [List.getElem?_append_right (by rw [← hl]; omega), ← hl] at hr
    have e : i - ts.length = 0 := by
      have := (List.getElem?_eq_some_iff.mp hu).1
      rw [List.length_singleton] at this
      omega
    rw [e] at hu hr
    cases hu
    cases hr
    exact ⟨nt, ht⟩
def sp_way_to (K : PySem.W.Frag) : Sp := fun vs H Q _ => ∃ (a : Addr) (x : Int × Int), vs = [.ref a] ∧ H a = some (.tup [.int x.1, .int x.2]) ∧ 0 ≤ x.2 ∧ (∃ y z : Int, y * x.1 + z * x.2 = 1) ∧ x.1.natAbs < 2 ^ 80 ∧ x.2.natAbs < 2 ^ 80 ∧ ∀ H' p, Same H H' → PairsN H H' p (wayTo x) → Q (.ref p) H'
theorem G_way_to (T : Top K mg) : FnOk P w K mg base CX0 2 T.f_way_to T.fd_way_to ["place"] (sp_way_to K) := by
  refine T.F_way_to.ok sc_way_to (fun vs H Q E h => by obtain ⟨a, x, rfl, _⟩ := h; rfl) (fun cdv A outer s H vs Q E hr h => ?_)
  obtain ⟨a, x, rfl, ha, hx0, hg, b1, b2, q⟩ := h
  refine ⟨_, PSs.nox (pss_cons (ps_par (by rfl) sc_way_to.nd (i := 1) (j := 2) rfl rfl (by decide) rfl rfl (pa_cons (pe_lst (pa_cons (pe_tup (pa_cons pe_int (pa_cons pe_int pa_nil))) pa_nil)) (pa_cons (pe_tup (pa_cons pe_int (pa_cons pe_int pa_nil))) pa_nil)) (by rfl))
  (pss_cons (ps_asg (pv 0) (k_pgT K rfl (by rfl) (pgs_cons (pg_name (i := 3) sc_way_to.nd rfl (by first | exact Or.inl rfl | exact Or.inr rfl)) (pgs_cons (pg_name (i := 4) sc_way_to.nd rfl (by first | exact Or.inl rfl | exact Or.inr rfl)) pgs_nil))))
  (pss_cons (ps_while PassesOwn.never (pt_cmpR op_ne (pv 4) pe_int (nomark _))
    (pss_cons (ps_set (i := 5) sc_way_to.nd rfl (by first | exact Or.inl rfl | exact Or.inr rfl) (pe_op op_add (pe_op op_fdivW (pv 3) (pv 4)) (pe_callTy call_int1 (by rfl) T.n_int (by decide +kernel) (pa_cons (pe_cmpR op_gt (pe_op op_mulX pe_int (pe_op op_mod (pv 3) (pv 4))) (pv 4) (nomark _)) pa_nil))))
  (pss_cons (ps_set (i := 6) sc_way_to.nd rfl (by first | exact Or.inl rfl | exact Or.inr rfl) (pe_ix (k_ixL K rfl) (pv 1) (pe_un un_neg pe_int) (fun _ _ => rfl)))
  (pss_cons (ps_expr (pe_bm PySem.F.plainAttrs_list PySem.F.slot_list_append PySem.F.type_list_append mt_append (pv 1) (pa_cons (pe_tup (pa_cons (pe_op op_add (pe_op op_mulX (pv 5) (pe_ix (k_ixT K rfl) (pv 6) pe_int (fun _ _ => rfl))) (pe_ix (k_ixT K rfl) (pv 2) pe_int (fun _ _ => rfl))) (pa_cons (pe_op op_add (pe_op op_mulX (pv 5) (pe_ix (k_ixT K rfl) (pv 6) pe_int (fun _ _ => rfl))) (pe_ix (k_ixT K rfl) (pv 2) pe_int (fun _ _ => rfl))) pa_nil))) pa_nil)))
  (pss_cons (ps_set (i := 2) sc_way_to.nd rfl (by first | exact Or.inl rfl | exact Or.inr rfl) (pv 6))
  (pss_one (ps_asg (pe_call (G_placed T) (hr.mono (by decide)) (by rfl) T.g_placed T.F_placed.kp T.b_placed .nil pass0 (pa_cons (pe_tup (pa_cons (pv 4) (pa_cons (pe_op op_sub (pv 3) (pe_op op_mulX (pv 5) (pv 4))) pa_nil))) pa_nil)) (k_pgT K rfl (by rfl) (pgs_cons (pg_name (i := 3) sc_way_to.nd rfl (by first | exact Or.inl rfl | exact Or.inr rfl)) (pgs_cons (pg_name (i := 4) sc_way_to.nd rfl (by first | exact Or.inl rfl | exact Or.inr rfl)) pgs_nil))))))))))
  (pss_one (ps_ret (pv 1)))))), ?_⟩
  obtain ⟨_, _, hgr⟩ := wayTo_ok hx0 hg
  refine ⟨(by show 2 ≤ sizeLine; decide), fun t0 n0 => ?_⟩
  generalize e0 : upd _ t0 _ = H1
  obtain ⟨s1, h1⟩ := newH n0 e0
  refine ⟨(by show 1 ≤ sizeLine; decide), fun p np => ?_⟩
  generalize e0 : upd _ p _ = H2
  obtain ⟨s2, h2⟩ := newH np e0
  refine ⟨(by show 2 ≤ sizeLine; decide), fun t1 n1 => ?_⟩
  generalize e0 : upd _ t1 _ = H3
  obtain ⟨s3, h3⟩ := newH n1 e0
  refine ⟨_, _, rfl, ?_⟩
  have s03 := s1.trans (s2.trans s3)
  refine ⟨_, rfl, a, _, rfl, .inl (.inl (s03 _ _ ha)), rfl, _, _, rfl, _, _, rfl, rfl, ?_⟩
  dsimp only
  show tSeq (tWhile _ _) _ _ [some (V.ref a), some (V.ref p), some (V.ref t1), some (V.int x.1), some (V.int x.2), none, none] _
  have s3' := s1.trans (s2.trans s3)
  refine ⟨fun m σ HA => ∃ (ps : List (Int × Int)) (l ah : Int × Int) (t u : Int) (aa : Addr) (f : Nat) (v5 v6 : Option V), σ = [some (.ref a), some (.ref p), some (.ref aa), some (.int t), some (.int u), v5, v6] ∧ m = u.natAbs ∧ 0 ≤ u ∧ u.natAbs < f ∧ Same H HA ∧ PairsN H HA p (ps ++ [l]) ∧ HA aa = some (.tup [.int ah.1, .int ah.2]) ∧ wayTo x = ps ++ l :: wayR f l ah t u ∧ t.natAbs < 2 ^ 80 ∧ u.natAbs < 2 ^ 80 ∧ ah.1.natAbs < 2 ^ 80 ∧ ah.2.natAbs < 2 ^ 80,
    ⟨x.2.natAbs, [], (1, 0), (0, 1), x.1, x.2, t1, x.2.natAbs + 1, none, none, rfl, rfl, hx0, Nat.lt_succ_self _, s3', ⟨[t0], s3 _ _ h2, rfl, none_back s1 np, fun i t q hi hq => ?_⟩, h3, rfl, b1, b2, by decide, by decide⟩, ?_⟩
  · have e : i = 0 := by
      have := (List.getElem?_eq_some_iff.mp hi).1
      rw [List.length_singleton] at this
      omega
    subst e
    cases hi
    cases hq
    exact ⟨n0, (s2.trans s3) _ _ h1⟩
  rintro m σ HA ⟨ps, l, ah, t, u, aa, f, v5, v6, rfl, rfl, hu0, huf, sA, hP, hah, hw, bt, bu, ba1, ba2⟩
  refine ⟨_, rfl, rfl, _, rfl, ?_⟩
  by_cases c : u = 0
  · subst c
    refine iteENF rfl ?_
    have e : wayTo x = ps ++ [l] := by
      rw [hw]
      cases f with
      | zero => exact absurd huf (Nat.not_lt_zero _)
      | succ f => rfl
    rw [e] at q
    exact ⟨_, rfl, q _ p sA hP⟩
  refine iteENT c ?_
  have hu : 0 < u := by omega
  obtain ⟨f, rfl⟩ : ∃ g, f = g + 1 := ⟨f - 1, by omega⟩
  have hl : l ∈ wayTo x := by rw [hw]; exact List.mem_append_right _ List.mem_cons_self
  obtain ⟨g1, g2⟩ := hgr l hl
  have bl1 := lt80_max g1 b1
  have bl2 := lt80_max g2 b2
  have up : ∀ {z : Int}, z.natAbs < 2 ^ 80 → z.natAbs < 2 ^ 200 := fun h => Nat.lt_trans h p200
  have m1 := Int.emod_nonneg t (show u ≠ 0 from c)
  have m2 := Int.emod_lt_of_pos t hu
  have hnr := near_rest (t := t) hu
  have hdl := dst_le (p := t) (show 0 < u.natAbs by omega)
  have hpa := plc_abs (u, t - nearZ t u * u)
  dsimp only at hpa
  have bn := near_bd hu bt bu
  refine ⟨fun σ' H' => ∃ (aa : Addr) (v5 v6 : Option V), σ' = [some (.ref a), some (.ref p), some (.ref aa), some (.int (plc (u, t - nearZ t u * u)).1), some (.int (plc (u, t - nearZ t u * u)).2), v5, v6] ∧ Same H H' ∧ PairsN H H' p (ps ++ [l] ++ [(nearZ t u * l.1 + ah.1, nearZ t u * l.2 + ah.2)]) ∧ H' aa = some (.tup [.int l.1, .int l.2]), fun σ' H' ⟨aa, v5, v6, h1, h2, h3, h4⟩ => ⟨(plc (u, t - nearZ t u * u)).2.natAbs, by omega, ps ++ [l], _, l, _, _, aa, f, v5, v6, h1, rfl, plc_nn _, by omega, h2, h3, h4, ?_, by rw [hpa.2]; exact bu, Nat.lt_of_le_of_lt (by omega) bu, bl1, bl2⟩, ?_⟩
  · rw [hw, List.append_assoc]
    show ps ++ l :: (if u = 0 then [] else _ :: _) = _
    rw [if_neg c]
    rfl
  obtain ⟨ts, hts, htl, hnp, hti⟩ := id hP
  -- the nearest
  refine ⟨_, rfl, _, rfl, _, _, rfl, rfl, wide_div (b := 81) hu (Nat.lt_of_lt_of_le bu (Nat.pow_le_pow_right (by decide) (by decide))) (by decide) (by decide), ?_⟩
  refine ⟨_, rfl, _, rfl, _, _, rfl, rfl, hu, _, _, rfl, rfl, cmx (by decide) (Nat.lt_of_le_of_lt (show (t % u).natAbs ≤ u.natAbs by omega) (up bu)), _, rfl, _, _, rfl, rfl, .inr ⟨_, rfl, _, _, rfl, rfl, ?_⟩⟩
  have en : t / u + (if decide (u < 2 * (t % u)) = true then 1 else 0) = nearZ t u := by
    unfold nearZ
    by_cases d : 2 * (t % u) > u
    · rw [if_pos d, if_pos (decide_eq_true d)]
    · rw [if_neg d, if_neg (by rw [decide_eq_true_eq]; exact d)]
  dsimp only
  rw [en]
  generalize nearZ t u = n at *
  dsimp only [gName]
  show tSeq (tAsg _ _) _ _ [some (V.ref a), some (V.ref p), some (V.ref aa), some (V.int t), some (V.int u), some (V.int n), v6] _
  -- the last
  obtain ⟨ts', tl, rfl⟩ : ∃ ts' tl, ts = ts' ++ [tl] := ⟨ts.dropLast, ts.getLast (fun z => by rw [z, List.length_append] at htl; simp at htl), (List.dropLast_concat_getLast _).symm⟩
  have etl : ts'.length = ps.length := by rw [List.length_append, List.length_append] at htl; exact Nat.succ.inj htl
  obtain ⟨ntl, htl2⟩ := hti ts'.length tl l (by rw [List.getElem?_append_right (Nat.le_refl _), Nat.sub_self]; rfl) (by rw [etl, List.getElem?_append_right (Nat.le_refl _), Nat.sub_self]; rfl)
  refine ⟨_, rfl, _, rfl, p, _, _, _, rfl, rfl, .inl (.inl hts), by rw [List.map_append]; exact atI_last _ _, ?_⟩
  dsimp only [gName]
  show tSeq (tDrop _) _ _ [some (V.ref a), some (V.ref p), some (V.ref aa), some (V.int t), some (V.int u), some (V.int n), some (V.ref tl)] _
  refine ⟨_, rfl, .inl ⟨rfl, _, .inl (.inl hts)⟩, ?_⟩
  refine ⟨_, rfl, _, rfl, tl, _, _, _, rfl, rfl, .inl (.inl htl2), atI_nat (j := 0) rfl, _, _, rfl, rfl, cmx bn (up bl1), _, rfl, aa, _, _, _, rfl, rfl, .inl (.inl hah), atI_nat (j := 0) rfl, _, _, rfl, rfl, ?_⟩
  refine ⟨_, rfl, _, rfl, tl, _, _, _, rfl, rfl, .inl (.inl htl2), atI_nat (j := 1) rfl, _, _, rfl, rfl, cmx bn (up bl2), _, rfl, aa, _, _, _, rfl, rfl, .inl (.inl hah), atI_nat (j := 1) rfl, _, _, rfl, rfl, (by show 2 ≤ sizeLine; decide), fun nt nnt => ?_⟩
  generalize e0 : upd _ nt _ = HB
  obtain ⟨sB, hnt⟩ := newH nnt e0
  have htsB := sB _ _ hts
  have tsl : ((ts' ++ [tl]).map V.ref).length < sizeLine := by
    have h81 := wayTo_81 hx0 b2
    rw [hw, List.length_append, List.length_cons] at h81
    rw [List.length_map, htl, List.length_append, sizeLine_eq]
    show ps.length + 1 < _
    omega
  refine ⟨p, _, _, rfl, rfl, htsB, tsl, ?_⟩
  generalize e0 : upd _ p _ = HC
  have oC : ∀ b o, b ≠ p → HB b = some o → HC b = some o := fun b o nb h => by rw [← e0, upd_ne nb]; exact h
  have hpC : HC p = some (.lst ((ts' ++ [tl] ++ [nt]).map V.ref)) := by rw [← e0, upd_same, List.map_append (l₁ := ts' ++ [tl])]; rfl
  have tupC : ∀ b ys, HA b = some (.tup ys) → HC b = some (.tup ys) := fun b ys h => oC _ _ (fun z => by rw [z, hts] at h; cases h) (sB _ _ h)
  have hntC : HC nt = some (.tup [.int (n * l.1 + ah.1), .int (n * l.2 + ah.2)]) := oC _ _ (fun z => by rw [z, htsB] at hnt; cases hnt) hnt
  have sHC : Same H HC := fun b o h => oC _ _ (fun z => by rw [z, hnp] at h; cases h) (sB _ _ (sA _ _ h))
  have hPC : PairsN H HC p (ps ++ [l] ++ [(n * l.1 + ah.1, n * l.2 + ah.2)]) := PairsN.snoc (ts := ts' ++ [tl]) htl hnp hti tupC hpC (none_back sA nnt) hntC
  have htlC := tupC _ _ htl2
  clear oC tupC hntC hpC e0
  refine ⟨_, rfl, ?_⟩
  dsimp only [gName]
  show tAsg _ _ _ [some (V.ref a), some (V.ref p), some (V.ref tl), some (V.int t), some (V.int u), some (V.int n), some (V.ref tl)] _
  refine ⟨_, rfl, _, rfl, _, rfl, _, rfl, _, _, rfl, rfl, cmx bn (up bu), _, _, rfl, rfl, (by show 2 ≤ sizeLine; decide), fun t2 nt2 => ?_⟩
  generalize e0 : upd _ t2 _ = HD
  obtain ⟨sD, ht2⟩ := newH nt2 e0
  refine ⟨.ref t2, (u, t - n * u), rfl, ⟨t2, rfl, .inr ht2⟩, fun HE t3 sE nt3 ht3 => ?_⟩
  refine ⟨t3, _, rfl, .inl (.inl ht3), rfl, _, _, rfl, _, _, rfl, rfl, ?_⟩
  have sCE := sD.trans sE
  exact ⟨tl, _, _, rfl, sHC.trans sCE, hPC.same sCE, sCE _ _ htlC⟩
end
end My

namespace My
open PySem PySem.Spec PyProof.Rows L2 Pre
/-! ### least_way, fewest_lifts -/
theorem hu65 {k : Nat} {A : Around} (r : Room k A) : A.units + 65 < cLine := by have := r.un; omega
def swp (q : Int × Int) : Int × Int := (q.2, q.1)
def Std (x y : Int × Int) : Prop := (plc x = (0, 1) ∧ plc y = (1, 0)) ∨ (plc x = (1, 0) ∧ plc y = (0, 1))
instance (x y : Int × Int) : Decidable (Std x y) := by unfold Std; infer_instance
def waysF (x y : Int × Int) : List (List (Int × Int)) := [wayTo (plc x), wayTo (plc y), (wayTo (plc (swp (plc x)))).map swp, (wayTo (plc (swp (plc y)))).map swp]
def LeastW (x y : Int × Int) (w : List (Int × Int)) : Prop := (Std x y ∧ w = []) ∨ (¬ Std x y ∧ w ∈ waysF x y ∧ ∀ v ∈ waysF x y, w.length ≤ v.length)
def Off1 (D : Addr) (H H' : Hp) : Prop := ∀ b o, b ≠ D → H b = some o → H' b = some o
theorem PairsN.off {H0 H H' : Hp} {p D : Addr} {ps : List (Int × Int)} (h : PairsN H0 H p ps) (n : p ≠ D) (hD : ∃ ys, H D = some (.lst ys)) (k : Off1 D H H') : PairsN H0 H' p ps := by
  obtain ⟨ts, h1, h2, h3, h4⟩ := h
  obtain ⟨ys, hD⟩ := hD
  exact ⟨ts, k _ _ n h1, h2, h3, fun i t q a b => ⟨(h4 i t q a b).1, k _ _ (fun z => by have := (h4 i t q a b).2; rw [z, hD] at this; cases this) (h4 i t q a b).2⟩⟩
theorem PairsN.old {H0 H1 H : Hp} {p : Addr} {ps : List (Int × Int)} (h : PairsN H1 H p ps) (s : Same H0 H1) : PairsN H0 H p ps := by
  obtain ⟨ts, h1, h2, h3, h4⟩ := h
  exact ⟨ts, h1, h2, none_back s h3, fun i t q a b => ⟨none_back s (h4 i t q a b).1, (h4 i t q a b).2⟩⟩
theorem PairsN.mask {H0 H : Hp} {p D : Addr} {ps : List (Int × Int)} (h : PairsN H0 H p ps) (hD : ∃ o, H0 D = some o) : PairsN H0 (rs [D] H) p ps := by
  obtain ⟨ts, h1, h2, h3, h4⟩ := h
  obtain ⟨o, hD⟩ := hD
  have out : ∀ {b}, H0 b = none → b ∉ [D] := fun n z => by rw [List.mem_singleton.mp z, hD] at n; cases n
  exact ⟨ts, by rw [rs_out (out h3)]; exact h1, h2, h3, fun i t q a b => ⟨(h4 i t q a b).1, by rw [rs_out (out (h4 i t q a b).1)]; exact (h4 i t q a b).2⟩⟩
theorem PairsN.bare {H0 H : Hp} {p D : Addr} {ps : List (Int × Int)} (h : PairsN H0 (rs [D] H) p ps) : p ≠ D ∧ PairsN H0 H p ps := by
  refine ⟨fun z => ?_, h.same rs_le⟩
  obtain ⟨ts, h1, _⟩ := h
  exact (rs_some h1).1 (by rw [z]; exact List.mem_cons_self)
/-- a list of lists of pairs -/
def WaysN (H0 H : Hp) (D : Addr) (ws : List (List (Int × Int))) : Prop := ∃ rs : List Addr, H D = some (.lst (rs.map V.ref)) ∧ rs.length = ws.length ∧ ∀ (i : Nat) (r : Addr) (w : List (Int × Int)), rs[i]? = some r → ws[i]? = some w → r ≠ D ∧ PairsN H0 H r w
theorem WaysN.same {H0 H H' : Hp} {D : Addr} {ws : List (List (Int × Int))} (h : WaysN H0 H D ws) (s : Same H H') : WaysN H0 H' D ws := by
  obtain ⟨rs, h1, h2, h3⟩ := h
  exact ⟨rs, s _ _ h1, h2, fun i r w a b => ⟨(h3 i r w a b).1, (h3 i r w a b).2.same s⟩⟩
theorem WaysN.snoc {H0 H H' : Hp} {D r : Addr} {ws : List (List (Int × Int))} {w : List (Int × Int)} (h : WaysN H0 H D ws) (nr : r ≠ D) (hr : PairsN H0 H r w) (e : ∀ ys, H D = some (.lst ys) → upd H D (.lst (ys ++ [.ref r])) = H') : WaysN H0 H' D (ws ++ [w]) := by
  obtain ⟨rs, h1, h2, h3⟩ := h
  have e := e _ h1
  have k : Off1 D H H' := fun b o n h => by rw [← e, upd_ne n]; exact h
  refine ⟨rs ++ [r], by rw [← e, upd_same, List.map_append]; rfl, by rw [List.length_append, List.length_append, h2]; rfl, fun i u v a b => ?_⟩
  by_cases c : i < rs.length
  · rw [List.getElem?_append_left c] at a
    rw [List.getElem?_append_left (by rw [← h2]; exact c)] at b
    exact ⟨(h3 i u v a b).1, (h3 i u v a b).2.off (h3 i u v a b).1 ⟨_, h1⟩ k⟩
  · rw [List.getElem?_append_right (by omega)] at a
    rw [List.getElem?_append_right (by rw [← h2]; omega), ← h2] at b
    have e : i - rs.length = 0 := by
      have := (List.getElem?_eq_some_iff.mp a).1
      rw [List.length_singleton] at this
      omega
    rw [e] at a b
    cases a
    cases b
    exact ⟨nr, hr.off nr ⟨_, h1⟩ k⟩
def selW (m : Nat) (rs : List Addr) (ws : List (List (Int × Int))) : List (Option V) := List.zipWith (fun r w => if w.length = m then some (V.ref r) else none) rs ws
theorem sel_first {m : Nat} : ∀ {rs : List Addr} {ws : List (List (Int × Int))}, rs.length = ws.length → (∃ w ∈ ws, w.length = m) → ∃ (i : Nat) (r : Addr) (w : List (Int × Int)), rs[i]? = some r ∧ ws[i]? = some w ∧ w.length = m ∧ ((selW m rs ws).filterMap id)[0]? = some (V.ref r)
  | [], [], _, ⟨w, hw, _⟩ => by cases hw
  | [], _ :: _, h, _ => by cases h
  | _ :: _, [], h, _ => by cases h
  | r :: rs, w :: ws, h, ⟨v, hv, hm⟩ => by
    by_cases c : w.length = m
    · refine ⟨0, r, w, rfl, rfl, c, ?_⟩
      show (((if w.length = m then some (V.ref r) else none) :: selW m rs ws).filterMap id)[0]? = _
      rw [if_pos c]
      rfl
    · have hv' : v ∈ ws := by
        rcases List.mem_cons.mp hv with rfl | h
        · exact absurd hm c
        · exact h
      obtain ⟨i, r', w', h1, h2, h3, h4⟩ := sel_first (m := m) (Nat.succ.inj h) ⟨v, hv', hm⟩
      refine ⟨i + 1, r', w', h1, h2, h3, ?_⟩
      show (((if w.length = m then some (V.ref r) else none) :: selW m rs ws).filterMap id)[0]? = _
      rw [if_neg c]
      exact h4
theorem perm_two {α : Type} {a b : α} {l : List α} (h : l.Perm [a, b]) : l = [a, b] ∨ l = [b, a] := by
  match l, h.length_eq with
  | [c, d], _ =>
    have hc : c ∈ [a, b] := h.mem_iff.mp List.mem_cons_self
    rcases List.mem_cons.mp hc with rfl | hc
    · have := List.perm_singleton.mp (List.Perm.cons_inv h)
      left; rw [this]
    · rw [List.mem_singleton.mp hc] at h ⊢
      have h2 := h.trans (List.Perm.swap b a [])
      have := List.perm_singleton.mp (List.Perm.cons_inv h2)
      right; rw [this]
theorem eqv_two (a b c d : Int × Int) : PyData.eqv (.list [tupDt a, tupDt b]) (.list [tupDt c, tupDt d]) = decide (a = c ∧ b = d) := by
  show (((a.1 == c.1) && ((a.2 == c.2) && true)) && (((b.1 == d.1) && ((b.2 == d.2) && true)) && true)) = _
  rw [Bool.eq_iff_iff]
  simp only [Bool.and_eq_true, beq_iff_eq, decide_eq_true_eq, Prod.ext_iff]
  simp
theorem tups_shaped (a b : Int × Int) : SeqAt.shaped (.list [tupDt a, tupDt b]) = true := by
  have e : PyData.depth (.list [tupDt a, tupDt b]) ≤ 64 := by
    simp only [tupDt, PyData.depth, PyData.depthAll, depth_ints]
    omega
  show (true && decide (PyData.depth (.list [tupDt a, tupDt b]) ≤ 64)) = true
  rw [decide_eq_true e]
  rfl
theorem std_sorted {u v a b : Int × Int} (h : (u = a ∧ v = b) ∨ (u = b ∧ v = a)) (hs : prL u ≤ prL v) : ((u = (0, 1) ∧ v = (1, 0)) ↔ ((a = (0, 1) ∧ b = (1, 0)) ∨ (a = (1, 0) ∧ b = (0, 1)))) := by
  constructor
  · rintro ⟨rfl, rfl⟩
    rcases h with ⟨rfl, rfl⟩ | ⟨rfl, rfl⟩
    · exact .inl ⟨rfl, rfl⟩
    · exact .inr ⟨rfl, rfl⟩
  · intro k
    rcases h with ⟨rfl, rfl⟩ | ⟨rfl, rfl⟩ <;> rcases k with ⟨rfl, rfl⟩ | ⟨rfl, rfl⟩
    · exact ⟨rfl, rfl⟩
    · exact absurd hs (by decide)
    · exact absurd hs (by decide)
    · exact ⟨rfl, rfl⟩
def MatOk (x y : Int × Int) : Prop := (x.1 * y.2 - x.2 * y.1 = 1 ∨ x.1 * y.2 - x.2 * y.1 = -1) ∧ (x.1.natAbs < 2 ^ 80 ∧ x.2.natAbs < 2 ^ 80) ∧ y.1.natAbs < 2 ^ 80 ∧ y.2.natAbs < 2 ^ 80
/-- what a place must be that a way leads to -/
def PlOk (q : Int × Int) : Prop := (∃ y z : Int, y * q.1 + z * q.2 = 1) ∧ q.1.natAbs < 2 ^ 80 ∧ q.2.natAbs < 2 ^ 80
theorem PlOk.plc {q : Int × Int} (h : PlOk q) : PlOk (plc q) := by
  obtain ⟨⟨y, z, e⟩, b1, b2⟩ := h
  obtain ⟨a1, a2⟩ := plc_abs q
  obtain ⟨d, hd, hp⟩ := plc_sgn q
  have hdd : d * d = 1 := by rcases hd with rfl | rfl <;> rfl
  refine ⟨⟨y * d, z * d, by rw [hp]; dsimp only; grind⟩, by rw [a2]; exact b1, by rw [a1]; exact b2⟩
theorem PlOk.swp {q : Int × Int} (h : PlOk q) : PlOk (swp q) := by
  obtain ⟨⟨y, z, e⟩, b1, b2⟩ := h
  exact ⟨⟨z, y, by show z * q.2 + y * q.1 = 1; omega⟩, b2, b1⟩
theorem MatOk.fst {x y : Int × Int} (h : MatOk x y) : PlOk x := by
  obtain ⟨hd, b, _⟩ := h
  refine ⟨?_, b.1, b.2⟩
  rcases hd with z | z
  · exact ⟨y.2, -y.1, by grind⟩
  · exact ⟨-y.2, y.1, by grind⟩
theorem MatOk.snd {x y : Int × Int} (h : MatOk x y) : PlOk y := by
  obtain ⟨hd, _, b⟩ := h
  refine ⟨?_, b.1, b.2⟩
  rcases hd with z | z
  · exact ⟨-x.2, x.1, by grind⟩
  · exact ⟨x.2, -x.1, by grind⟩
local macro_rules | `(tactic| walk_at "go") => `(tactic| repeat (first | (with_reducible first | refine iteT ?_ | refine iteF ?_ | refine iteNtt ?_ | refine iteNff ?_ | refine iteET (by omega) ?_ | refine iteEF (by omega) ?_ | refine iteENT (by omega) ?_ | refine iteENF (by omega) ?_ | refine iteDT (by omega) ?_ | refine iteDF (by omega) ?_ | refine iteNT (by omega) ?_ | refine iteNF (by omega) ?_) | refine ⟨_, rfl, ?_⟩ | refine ⟨_, _, rfl, rfl, ?_⟩ | refine ⟨_, _, rfl, ?_⟩ | refine ⟨rfl, ?_⟩ | refine .inl ⟨_, rfl, ?_⟩ | refine .inr ⟨_, rfl, ?_⟩))
local macro_rules | `(tactic| walk_at "b") => `(tactic| try dsimp (config := { proj := false, iota := false, eta := false, zeta := false }) only)
section
variable {P : Program} {w : World} {K : PySem.W.Frag} {mg : Str → Option Value} {base : Heap}
def sp_least_way (K : PySem.W.Frag) : Sp := fun vs H Q _ => ∃ (p : Addr) (x y : Int × Int), vs = [.ref p] ∧ RowsIn H p [[x.1, x.2], [y.1, y.2]] ∧ MatOk x y ∧ ∀ H' r w, Same H H' → LeastW x y w → PairsN H H' r w → Q (.ref r) H'
theorem G_least_way (T : Top K mg) : FnOk P w K mg base CX0 3 T.f_least_way T.fd_least_way ["numbers"] (sp_least_way K) := by
  refine T.F_least_way.ok sc_least_way (fun vs H Q E h => by obtain ⟨p, x, y, rfl, _⟩ := h; rfl) (fun cdv A outer s H vs Q E hr h => ?_)
  obtain ⟨p, x, y, rfl, hR, hM, q⟩ := h
  refine ⟨_, PSs.nox (pss_cons (ps_setLc (i := 1) (own := [("line", 5)]) (g := gName 5) (tt := tYes) (by rfl) sc_least_way.nd rfl rfl (sw_true rfl rfl rfl (by decide +kernel)) (k_piL K rfl (pv 0)) (blkOk_by (own := [("line", 5)]) (N := N_least_way) (sc := defScope s_least_way) (by decide +kernel)) (fun _ _ _ _ _ => (pg_name (i := 5) sc_least_way.nd rfl (by first | exact Or.inl rfl | exact Or.inr rfl))) (fun _ _ _ _ _ => pts_nil) (fun _ _ _ _ _ => (pe_call (G_placed T) (hr.mono (by decide)) (by rfl) T.g_placed T.F_placed.kp T.b_placed .nil pass0 (pa_cons (pv 5) pa_nil))))
  (pss_cons (ps_if (pt_cmpR (k_eqD K rfl hr.units) (pe_callB (k_sortedU K rfl (hu65 hr)) (by rfl) T.n_sorted (by decide +kernel) (pa_cons (pv 1) pa_nil)) (pe_lst (pa_cons (pe_tup (pa_cons pe_int (pa_cons pe_int pa_nil))) (pa_cons (pe_tup (pa_cons pe_int (pa_cons pe_int pa_nil))) pa_nil))) (nomark _))
    (pss_one (ps_ret (pe_lst pa_nil)))
    pss_nil)
  (pss_cons (ps_setLc (i := 2) (own := [("end", 3)]) (g := gName 3) (tt := tYes) (by rfl) sc_least_way.nd rfl rfl (sw_true rfl rfl rfl (by decide +kernel)) (k_piL K rfl (pv 1)) (blkOk_by (own := [("end", 3)]) (N := N_least_way) (sc := defScope s_least_way) (by decide +kernel)) (fun _ _ _ _ _ => (pg_name (i := 3) sc_least_way.nd rfl (by first | exact Or.inl rfl | exact Or.inr rfl))) (fun _ _ _ _ _ => pts_nil) (fun _ _ _ _ _ => (pe_call (G_way_to T) (hr.mono (by decide)) (by rfl) T.g_way_to T.F_way_to.kp T.b_way_to .nil pass0 (pa_cons (pv 3) pa_nil))))
  (pss_cons (ps_for PassesOwn.never rfl (k_piL K rfl (pv 1)) (pg_name (i := 3) sc_least_way.nd rfl (by first | exact Or.inl rfl | exact Or.inr rfl))
    (pss_one (ps_expr (pe_bm PySem.F.plainAttrs_list PySem.F.slot_list_append PySem.F.type_list_append mt_append (pv 2) (pa_cons (pe_lc (own := [("top", 7), ("under", 8)]) (g := gTup K 2 (gCons (gName 7) (gCons (gName 8) (gNil)))) (tt := tYes) (by rfl) sc_least_way.nd (k_piL K rfl (pe_call (G_way_to T) (hr.mono (by decide)) (by rfl) T.g_way_to T.F_way_to.kp T.b_way_to .nil pass0 (pa_cons (pe_call (G_placed T) (hr.mono (by decide)) (by rfl) T.g_placed T.F_placed.kp T.b_placed .nil pass0 (pa_cons (pe_tup (pa_cons (pe_ix (k_ixT K rfl) (pv 3) pe_int (fun _ _ => rfl)) (pa_cons (pe_ix (k_ixT K rfl) (pv 3) pe_int (fun _ _ => rfl)) pa_nil))) pa_nil)) pa_nil))) (blkOk_by (own := [("top", 7), ("under", 8)]) (N := N_least_way) (sc := defScope s_least_way) (by decide +kernel)) (fun _ _ _ _ _ => (k_pgT K rfl (by rfl) (pgs_cons (pg_name (i := 7) sc_least_way.nd rfl (by first | exact Or.inl rfl | exact Or.inr rfl)) (pgs_cons (pg_name (i := 8) sc_least_way.nd rfl (by first | exact Or.inl rfl | exact Or.inr rfl)) pgs_nil)))) (fun _ _ _ _ _ => pts_nil) (fun _ _ _ _ _ => (pe_tup (pa_cons (pv 8) (pa_cons (pv 7) pa_nil))))) pa_nil)))))
  (pss_cons (ps_set (i := 4) sc_least_way.nd rfl (by first | exact Or.inl rfl | exact Or.inr rfl) (pe_callB (k_min K rfl rfl) (by rfl) T.n_min (by decide +kernel) (pa_cons (pe_lc (own := [("way", 6)]) (g := gName 6) (tt := tYes) (by rfl) sc_least_way.nd (k_piL K rfl (pv 2)) (blkOk_by (own := [("way", 6)]) (N := N_least_way) (sc := defScope s_least_way) (by decide +kernel)) (fun _ _ _ _ _ => (pg_name (i := 6) sc_least_way.nd rfl (by first | exact Or.inl rfl | exact Or.inr rfl))) (fun _ _ _ _ _ => pts_nil) (fun _ _ _ _ _ => (pe_callB (k_len K rfl) (by rfl) T.n_len (by decide +kernel) (pa_cons (pv 6) pa_nil)))) pa_nil)))
  (pss_one (ps_ret (pe_ix (k_ixL K rfl) (pe_lc (own := [("way", 6)]) (g := gName 6) (by rfl) sc_least_way.nd (k_piL K rfl (pv 2)) (blkOk_by (own := [("way", 6)]) (N := N_least_way) (sc := defScope s_least_way) (by decide +kernel)) (fun _ _ _ _ _ => (pg_name (i := 6) sc_least_way.nd rfl (by first | exact Or.inl rfl | exact Or.inr rfl))) (fun _ _ _ _ _ => (pts_one (pt_cmpR op_eq (pe_callB (k_len K rfl) (by rfl) T.n_len (by decide +kernel) (pa_cons (pv 6) pa_nil)) (pv 4) (nomark _)))) (fun _ _ _ _ _ => (pv 6))) pe_int (fun _ _ => rfl))))))))), ?_⟩
  obtain ⟨a, b, hp, ha, hb⟩ := rows2 hR
  have px := hM.fst
  have py := hM.snd
  refine ⟨_, rfl, p, rfl, ⟨_, .inl (.inl hp)⟩, fun D nD => ?_⟩
  refine lc_relL (K := K) (xs := [.ref a, .ref b]) (fun i v H' => ∃ t, v = .ref t ∧ t ≠ D ∧ H t = none ∧ H' t = some (.tup [.int (([plc x, plc y].getD i (0, 0)).1), .int (([plc x, plc y].getD i (0, 0)).2)])) nD (.inl (.inl hp)) (by rw [sizeLine_eq]; show 2 < _; decide) ?_ (fun x => rfl) ?_ ?_
  · rintro i v H1 H2 o ⟨t, rfl, tD, nt, ht⟩
    exact ⟨t, rfl, tD, nt, o _ _ tD ht⟩
  · intro i v H' zs hv s hD Qt qt
    have ex : ∃ z : Int × Int, PairH H' v z ∧ [plc x, plc y].getD i (0, 0) = plc z := by
      match i, hv with
      | 0, hv => cases hv; exact ⟨x, ⟨a, rfl, .inl (s _ _ ha)⟩, rfl⟩
      | 1, hv => cases hv; exact ⟨y, ⟨b, rfl, .inl (s _ _ hb)⟩, rfl⟩
    obtain ⟨z, hz, ez⟩ := ex
    refine ⟨_, rfl, v, z, rfl, hz, fun H2 t s2 nt ht => qt _ _ s2 ⟨t, rfl, (ne_of_none hD nt).symm, none_back s nt, ?_⟩⟩
    rw [ez]
    exact ht
  intro H1 ys s1 hD hyl hyR
  obtain ⟨t1, t2, rfl, hn1, h1, hn2, h2⟩ : ∃ t1 t2, ys = [.ref t1, .ref t2] ∧ H t1 = none ∧ H1 t1 = some (.tup [.int (plc x).1, .int (plc x).2]) ∧ H t2 = none ∧ H1 t2 = some (.tup [.int (plc y).1, .int (plc y).2]) := by
    match ys, hyl with
    | [u, v], _ =>
      obtain ⟨t1, rfl, _, n1, h1⟩ := hyR 0 u rfl
      obtain ⟨t2, rfl, _, n2, h2⟩ := hyR 1 v rfl
      exact ⟨t1, t2, rfl, n1, h1, n2, h2⟩
  clear hyR hyl
  dsimp only [gName]
  show tSeq (tIfS _ _ _) _ _ [some (V.ref p), some (V.ref D), none, none, none, none, none, none, none] _
  -- are they the ways themselves
  have ppx := px.plc
  have ppy := py.plc
  have nx := plc_nn x
  have ny := plc_nn y
  have qx : plc (plc x) = plc x := plc_idem x
  refine ⟨_, rfl, D, [(.ref t1, plc x), (.ref t2, plc y)], rfl, .inl (.inl hD), fun q hq => ?_, fun qs r hperm hsort nr => ?_⟩
  · rcases List.mem_cons.mp hq with rfl | hq
    · exact .tup (.inl (.inl h1)) (dp_ints (prL (plc x)))
    · rw [List.mem_singleton.mp hq]
      exact .tup (.inl (.inl h2)) (dp_ints (prL (plc y)))
  generalize e0 : upd _ r _ = H2
  obtain ⟨s2, hr⟩ := newH nr e0
  refine ⟨(by show 2 ≤ sizeLine; decide), fun z1 nz1 => ?_⟩
  generalize e0 : upd _ z1 _ = H3
  obtain ⟨s3, hz1⟩ := newH nz1 e0
  refine ⟨(by show 2 ≤ sizeLine; decide), fun z2 nz2 => ?_⟩
  generalize e0 : upd _ z2 _ = H4
  obtain ⟨s4, hz2⟩ := newH nz2 e0
  refine ⟨(by show 2 ≤ sizeLine; decide), fun z3 nz3 => ?_⟩
  generalize e0 : upd _ z3 _ = H5
  obtain ⟨s5, hz3⟩ := newH nz3 e0
  have s15 := s2.trans (s3.trans (s4.trans s5))
  obtain ⟨u, v, huv, hle, hdl⟩ : ∃ u v : Int × Int, ((u = plc x ∧ v = plc y) ∨ (u = plc y ∧ v = plc x)) ∧ prL u ≤ prL v ∧ Dt H5 (.ref r) (.list [tupDt u, tupDt v]) := by
    have d1 := s15 _ _ h1
    have d2 := s15 _ _ h2
    have hr5 := (s3.trans (s4.trans s5)) _ _ hr
    rcases perm_two hperm with rfl | rfl
    · refine ⟨plc x, plc y, .inl ⟨rfl, rfl⟩, ?_, .lst hr5 (.cons (.tup d1 (DtA.ints (prL (plc x)))) (.cons (.tup d2 (DtA.ints (prL (plc y)))) .nil))⟩
      exact (List.pairwise_cons.mp hsort).1 _ List.mem_cons_self
    · refine ⟨plc y, plc x, .inr ⟨rfl, rfl⟩, ?_, .lst hr5 (.cons (.tup d2 (DtA.ints (prL (plc y)))) (.cons (.tup d1 (DtA.ints (prL (plc x)))) .nil))⟩
      exact (List.pairwise_cons.mp hsort).1 _ List.mem_cons_self
  have hdr : Dt H5 (.ref z3) (.list [tupDt (0, 1), tupDt (1, 0)]) := .lst hz3 (.cons (.tup ((s4.trans s5) _ _ hz1) (DtA.ints [0, 1])) (.cons (.tup (s5 _ _ hz2) (DtA.ints [1, 0])) .nil))
  refine d_eq hdl hdr (tups_shaped _ _) (tups_shaped _ _) ⟨_, rfl, ?_⟩
  have hq : decide (u = (0, 1) ∧ v = (1, 0)) = decide (Std x y) := decide_eq_decide.mpr (std_sorted huv hle)
  rw [eqv_two, hq]
  have s05 := s1.trans s15
  by_cases hstd : Std x y
  · rw [decide_eq_true hstd]
    refine iteT ⟨(by show 0 ≤ sizeLine; decide), fun e ne => ?_⟩
    generalize e0 : upd _ e _ = H6
    obtain ⟨s6, he⟩ := newH ne e0
    exact q _ e [] (s05.trans s6) (.inl ⟨hstd, rfl⟩) ⟨[], he, rfl, none_back s05 ne, fun i t q h => by cases h⟩
  rw [decide_eq_false hstd]
  refine iteF ?_
  simp only [tNext]
  have hD5 := s15 _ _ hD
  have h15 := s15 _ _ h1
  have h25 := s15 _ _ h2
  clear hdl hdr hz3 hz2 hz1 hr hle huv hsort hperm
  -- two ways
  refine ⟨_, rfl, D, rfl, ⟨_, .inl (.inl hD5)⟩, fun E nE => ?_⟩
  refine lc_relL (K := K) (xs := [.ref t1, .ref t2]) (fun i v H' => ∃ r, v = .ref r ∧ PairsN H (rs [E] H') r ([wayTo (plc x), wayTo (plc y)].getD i [])) nE (.inl (.inl hD5)) (by rw [sizeLine_eq]; show 2 < _; decide) ?_ (fun x => rfl) ?_ ?_
  · rintro i v H1 H2 o ⟨r, rfl, hr⟩
    exact ⟨r, rfl, hr.same (But.sta o)⟩
  · intro i v H' zs hv s hE Qt qt
    have ex : ∃ (t : Addr) (z : Int × Int), v = .ref t ∧ H' t = some (.tup [.int z.1, .int z.2]) ∧ PlOk z ∧ 0 ≤ z.2 ∧ [wayTo (plc x), wayTo (plc y)].getD i [] = wayTo z := by
      match i, hv with
      | 0, hv => cases hv; exact ⟨t1, plc x, rfl, s _ _ h15, ppx, nx, rfl⟩
      | 1, hv => cases hv; exact ⟨t2, plc y, rfl, s _ _ h25, ppy, ny, rfl⟩
    obtain ⟨t, z, rfl, ht, hz, hz0, ez⟩ := ex
    refine ⟨_, rfl, t, z, rfl, ht, hz0, hz.1, hz.2.1, hz.2.2, fun H2 r s2 hr => qt _ _ s2 ⟨r, rfl, ?_⟩⟩
    rw [ez]
    exact (hr.mask ⟨_, hE⟩).old (s05.trans s)
  intro H6 ys s6 hE hyl hyR
  have hW6 : WaysN H H6 E [wayTo (plc x), wayTo (plc y)] := by
    match ys, hyl with
    | [u, v], _ =>
      obtain ⟨r1, rfl, k1⟩ := hyR 0 u rfl
      obtain ⟨r2, rfl, k2⟩ := hyR 1 v rfl
      refine ⟨[r1, r2], hE, rfl, fun i r w hi hw => ?_⟩
      match i, hi, hw with
      | 0, hi, hw => cases hi; cases hw; exact k1.bare
      | 1, hi, hw => cases hi; cases hw; exact k2.bare
  clear hyR hyl hE
  have s06 := s05.trans s6
  have nEH : H E = none := none_back s05 nE
  have hD6 := s6 _ _ hD5
  dsimp only [gName]
  show tSeq (tFor _ _ _) _ _ [some (V.ref p), some (V.ref D), some (V.ref E), none, none, none, none, none, none] _
  -- two more, the other way about
  have DE : D ≠ E := fun z => by rw [← z, hD5] at nE; cases nE
  refine ⟨_, rfl, D, rfl, ⟨_, .inl (.inl hD6)⟩, ?_⟩
  refine for_list (K := K) (a := D) (xs := [.ref t1, .ref t2]) (fun i σ HA => ∃ v3 : Option V, σ = [some (.ref p), some (.ref D), some (.ref E), v3, none, none, none, none, none] ∧ Off1 E H6 HA ∧ WaysN H HA E ([wayTo (plc x), wayTo (plc y)] ++ [(wayTo (plc (swp (plc x)))).map swp, (wayTo (plc (swp (plc y)))).map swp].take i)) ⟨none, rfl, fun b o _ h => h, hW6⟩ (fun i σ HA _ ⟨_, _, k, _⟩ => .inl (.inl (k _ _ DE hD6))) ?_ ?_
  · rintro i v σ HA hv ⟨v3, rfl, kA, hWA⟩
    have ex : ∃ (t : Addr) (z : Int × Int), v = .ref t ∧ HA t = some (.tup [.int z.1, .int z.2]) ∧ PlOk z ∧ [(wayTo (plc (swp (plc x)))).map swp, (wayTo (plc (swp (plc y)))).map swp][i]? = some ((wayTo (plc (swp z))).map swp) := by
      have ne : ∀ {t : Addr} {ys}, H5 t = some (.tup ys) → t ≠ E := fun h z => by rw [z, nE] at h; cases h
      match i, hv with
      | 0, hv => cases hv; exact ⟨t1, plc x, rfl, kA _ _ (ne h15) (s6 _ _ h15), ppx, rfl⟩
      | 1, hv => cases hv; exact ⟨t2, plc y, rfl, kA _ _ (ne h25) (s6 _ _ h25), ppy, rfl⟩
    obtain ⟨t, z, rfl, ht, hz, ez⟩ := ex
    rw [List.take_add_one, ez]
    dsimp only [gName]
    show tDrop _ _ [some (V.ref p), some (V.ref D), some (V.ref E), some (V.ref t), none, none, none, none, none] _
    obtain ⟨rs', hrs, hrl, _⟩ := id hWA
    have sHA : Same H HA := fun b o h => kA _ _ (fun z => by rw [z, nEH] at h; cases h) (s06 _ _ h)
    refine ⟨_, rfl, .inl ⟨rfl, _, .inl (.inl hrs)⟩, ?_⟩
    refine ⟨_, rfl, t, _, _, _, rfl, rfl, .inl (.inl ht), atI_nat (j := 1) rfl, _, rfl, t, _, _, _, rfl, rfl, .inl (.inl ht), atI_nat (j := 0) rfl, (by show 2 ≤ sizeLine; decide), fun tq ntq => ?_⟩
    generalize e0 : upd _ tq _ = HB
    obtain ⟨sB, htq⟩ := newH ntq e0
    refine ⟨.ref tq, swp z, rfl, ⟨tq, rfl, .inr htq⟩, fun HC tr sC ntr htr => ?_⟩
    have hpz := hz.swp.plc
    refine ⟨tr, plc (swp z), rfl, htr, plc_nn _, hpz.1, hpz.2.1, hpz.2.2, fun HE r sE hPr => ?_⟩
    have sAE := sB.trans (sC.trans sE)
    obtain ⟨ts, hr, htl, hnr, hti⟩ := id hPr
    have hw81 := wayTo_81 (plc_nn (swp z)) hpz.2.2
    refine ⟨r, rfl, ⟨_, .inl (.inl hr)⟩, fun L nL => ?_⟩
    refine lc_list (K := K) (a := r) (xs := ts.map V.ref) (fun i H' => Same HE H' ∧ ∃ us : List Addr, H' L = some (.lst (us.map V.ref)) ∧ us.length = i ∧ ∀ (j : Nat) (t : Addr) (q : Int × Int), us[j]? = some t → ((wayTo (plc (swp z))).map swp)[j]? = some q → H t = none ∧ H' t = some (.tup [.int q.1, .int q.2])) ⟨same_upd nL, [], upd_same, rfl, fun j t q h => by cases h⟩ (fun i H' _ k => .inl (.inl (k.1 _ _ hr))) ?_ ?_
    · rintro i v H' hv ⟨sH, us, hL, hul, hui⟩
      rw [List.getElem?_map] at hv
      obtain ⟨t', ht', rfl⟩ := Option.map_eq_some_iff.mp hv
      obtain ⟨q', hq'⟩ : ∃ q', (wayTo (plc (swp z)))[i]? = some q' := ⟨_, List.getElem?_eq_getElem (by rw [← htl]; exact (List.getElem?_eq_some_iff.mp ht').1)⟩
      obtain ⟨_, htt⟩ := hti i t' q' ht' hq'
      refine ⟨t', _, rfl, .inl (.inl (sH _ _ htt)), rfl, _, _, rfl, _, _, rfl, rfl, rfl, ?_⟩
      unfold tYes
      dsimp only
      rw [if_pos (show true = true from rfl)]
      refine ⟨_, rfl, _, rfl, (by show 2 ≤ sizeLine; decide), fun u nu => ?_⟩
      generalize e0 : upd _ u _ = H8
      obtain ⟨s8, h8⟩ := newH nu e0
      have hi81 : i < 81 := by have := (List.getElem?_eq_some_iff.mp hq').1; omega
      refine ⟨us.map V.ref, s8 _ _ hL, by rw [List.length_map, hul, sizeLine_eq]; omega, fun b o h => ?_, us ++ [u], by rw [upd_same, List.map_append]; rfl, by rw [List.length_append, hul]; rfl, fun j t q hj hq => ?_⟩
      · rw [upd_ne fun z => by rw [z, nL] at h; cases h]
        exact s8 _ _ (sH _ _ h)
      · by_cases d : j < us.length
        · rw [List.getElem?_append_left d] at hj
          obtain ⟨a1, a2⟩ := hui j t q hj hq
          exact ⟨a1, by rw [upd_ne fun z => by rw [z, hL] at a2; cases a2]; exact s8 _ _ a2⟩
        · rw [List.getElem?_append_right (by omega)] at hj
          have e : j - us.length = 0 := by
            have := (List.getElem?_eq_some_iff.mp hj).1
            rw [List.length_singleton] at this
            omega
          have ej : j = i := by omega
          rw [e] at hj
          cases hj
          rw [ej, List.getElem?_map, hq'] at hq
          cases hq
          exact ⟨none_back (sHA.trans (sAE.trans sH)) nu, by rw [upd_ne fun z => by rw [z, s8 _ _ hL] at h8; cases h8]; exact h8⟩
    rintro H7 ⟨s7, us, hL, hul, hui⟩
    have sA7 := sAE.trans s7
    have hE7 := sA7 _ _ hrs
    have hPL : PairsN H H7 L ((wayTo (plc (swp z))).map swp) := ⟨us, hL, by rw [hul, List.length_map, List.length_map, htl], none_back (sHA.trans sAE) nL, hui⟩
    have hi2 : i < 2 := by have := (List.getElem?_eq_some_iff.mp hv).1; exact this
    refine ⟨E, _, _, rfl, rfl, hE7, ?_, ?_⟩
    · rw [List.length_map, hrl, List.length_append, List.length_take, sizeLine_eq]
      show 2 + min i 2 < _
      omega
    refine ⟨_, rfl, fun b o nb h => by rw [upd_ne nb]; exact sA7 _ _ (kA _ _ nb h), ?_⟩
    have := (hWA.same sA7).snoc (r := L) (w := (wayTo (plc (swp z))).map swp) (fun z => by rw [z, (sAE _ _ hrs)] at nL; cases nL) hPL (fun ys hy => by rw [hE7] at hy; cases hy; rfl)
    rw [List.append_assoc] at this
    exact this
  · rintro σ HA ⟨v3, rfl, kA, hWA⟩
    have sHA : Same H HA := fun b o h => kA _ _ (fun z => by rw [z, nEH] at h; cases h) (s06 _ _ h)
    have hWA : WaysN H HA E (waysF x y) := hWA
    obtain ⟨rs', hrs, hrl, hri⟩ := id hWA
    have hr4 : rs'.length = 4 := hrl
    dsimp only
    show tSeq (tAsg _ _) _ _ [some (V.ref p), some (V.ref D), some (V.ref E), v3, none, none, none, none, none] _
    have lenAt : ∀ {i : Nat} {v : V}, (rs'.map V.ref)[i]? = some v → ∃ (r : Addr) (w : List (Int × Int)), v = V.ref r ∧ rs'[i]? = some r ∧ (waysF x y)[i]? = some w ∧ PairsN H HA r w := fun {i v} h => by
      rw [List.getElem?_map] at h
      obtain ⟨r, hr, rfl⟩ := Option.map_eq_some_iff.mp h
      obtain ⟨w, hw⟩ : ∃ w, (waysF x y)[i]? = some w := ⟨_, List.getElem?_eq_getElem (by rw [← hrl]; exact (List.getElem?_eq_some_iff.mp hr).1)⟩
      exact ⟨r, w, rfl, hr, hw, (hri i r w hr hw).2⟩
    refine ⟨_, rfl, E, rfl, ⟨_, .inl (.inl hrs)⟩, fun L nL => ?_⟩
    refine lc_mapL (K := K) (a := E) (xs := rs'.map V.ref) (((waysF x y).map fun w => ((w.length : Nat) : Int)).map V.int) nL (.inl (.inl hrs)) (by rw [List.length_map, List.length_map, List.length_map, hr4]; rfl) (by rw [List.length_map, hr4, sizeLine_eq]; decide) (fun x => rfl) ?_ ?_
    · intro i v u H' hv hu s Qt qt
      obtain ⟨r, w, rfl, _, hw, hP⟩ := lenAt hv
      rw [List.getElem?_map, List.getElem?_map, hw] at hu
      cases hu
      obtain ⟨ts, h1, h2, _⟩ := hP
      refine ⟨_, rfl, r, _, rfl, .inl (.inl (.inl (s _ _ h1))), ?_⟩
      rw [List.length_map, h2]
      exact qt _ (Same.refl _)
    intro HB sB hL
    refine ⟨L, _, rfl, .inl (.inl hL), by rw [List.length_map]; show 0 < 4; decide, fun M hM hle => ?_⟩
    obtain ⟨w0, hw0, hMw⟩ := List.mem_map.mp hM
    have hmin : ∀ v ∈ waysF x y, w0.length ≤ v.length := fun v hv => by
      have := hle _ (List.mem_map.mpr ⟨v, hv, rfl⟩)
      omega
    subst hMw
    dsimp only [gName]
    show tRet _ _ [some (V.ref p), some (V.ref D), some (V.ref E), v3, some (V.int ((w0.length : Nat) : Int)), none, none, none, none] _
    have hrsB := sB _ _ hrs
    refine ⟨_, rfl, E, rfl, ⟨_, .inl (.inl hrsB)⟩, fun L2 nL2 => ?_⟩
    refine lc_selL (K := K) (a := E) (xs := rs'.map V.ref) (selW w0.length rs' (waysF x y)) nL2 (.inl (.inl hrsB)) (by unfold selW; rw [List.length_zipWith, List.length_map, hr4]; rfl) (by rw [List.length_map, hr4, sizeLine_eq]; decide) (fun x => rfl) ?_ ?_
    · intro i v o H' hv ho s Qt qt
      obtain ⟨r, w, rfl, hr, hw, hP⟩ := lenAt hv
      unfold selW at ho
      rw [List.getElem?_zipWith, hr, hw] at ho
      cases ho
      obtain ⟨ts, h1, h2, _⟩ := hP
      refine ⟨_, rfl, r, _, rfl, .inl (.inl (.inl (s _ _ (sB _ _ h1)))), _, rfl, rfl, _, rfl, ?_⟩
      rw [List.length_map, h2]
      by_cases c : w.length = w0.length
      · rw [if_pos c] at qt
        rw [c, decide_eq_true rfl]
        exact iteT ⟨_, rfl, qt _ (Same.refl _)⟩
      · rw [if_neg c] at qt
        rw [show decide (V.int ((w.length : Nat) : Int) = V.int ((w0.length : Nat) : Int)) = false from decide_eq_false fun z => c (by have := V.int.inj z; omega)]
        exact iteF (qt _ (Same.refl _))
    intro HC sC hL2
    obtain ⟨i, r, w, h1, h2, h3, h4⟩ := sel_first (m := w0.length) hrl ⟨w0, hw0, rfl⟩
    refine ⟨L2, _, _, _, rfl, rfl, .inl (.inl hL2), atI_nat (j := 0) h4, ?_⟩
    have hP := (hri i r w h1 h2).2.same (sB.trans sC)
    exact q _ r w (sHA.trans (sB.trans sC)) (.inr ⟨hstd, List.mem_of_getElem? h2, fun v hv => by rw [h3]; exact hmin v hv⟩) hP
def sp_fewest_lifts (K : PySem.W.Frag) : Sp := fun vs H Q _ => ∃ (p : Addr) (x y : Int × Int), vs = [.ref p] ∧ RowsIn H p [[x.1, x.2], [y.1, y.2]] ∧ MatOk x y ∧ ∀ H' w, Same H H' → LeastW x y w → Q (.int (w.length : Nat)) H'
theorem G_fewest_lifts (T : Top K mg) : FnOk P w K mg base CX0 5 T.f_fewest_lifts T.fd_fewest_lifts ["numbers"] (sp_fewest_lifts K) := by
  refine T.F_fewest_lifts.ok sc_fewest_lifts (fun vs H Q E h => by obtain ⟨p, x, y, rfl, _⟩ := h; rfl) (fun cdv A outer s H vs Q E hr h => ?_)
  obtain ⟨p, x, y, rfl, hR, hM, q⟩ := h
  refine ⟨_, PSs.nox (pss_cons (ps_expr (pe_call (G_check_matrix T) (hr.mono (by decide)) (by rfl) T.g_check_matrix T.F_check_matrix.kp T.b_check_matrix .nil pass0 (pa_cons (pv 0) pa_nil)))
  (pss_one (ps_ret (pe_callB (k_len K rfl) (by rfl) T.n_len (by decide +kernel) (pa_cons (pe_call (G_least_way T) (hr.mono (by decide)) (by rfl) T.g_least_way T.F_least_way.kp T.b_least_way .nil pass0 (pa_cons (pv 0) pa_nil)) pa_nil))))), ?_⟩
  obtain ⟨hd, ⟨b1, b2⟩, b3, b4⟩ := id hM
  have up : ∀ {z : Int}, z.natAbs < 2 ^ 80 → z.natAbs < 2 ^ 200 := fun h => Nat.lt_trans h p200
  refine ⟨_, rfl, p, x, y, rfl, hR, cmx (up b1) (up b4), cmx (up b2) (up b3), hd, fun H1 s1 => ?_⟩
  refine ⟨_, rfl, p, x, y, rfl, hR.same s1, hM, fun H2 r w s2 hw hP => ?_⟩
  obtain ⟨ts, h1, h2, _⟩ := hP
  refine ⟨r, _, rfl, .inl (.inl (.inl h1)), ?_⟩
  rw [List.length_map, h2]
  exact q _ w (s1.trans s2) hw
end
end My

namespace My
/-! ### how many lifts: of kin, of steep rows -/
def fewF (x y : Int × Int) : Nat := if Std x y then 0 else 1 + min (min (lenL x.2.natAbs x.1) (lenL y.2.natAbs y.1)) (min (lenL x.1.natAbs x.2) (lenL y.1.natAbs y.2))
theorem swp_len (x : Int × Int) : (wayTo (plc (swp (plc x)))).length = 1 + lenL x.1.natAbs x.2 := by
  rw [wayTo_len (plc_nn _), plc_len]
  obtain ⟨a1, a2⟩ := plc_abs x
  show 1 + lenL (plc x).1.natAbs (plc x).2 = _
  rw [a2]
  obtain ⟨e, he, h⟩ := plc_sgn x
  rw [h]
  rcases he with rfl | rfl
  · show 1 + lenL _ (1 * x.2) = _
    rw [Int.one_mul]
  · show 1 + lenL _ (-1 * x.2) = _
    rw [show -1 * x.2 = -x.2 by omega, lenL_neg]
theorem least_few {x y : Int × Int} {w : List (Int × Int)} (h : LeastW x y w) : w.length = fewF x y := by
  unfold fewF
  rcases h with ⟨h, rfl⟩ | ⟨h, hw, hle⟩
  · rw [if_pos h]; rfl
  · rw [if_neg h]
    have e1 : (wayTo (plc x)).length = 1 + lenL x.2.natAbs x.1 := by rw [wayTo_len (plc_nn _), plc_len]
    have e2 : (wayTo (plc y)).length = 1 + lenL y.2.natAbs y.1 := by rw [wayTo_len (plc_nn _), plc_len]
    have e3 : ((wayTo (plc (swp (plc x)))).map swp).length = 1 + lenL x.1.natAbs x.2 := by rw [List.length_map, swp_len]
    have e4 : ((wayTo (plc (swp (plc y)))).map swp).length = 1 + lenL y.1.natAbs y.2 := by rw [List.length_map, swp_len]
    have h1 := hle (wayTo (plc x)) (by unfold waysF; simp)
    have h2 := hle (wayTo (plc y)) (by unfold waysF; simp)
    have h3 := hle ((wayTo (plc (swp (plc x)))).map swp) (by unfold waysF; simp)
    have h4 := hle ((wayTo (plc (swp (plc y)))).map swp) (by unfold waysF; simp)
    rw [e1] at h1
    rw [e2] at h2
    rw [e3] at h3
    rw [e4] at h4
    unfold waysF at hw
    simp only [List.mem_cons, List.not_mem_nil, or_false] at hw
    rcases hw with rfl | rfl | rfl | rfl
    · rw [e1] at *; omega
    · rw [e2] at *; omega
    · rw [e3] at *; omega
    · rw [e4] at *; omega
theorem plc_x {q : Int × Int} : plc q = (1, 0) ↔ (q.1 = 1 ∨ q.1 = -1) ∧ q.2 = 0 := by
  unfold plc
  by_cases c : q.2 > 0 ∨ q.2 = 0 ∧ q.1 > 0
  · rw [if_pos c, Prod.ext_iff]
    dsimp only
    omega
  · rw [if_neg c, Prod.ext_iff]
    dsimp only
    omega
theorem plc_y {q : Int × Int} : plc q = (0, 1) ↔ q.1 = 0 ∧ (q.2 = 1 ∨ q.2 = -1) := by
  unfold plc
  by_cases c : q.2 > 0 ∨ q.2 = 0 ∧ q.1 > 0
  · rw [if_pos c, Prod.ext_iff]
    dsimp only
    omega
  · rw [if_neg c, Prod.ext_iff]
    dsimp only
    omega
theorem few_of {x y x' y' : Int × Int} (hs : Std x y ↔ Std x' y') (hm : min (min (lenL x.2.natAbs x.1) (lenL y.2.natAbs y.1)) (min (lenL x.1.natAbs x.2) (lenL y.1.natAbs y.2)) = min (min (lenL x'.2.natAbs x'.1) (lenL y'.2.natAbs y'.1)) (min (lenL x'.1.natAbs x'.2) (lenL y'.1.natAbs y'.2))) : fewF x y = fewF x' y' := by
  unfold fewF
  by_cases c : Std x y
  · rw [if_pos c, if_pos (hs.mp c)]
  · rw [if_neg c, if_neg fun z => c (hs.mpr z), hm]
theorem few_swap (x y : Int × Int) : fewF y x = fewF x y := few_of (by unfold Std; exact ⟨fun h => h.elim (fun z => .inr ⟨z.2, z.1⟩) fun z => .inl ⟨z.2, z.1⟩, fun h => h.elim (fun z => .inr ⟨z.2, z.1⟩) fun z => .inl ⟨z.2, z.1⟩⟩) (by omega)
theorem few_cols (x y : Int × Int) : fewF (swp x) (swp y) = fewF x y := few_of (by unfold Std swp; simp only [plc_x, plc_y]; omega) (by unfold swp; dsimp only; omega)
theorem few_negx (x y : Int × Int) : fewF (-x.1, -x.2) y = fewF x y := few_of (by unfold Std; simp only [plc_x, plc_y]; omega) (by dsimp only; rw [lenL_neg, lenL_neg, Int.natAbs_neg, Int.natAbs_neg])
theorem few_negy (x y : Int × Int) : fewF x (-y.1, -y.2) = fewF x y := by rw [← few_swap, few_negx, few_swap]
theorem few_negc (x y : Int × Int) : fewF (x.1, -x.2) (-y.1, y.2) = fewF x y := few_of (by unfold Std; simp only [plc_x, plc_y]; omega) (by dsimp only; rw [lenL_neg, lenL_neg, Int.natAbs_neg, Int.natAbs_neg])
theorem few_turn {a b c d : Int} (h : a * d - b * c = 1 ∨ a * d - b * c = -1) : fewF (a, c) (b, d) = fewF (a, b) (c, d) := by
  have e1 := inv_eq (a := a) (b := b) (c := c) (d := d) h
  have e2 := inv_eq (a := a) (b := c) (c := b) (d := d) (by rw [Int.mul_comm c b]; exact h)
  have e3 := inv_eq (a := b) (b := a) (c := d) (d := c) (by omega)
  have e4 := inv_eq (a := c) (b := d) (c := a) (d := b) (by rw [Int.mul_comm c b, Int.mul_comm d a]; omega)
  exact few_of (by unfold Std; simp only [plc_x, plc_y]; omega) (by dsimp only; omega)
theorem few_back {a b c d : Int} {s : Int} (hs : s = 1 ∨ s = -1) (h : a * d - b * c = 1 ∨ a * d - b * c = -1) : fewF (d * s, 0 - b * s) (0 - c * s, a * s) = fewF (a, b) (c, d) := by
  have e : fewF (d, -b) (-c, a) = fewF (d, b) (c, a) := few_negc (d, b) (c, a)
  have e2 : fewF (d, b) (c, a) = fewF (a, b) (c, d) := by
    rw [← few_turn h, ← few_swap, ← few_cols]
    rfl
  rcases hs with rfl | rfl
  · rw [show (d * 1, 0 - b * 1) = (d, -b) by congr 1 <;> omega, show (0 - c * 1, a * 1) = (-c, a) by congr 1 <;> omega, e, e2]
  · rw [show (d * -1, 0 - b * -1) = (-(d, -b).1, -(d, -b).2) by congr 1 <;> omega, few_negx, show (0 - c * -1, a * -1) = (-(-c, a).1, -(-c, a).2) by congr 1 <;> omega, few_negy, e, e2]
/-! steep rows -/
def goL : List Int → Int × Int → Int × Int → (Int × Int) × (Int × Int)
  | [], u, v => (u, v)
  | w :: ws, u, v => goL ws v (u.1 + w * v.1, u.2 + w * v.2)
theorem goL_snoc (w : Int) : ∀ (ws : List Int) (u v : Int × Int), goL (ws ++ [w]) u v = ((goL ws u v).2, ((goL ws u v).1.1 + w * (goL ws u v).2.1, (goL ws u v).1.2 + w * (goL ws u v).2.2))
  | [], u, v => rfl
  | x :: ws, u, v => goL_snoc w ws v _
theorem goL_lin : ∀ (ws : List Int) (u v : Int × Int), goL ws u v = (((cfm ws).2.2 * u.1 + (cfm ws).2.1 * v.1, (cfm ws).2.2 * u.2 + (cfm ws).2.1 * v.2), ((cfm ws).1.2 * u.1 + (cfm ws).1.1 * v.1, (cfm ws).1.2 * u.2 + (cfm ws).1.1 * v.2))
  | [], u, v => by
    show (u, v) = ((1 * u.1 + 0 * v.1, 1 * u.2 + 0 * v.2), (0 * u.1 + 1 * v.1, 0 * u.2 + 1 * v.2))
    simp
  | w :: ws, u, v => by
    show goL ws v (u.1 + w * v.1, u.2 + w * v.2) = _
    rw [goL_lin ws]
    show _ = (((cfm ws).2.1 * u.1 + (w * (cfm ws).2.1 + (cfm ws).2.2) * v.1, (cfm ws).2.1 * u.2 + (w * (cfm ws).2.1 + (cfm ws).2.2) * v.2), ((cfm ws).1.1 * u.1 + (w * (cfm ws).1.1 + (cfm ws).1.2) * v.1, (cfm ws).1.1 * u.2 + (w * (cfm ws).1.1 + (cfm ws).1.2) * v.2))
    generalize (cfm ws).1.1 = p
    generalize (cfm ws).1.2 = q
    generalize (cfm ws).2.1 = p'
    generalize (cfm ws).2.2 = q'
    dsimp only
    congr 1 <;> congr 1 <;> grind
theorem steep_len : ∀ ws : List Int, (∀ w ∈ ws, 3 ≤ w.natAbs) → 2 * (cfm ws).1.2.natAbs < (cfm ws).1.1.natAbs ∧ lenL (cfm ws).1.2.natAbs (cfm ws).1.1 = ws.length
  | [], _ => ⟨by decide, rfl⟩
  | w :: ws, h => by
    obtain ⟨i1, i2⟩ := steep_len ws fun v hv => h v (List.mem_cons_of_mem _ hv)
    have hw := h w List.mem_cons_self
    show 2 * (cfm ws).1.1.natAbs < (w * (cfm ws).1.1 + (cfm ws).1.2).natAbs ∧ lenL (cfm ws).1.1.natAbs (w * (cfm ws).1.1 + (cfm ws).1.2) = ws.length + 1
    generalize (cfm ws).1.1 = p at *
    generalize (cfm ws).1.2 = q at *
    have h3 : 3 * p.natAbs ≤ (w * p).natAbs := by rw [Int.natAbs_mul]; exact Nat.mul_le_mul_right _ hw
    refine ⟨by omega, ?_⟩
    have e : lenL p.natAbs (w * p + q) = lenL p.natAbs q := by
      rcases Int.natAbs_eq p with z | z
      · have : w * p + q = q + w * (p.natAbs : Int) := by rw [← z]; omega
        rw [this, lenL_add]
      · have : w * p + q = q + (-w) * (p.natAbs : Int) := by
          have : (p.natAbs : Int) = -p := by omega
          rw [this]; grind
        rw [this, lenL_add]
    rw [e, ← lenL_abs q, lenL_eq (by omega), dst_low (by omega) (by omega), lenL_abs, i2]
    omega
theorem steep_other {ws : List Int} (h : ∀ w ∈ ws, 3 ≤ w.natAbs) : lenL (cfm ws).1.1.natAbs (cfm ws).1.2 = ws.length + 1 := by
  obtain ⟨h1, h2⟩ := steep_len ws h
  rw [← lenL_abs (cfm ws).1.2, lenL_eq (by omega), dst_low (by omega) (by omega), lenL_abs, h2]
  omega
theorem few_steep {ws : List Int} (h : ∀ w ∈ ws, 3 ≤ w.natAbs) {u v : Int × Int} (huv : (u = (1, 0) ∧ v = (0, 1)) ∨ (u = (0, 1) ∧ v = (1, 0))) : fewF (goL ws u v).1 (goL ws u v).2 = ws.length := by
  -- the columns the other way about
  have both : fewF (goL ws u v).1 (goL ws u v).2 = fewF ((cfm ws).2.1, (cfm ws).2.2) ((cfm ws).1.1, (cfm ws).1.2) := by
    rw [goL_lin]
    rcases huv with ⟨rfl, rfl⟩ | ⟨rfl, rfl⟩
    · rw [← few_cols]
      congr 1 <;> (unfold swp; simp)
    · congr 1 <;> simp
  rw [both]
  rcases List.eq_nil_or_concat ws with rfl | ⟨ws', w, rfl⟩
  · decide
  · rw [List.concat_eq_append] at *
    have h' : ∀ w ∈ ws', 3 ≤ w.natAbs := fun z hz => h z (List.mem_append_left _ hz)
    have a1 := steep_len _ h
    have a2 := steep_other h
    have b1 := steep_len _ h'
    have b2 := steep_other h'
    have e : (cfm (ws' ++ [w])).2 = (cfm ws').1 := by rw [cfm_app]
    rw [e]
    rw [List.length_append] at *
    unfold fewF
    have hns : ¬ Std ((cfm ws').1.1, (cfm ws').1.2) ((cfm (ws' ++ [w])).1.1, (cfm (ws' ++ [w])).1.2) := fun z => by
      have h3 := h w (List.mem_append_right _ List.mem_cons_self)
      have hp : (cfm (ws' ++ [w])).1.1.natAbs ≤ 1 := by
        unfold Std at z
        simp only [plc_x, plc_y] at z
        omega
      have e2 : lenL (cfm (ws' ++ [w])).1.2.natAbs (cfm (ws' ++ [w])).1.1 = 0 := by
        have : (cfm (ws' ++ [w])).1.2 = 0 := by omega
        rw [this]
        rfl
      rw [e2] at a1
      have := a1.2
      simp at this
    rw [if_neg hns]
    dsimp only
    rw [a1.2, a2, b1.2, b2]
    show 1 + min (min ws'.length (ws'.length + 1)) (min (ws'.length + 1) (ws'.length + 1 + 1)) = ws'.length + 1
    omega
end My

namespace My
/-! ### lifts along a way -/
def lnM (la lb : Int × Int) : List (List Int) := [[la.1, la.2], [lb.1, lb.2]]
theorem num_snoc (n : Nat) (ss : List Step) (s : Step) : numF n (ss ++ [s]) = numS n s (numF n ss) := by
  unfold numF
  rw [List.foldl_append]
  rfl
theorem num_two (n : Nat) (ss : List Step) (s t : Step) : numF n (ss ++ [s] ++ [t]) = numS n t (numS n s (numF n ss)) := by rw [num_snoc, num_snoc]
theorem lift0 (w : Int) (la lb : Int × Int) : numS 2 (.lift 0 [0, w] 0) (lnM la lb) = lnM (la.1 + w * lb.1, la.2 + w * lb.2) lb := by
  simp [numS, lnM, colM, dotP, List.range_succ]
theorem lift1 (w : Int) (la lb : Int × Int) : numS 2 (.lift 1 [w, 0] 0) (lnM la lb) = lnM la (lb.1 + w * la.1, lb.2 + w * la.2) := by
  simp [numS, lnM, colM, dotP, List.range_succ]
theorem turn0 (la lb : Int × Int) : numS 2 (.turn 0) (lnM la lb) = lnM (-la.1, -la.2) lb := by
  simp [numS, lnM]
theorem turn1 (la lb : Int × Int) : numS 2 (.turn 1) (lnM la lb) = lnM la (-lb.1, -lb.2) := by
  simp [numS, lnM]
theorem swap01 (la lb : Int × Int) : numS 2 (.swap 0 1) (lnM la lb) = lnM lb la := by
  simp [numS, lnM]
theorem unit_ln : unitM 2 = lnM (1, 0) (0, 1) := by decide
theorem sgn_sq {e : Int} (h : sgn e) : e * e = 1 := by rcases h with rfl | rfl <;> rfl
theorem sgn_mul {e d : Int} (h : sgn e) (k : sgn d) : sgn (e * d) := by
  rcases h with rfl | rfl <;> rcases k with rfl | rfl
  · exact .inl rfl
  · exact .inr rfl
  · exact .inr rfl
  · exact .inl rfl
/-- what a lift and, if asked, a turn make -/
theorem lift_goal {P G O : Int × Int} (h1 : sgn (crs P G)) (h2 : sgn (crs P O)) : (G.1 + crs P O * crs P G * crs O G * crs P G * P.1 = crs P O * crs P G * O.1) ∧ (G.2 + crs P O * crs P G * crs O G * crs P G * P.2 = crs P O * crs P G * O.2) := by
  have a := sgn_sq h1
  have b := sgn_sq h2
  unfold crs at *
  exact ⟨by grind, by grind⟩
theorem lift_bd {P G O : Int × Int} {B : Nat} (h1 : sgn (crs P G)) (h2 : sgn (crs P O)) (g1 : G.1.natAbs < B) (g2 : G.2.natAbs < B) (o1 : O.1.natAbs < B) (o2 : O.2.natAbs < B) : (crs P O * crs P G * crs O G * crs P G).natAbs < 2 * B := by
  obtain ⟨e1, e2⟩ := lift_goal h1 h2
  have hs := sgn_mul h2 h1
  generalize crs P O * crs P G * crs O G * crs P G = wt at *
  generalize crs P O * crs P G = s at *
  have hP : P.1 ≠ 0 ∨ P.2 ≠ 0 := by
    by_cases c : P.1 = 0
    · right
      intro d
      unfold crs at h1
      rw [c, d] at h1
      rcases h1 with z | z <;> simp at z
    · exact .inl c
  have abs : ∀ z : Int, (s * z).natAbs = z.natAbs := fun z => by rcases hs with rfl | rfl <;> omega
  have a1 := abs O.1
  have a2 := abs O.2
  rcases hP with c | c
  · have m : wt.natAbs * 1 ≤ wt.natAbs * P.1.natAbs := Nat.mul_le_mul_left _ (by omega)
    rw [← Int.natAbs_mul] at m
    omega
  · have m : wt.natAbs * 1 ≤ wt.natAbs * P.2.natAbs := Nat.mul_le_mul_left _ (by omega)
    rw [← Int.natAbs_mul] at m
    omega
def isLift : Step → Bool
  | .lift _ _ _ => true
  | _ => false
/-- where the steps stand -/
structure LS (P G la lb : Int × Int) (ss : List Step) (i : Nat) : Prop where
  pos : (la = P ∧ lb = G) ∨ (la = G ∧ lb = P)
  det : sgn (crs P G)
  num : numF 2 ss = lnM la lb
  ok : ∀ s ∈ ss, s.ok 2
  sh : bitsS ss = 0
  len : ss.length ≤ 2 * i
  cnt : (ss.filter isLift).length = i
theorem plc_ne {P G : Int × Int} (h : sgn (crs P G)) : plc G ≠ plc P := fun z => by
  obtain ⟨e, he, h1⟩ := plc_sgn G
  obtain ⟨d, hd, h2⟩ := plc_sgn P
  rw [h1, h2] at z
  have z1 := congrArg Prod.fst z
  have z2 := congrArg Prod.snd z
  dsimp only at z1 z2
  have ee := sgn_sq he
  have g1 : G.1 = e * d * P.1 := by grind
  have g2 : G.2 = e * d * P.2 := by grind
  have : crs P G = 0 := by unfold crs; rw [g1, g2]; grind
  rw [this] at h
  rcases h with h | h <;> cases h
theorem bits_app (a b : List Step) : bitsS (a ++ b) = bitsS a + bitsS b := by
  unfold bitsS
  rw [List.map_append, List.sum_append]
def turnIf (s : Int) (i : Nat) : List Step := if s < 0 then [.turn i] else []
theorem LS.next {P G la lb O : Int × Int} {ss : List Step} {i : Nat} (h : LS P G la lb ss i) (hO : sgn (crs P O)) {B : Nat} (hB : 2 * B ≤ 1267650600228229401496703205376) (g1 : G.1.natAbs < B) (g2 : G.2.natAbs < B) (o1 : O.1.natAbs < B) (o2 : O.2.natAbs < B) :
    (lb = P → LS O P O lb (ss ++ [.lift 0 [0, crs P O * crs P G * crs O G * crs P G] 0] ++ turnIf (crs P O * crs P G) 0) (i + 1)) ∧
    (la = P → LS O P la O (ss ++ [.lift 1 [crs P O * crs P G * crs O G * crs P G, 0] 0] ++ turnIf (crs P O * crs P G) 1) (i + 1)) := by
  obtain ⟨e1, e2⟩ := lift_goal h.det hO
  have hbd := lift_bd h.det hO g1 g2 o1 o2
  have hs := sgn_mul hO h.det
  have hOP : sgn (crs O P) := by
    have : crs O P = - crs P O := by unfold crs; grind
    rw [this]
    rcases hO with z | z
    · right; omega
    · left; omega
  generalize crs P O * crs P G * crs O G * crs P G = wt at *
  generalize crs P O * crs P G = s at *
  have okt : ∀ j, j < 2 → ∀ t ∈ turnIf s j, Step.ok 2 t := fun j hj t ht => by
    unfold turnIf at ht
    split at ht
    · rw [List.mem_singleton.mp ht]; exact hj
    · cases ht
  have sht : ∀ j, bitsS (turnIf s j) = 0 := fun j => by unfold turnIf; split <;> rfl
  have lnt : ∀ j, (turnIf s j).length ≤ 1 := fun j => by
    unfold turnIf
    split
    · exact Nat.le_refl 1
    · exact Nat.zero_le 1
  have cnt : ∀ j, ((turnIf s j).filter isLift).length = 0 := fun j => by unfold turnIf; split <;> rfl
  have gen : ∀ (st : Step) (j : Nat) (la' lb' : Int × Int), j < 2 → Step.ok 2 st → shS st = 0 → isLift st = true → ((la' = O ∧ lb' = P) ∨ (la' = P ∧ lb' = O)) → numF 2 (ss ++ [st] ++ turnIf s j) = lnM la' lb' → LS O P la' lb' (ss ++ [st] ++ turnIf s j) (i + 1) := fun st j la' lb' hj hok hsh hl hp hn => by
    refine ⟨hp, hOP, hn, fun t ht => ?_, ?_, ?_, ?_⟩
    · rcases List.mem_append.mp ht with ht | ht
      · rcases List.mem_append.mp ht with ht | ht
        · exact h.ok t ht
        · rw [List.mem_singleton.mp ht]; exact hok
      · exact okt j hj t ht
    · rw [bits_app, bits_app, h.sh, sht]
      show 0 + (shS st + 0) + 0 = 0
      rw [hsh]
    · have := lnt j
      have := h.len
      rw [List.length_append, List.length_append]
      show ss.length + 1 + _ ≤ _
      omega
    · rw [List.filter_append, List.filter_append, List.length_append, List.length_append, h.cnt, cnt]
      rw [List.filter_cons_of_pos hl]
      rfl
  constructor
  · intro hlb
    have hla : la = G := by
      rcases h.pos with ⟨a, b⟩ | ⟨a, _⟩
      · exact absurd (by rw [← b, hlb]) (plc_ne h.det)
      · exact a
    refine gen _ 0 _ _ (by decide) ⟨by decide, rfl, rfl, by decide, fun w hw => ?_⟩ rfl rfl (.inl ⟨rfl, hlb⟩) ?_
    · rcases List.mem_cons.mp hw with rfl | hw
      · decide
      · rw [List.mem_singleton.mp hw]; omega
    · unfold turnIf
      rcases hs with rfl | rfl
      · rw [if_neg (by decide), List.append_nil, num_snoc, h.num, hla, hlb, lift0, e1, e2, Int.one_mul, Int.one_mul]
      · rw [if_pos (by decide), num_two, h.num, hla, hlb, lift0, e1, e2, turn0]
        dsimp only
        rw [show -(-1 * O.1) = O.1 by omega, show -(-1 * O.2) = O.2 by omega]
  · intro hla
    have hlb : lb = G := by
      rcases h.pos with ⟨_, b⟩ | ⟨a, b⟩
      · exact b
      · exact absurd (by rw [← a, hla]) (plc_ne h.det)
    refine gen _ 1 _ _ (by decide) ⟨by decide, rfl, rfl, by decide, fun w hw => ?_⟩ rfl rfl (.inr ⟨hla, rfl⟩) ?_
    · rcases List.mem_cons.mp hw with rfl | hw
      · omega
      · rw [List.mem_singleton.mp hw]; decide
    · unfold turnIf
      rcases hs with rfl | rfl
      · rw [if_neg (by decide), List.append_nil, num_snoc, h.num, hla, hlb, lift1, e1, e2, Int.one_mul, Int.one_mul]
      · rw [if_pos (by decide), num_two, h.num, hla, hlb, lift1, e1, e2, turn1]
        dsimp only
        rw [show -(-1 * O.1) = O.1 by omega, show -(-1 * O.2) = O.2 by omega]
end My

namespace My
/-! ### the ways that are chosen -/
theorem PathOk.get : ∀ {p : Int × Int} {r : List (Int × Int)}, PathOk p r → ∀ {i : Nat} {a b : Int × Int}, (p :: r)[i]? = some a → (p :: r)[i + 1]? = some b → sgn (crs a b)
  | p, [], _, i, a, b, ha, hb => by rw [List.getElem?_cons_succ] at hb; cases hb
  | p, q :: r, h, 0, a, b, ha, hb => by cases ha; cases hb; exact h.1
  | p, q :: r, h, i + 1, a, b, ha, hb => by
    rw [List.getElem?_cons_succ] at ha hb
    exact h.2.get ha hb
theorem PathOk.swp : ∀ {p : Int × Int} {r : List (Int × Int)}, PathOk p r → PathOk (swp p) (r.map swp)
  | p, [], _ => trivial
  | p, q :: r, h => by
    refine ⟨?_, h.2.swp⟩
    have e : crs (My.swp p) (My.swp q) = - crs p q := by unfold crs My.swp; dsimp only; grind
    rw [e]
    rcases h.1 with z | z
    · right; omega
    · left; omega
theorem lastQ_map : ∀ (p : Int × Int) (r : List (Int × Int)), lastQ (swp p) (r.map swp) = swp (lastQ p r)
  | p, [] => rfl
  | p, q :: r => by rw [List.map_cons, lastQ_cons, lastQ_cons, lastQ_map q r]
theorem lastQ_get : ∀ (p : Int × Int) (r : List (Int × Int)), (p :: r)[r.length]? = some (lastQ p r)
  | p, [] => rfl
  | p, q :: r => by rw [List.length_cons, List.getElem?_cons_succ, lastQ_get q r, lastQ_cons]
def WayOk (x y : Int × Int) (w : List (Int × Int)) (P0 G0 : Int × Int) : Prop := ∃ rest, w = P0 :: rest ∧ ((P0 = (1, 0) ∧ G0 = (0, 1)) ∨ (P0 = (0, 1) ∧ G0 = (1, 0))) ∧ PathOk P0 rest ∧ (∃ e, sgn e ∧ (lastQ P0 rest = (e * x.1, e * x.2) ∨ lastQ P0 rest = (e * y.1, e * y.2))) ∧ ∀ z ∈ w, z.1.natAbs < 2 ^ 80 ∧ z.2.natAbs < 2 ^ 80
theorem grw_bd {z q : Int × Int} (h : Grw z q) (b : q.1.natAbs < 2 ^ 80 ∧ q.2.natAbs < 2 ^ 80) : z.1.natAbs < 2 ^ 80 ∧ z.2.natAbs < 2 ^ 80 := ⟨lt80_max h.1 b.1, lt80_max h.2 b.2⟩
theorem way_one {q x y : Int × Int} (hq : PlOk q) (hx : ∃ e, sgn e ∧ q = (e * x.1, e * x.2) ∨ sgn e ∧ q = (e * y.1, e * y.2)) (h0 : 0 ≤ q.2) : WayOk x y (wayTo q) (1, 0) (0, 1) := by
  obtain ⟨h1, ⟨e, he, h2⟩, h3⟩ := wayTo_ok h0 hq.1
  refine ⟨(wayTo q).tail, rfl, .inl ⟨rfl, rfl⟩, h1, ?_, fun z hz => grw_bd (h3 z hz) hq.2⟩
  rw [h2]
  obtain ⟨d, ⟨hd, rfl⟩ | ⟨hd, rfl⟩⟩ := hx
  · exact ⟨e * d, sgn_mul he hd, .inl (by dsimp only; congr 1 <;> grind)⟩
  · exact ⟨e * d, sgn_mul he hd, .inr (by dsimp only; congr 1 <;> grind)⟩
theorem way_two {q x y : Int × Int} (hq : PlOk q) (hx : ∃ e, sgn e ∧ q = (e * x.2, e * x.1) ∨ sgn e ∧ q = (e * y.2, e * y.1)) (h0 : 0 ≤ q.2) : WayOk x y ((wayTo q).map swp) (0, 1) (1, 0) := by
  obtain ⟨h1, ⟨e, he, h2⟩, h3⟩ := wayTo_ok h0 hq.1
  have h4 : lastQ (0, 1) ((wayTo q).tail.map swp) = swp (lastQ (1, 0) (wayTo q).tail) := lastQ_map (1, 0) _
  refine ⟨(wayTo q).tail.map swp, rfl, .inr ⟨rfl, rfl⟩, h1.swp, ?_, fun z hz => ?_⟩
  · rw [h4, h2]
    obtain ⟨d, ⟨hd, rfl⟩ | ⟨hd, rfl⟩⟩ := hx
    · exact ⟨e * d, sgn_mul he hd, .inl (by unfold swp; dsimp only; congr 1 <;> grind)⟩
    · exact ⟨e * d, sgn_mul he hd, .inr (by unfold swp; dsimp only; congr 1 <;> grind)⟩
  · obtain ⟨u, hu, rfl⟩ := List.mem_map.mp hz
    have := grw_bd (h3 u hu) hq.2
    exact ⟨this.2, this.1⟩
theorem way_ok {x y : Int × Int} (hM : MatOk x y) {w : List (Int × Int)} (hw : w ∈ waysF x y) : ∃ P0 G0, WayOk x y w P0 G0 := by
  have sw : ∀ q : Int × Int, ∃ e, sgn e ∧ plc (swp (plc q)) = (e * q.2, e * q.1) := fun q => by
    obtain ⟨e, he, h1⟩ := plc_sgn q
    obtain ⟨d, hd, h2⟩ := plc_sgn (swp (plc q))
    refine ⟨d * e, sgn_mul hd he, ?_⟩
    rw [h2, h1]
    unfold swp
    dsimp only
    congr 1 <;> grind
  unfold waysF at hw
  simp only [List.mem_cons, List.not_mem_nil, or_false] at hw
  rcases hw with rfl | rfl | rfl | rfl
  · obtain ⟨e, he, h⟩ := plc_sgn x
    exact ⟨_, _, way_one hM.fst.plc ⟨e, .inl ⟨he, h⟩⟩ (plc_nn _)⟩
  · obtain ⟨e, he, h⟩ := plc_sgn y
    exact ⟨_, _, way_one hM.snd.plc ⟨e, .inr ⟨he, h⟩⟩ (plc_nn _)⟩
  · obtain ⟨e, he, h⟩ := sw x
    exact ⟨_, _, way_two hM.fst.plc.swp.plc ⟨e, .inl ⟨he, h⟩⟩ (plc_nn _)⟩
  · obtain ⟨e, he, h⟩ := sw y
    exact ⟨_, _, way_two hM.snd.plc.swp.plc ⟨e, .inr ⟨he, h⟩⟩ (plc_nn _)⟩
/-- the points that are gone through: the way, and the row that it does not lead to -/
structure Pts (x y : Int × Int) (w : List (Int × Int)) (P0 G0 g1 g2 : Int × Int) : Prop where
  start : (P0 = (1, 0) ∧ G0 = (0, 1)) ∨ (P0 = (0, 1) ∧ G0 = (1, 0))
  first : (w ++ [g2])[0]? = some P0
  goal : (g1 = x ∧ g2 = y) ∨ (g1 = y ∧ g2 = x)
  last : ∃ e L, sgn e ∧ L = (e * g1.1, e * g1.2) ∧ w[w.length - 1]? = some L
  ne : 0 < w.length
  next : ∀ (i : Nat) (a b : Int × Int), (w ++ [g2])[i]? = some a → (w ++ [g2])[i + 1]? = some b → sgn (crs a b)
  bd : ∀ z ∈ w ++ [g2], z.1.natAbs < 2 ^ 80 ∧ z.2.natAbs < 2 ^ 80
theorem pts_of {x y : Int × Int} (hM : MatOk x y) {w : List (Int × Int)} {P0 G0 : Int × Int} (h : WayOk x y w P0 G0) : ∃ g1 g2, Pts x y w P0 G0 g1 g2 := by
  obtain ⟨rest, rfl, hs, hp, ⟨e, he, hl⟩, hb⟩ := h
  have key : ∀ g1 g2 : Int × Int, ((g1 = x ∧ g2 = y) ∨ (g1 = y ∧ g2 = x)) → sgn (crs g1 g2) → (g2.1.natAbs < 2 ^ 80 ∧ g2.2.natAbs < 2 ^ 80) → lastQ P0 rest = (e * g1.1, e * g1.2) → Pts x y (P0 :: rest) P0 G0 g1 g2 := fun g1 g2 hg hc hbd hlast => by
    refine ⟨hs, rfl, hg, ⟨e, _, he, rfl, ?_⟩, Nat.succ_pos _, fun i a b ha hb' => ?_, fun z hz => ?_⟩
    · show (P0 :: rest)[rest.length]? = _
      rw [lastQ_get, hlast]
    · by_cases c : i + 1 < (P0 :: rest).length
      · rw [List.getElem?_append_left (by omega)] at ha
        rw [List.getElem?_append_left c] at hb'
        exact hp.get ha hb'
      · have hi : i < (P0 :: rest).length + 1 := by
          have := (List.getElem?_eq_some_iff.mp ha).1
          rw [List.length_append] at this
          exact this
        have hi2 : i + 1 < (P0 :: rest).length + 1 := by
          have := (List.getElem?_eq_some_iff.mp hb').1
          rw [List.length_append] at this
          exact this
        have ei : i = rest.length := by rw [List.length_cons] at *; omega
        rw [List.getElem?_append_left (by omega), ei, lastQ_get, hlast] at ha
        rw [List.getElem?_append_right (by omega), ei, List.length_cons, Nat.sub_self] at hb'
        cases ha
        cases hb'
        have : crs (e * g1.1, e * g1.2) g2 = e * crs g1 g2 := by unfold crs; dsimp only; grind
        rw [this]
        exact sgn_mul he hc
    · rcases List.mem_append.mp hz with hz | hz
      · exact hb z hz
      · rw [List.mem_singleton.mp hz]; exact hbd
  have hxy : sgn (crs x y) := hM.1
  rcases hl with hl | hl
  · exact ⟨x, y, key x y (.inl ⟨rfl, rfl⟩) hxy hM.2.2 hl⟩
  · refine ⟨y, x, key y x (.inr ⟨rfl, rfl⟩) ?_ hM.2.1 hl⟩
    have : crs y x = - crs x y := by unfold crs; grind
    rw [this]
    rcases hxy with z | z
    · right; omega
    · left; omega
end My

namespace My
open PySem PySem.Spec PyProof.Rows L2 Pre
/-! ### lift_to, lifts_for -/
theorem eqv_tup2 (ns ms : List Int) : PyData.eqv (.tuple (ns.map PyData.int)) (.tuple (ms.map PyData.int)) = decide (ns = ms) := by rw [PyData.eqv, eqv_ints]
theorem prL_inj {a b : Int × Int} : decide (prL a = prL b) = decide (a = b) := by
  rw [decide_eq_decide]
  unfold prL
  constructor
  · intro h
    have := List.cons.inj h
    exact Prod.ext this.1 (List.cons.inj this.2).1
  · rintro rfl; rfl
theorem eq_pair {K : PySem.W.Frag} {H : Hp} {a b : Addr} {p q : Int × Int} {Q : VK} (ha : H a = some (.tup [.int p.1, .int p.2])) (hb : H b = some (.tup [.int q.1, .int q.2])) (k : Q (.bl (decide (p = q))) H) : rEqD K (.ref a) (.ref b) H Q := by
  refine ⟨.tuple ((prL p).map PyData.int), .tuple ((prL q).map PyData.int), .tup (.inl (.inl ha)) (dp_ints (prL p)), .tup (.inl (.inl hb)) (dp_ints (prL q)), shaped_tup _, shaped_tup _, ?_⟩
  rw [eqv_tup2, prL_inj]
  exact k
theorem ne_pair {K : PySem.W.Frag} {H : Hp} {a b : Addr} {p q : Int × Int} {Q : VK} (ha : H a = some (.tup [.int p.1, .int p.2])) (hb : H b = some (.tup [.int q.1, .int q.2])) (k : Q (.bl (!decide (p = q))) H) : rNeD K (.ref a) (.ref b) H Q := by
  refine ⟨.tuple ((prL p).map PyData.int), .tuple ((prL q).map PyData.int), .tup (.inl (.inl ha)) (dp_ints (prL p)), .tup (.inl (.inl hb)) (dp_ints (prL q)), shaped_tup _, shaped_tup _, ?_⟩
  rw [eqv_tup2, prL_inj]
  exact k
theorem asg_join {te : TE} {tg : TG} {rest : TS} {D : L2.Ends} {σ : L2.St} {H : Hp} (Pv : V → Hp → Prop) (h : ∀ Q : VK, (∀ v H', Pv v H' → Q v H') → te σ H Q) (k : ∀ v H', Pv v H' → tg v σ H' (rest D)) :
    tSeq (tAsg te tg) rest D σ H := h _ k
theorem seq_join {A rest : TS} {D : L2.Ends} {σ : L2.St} {H : Hp} (Pv : L2.St → Hp → Prop) (h : ∀ nx : L2.St → Hp → Prop, (∀ σ' H', Pv σ' H' → nx σ' H') → A { nx := nx, rt := D.rt, bk := D.bk, ct := D.ct } σ H) (k : ∀ σ' H', Pv σ' H' → rest D σ' H') : tSeq A rest D σ H := h _ k
/-- the lines and the steps in a heap -/
def LiH (lp sp : Addr) (HA : Hp) (la lb : Int × Int) (ss : List Step) : Prop := ∃ (ua ub : Addr) (vs : List V), HA lp = some (.lst [.ref ua, .ref ub]) ∧ HA ua = some (.tup [.int la.1, .int la.2]) ∧ HA ub = some (.tup [.int lb.1, .int lb.2]) ∧ HA sp = some (.lst vs) ∧ AllV (StepV (fun b => ¬ (b = lp ∨ b = sp)) HA) vs ss
theorem plc_mul {e : Int} {g : Int × Int} (he : sgn e) (h : g.1 ≠ 0 ∨ g.2 ≠ 0) : plc (e * g.1, e * g.2) = plc g := by
  rcases he with rfl | rfl
  · rw [Int.one_mul, Int.one_mul]
  · rw [show -1 * g.1 = -g.1 by omega, show -1 * g.2 = -g.2 by omega, plc_neg g h]
theorem crs_ne {a b : Int × Int} (h : sgn (crs a b)) : a.1 ≠ 0 ∨ a.2 ≠ 0 := by
  by_cases c : a.1 = 0
  · right
    intro d
    unfold crs at h
    rw [c, d] at h
    rcases h with z | z <;> simp at z
  · exact .inl c
def Pm (q g : Int × Int) : Prop := ∃ e, sgn e ∧ q = (e * g.1, e * g.2)
theorem app_step {lp sp : Addr} {HX HY HZ : Hp} {vs : List V} {ss : List Step} {v : V} {st : Step} {ls : List V} (hvs : AllV (StepV (fun b => ¬ (b = lp ∨ b = sp)) HX) vs ss) (s : Same HX HY) (hst : StepV (fun b => ¬ (b = lp ∨ b = sp)) HY v st) (hsp : HY sp = some (.lst vs)) (hlp : HY lp = some (.lst ls)) (e : upd HY sp (.lst (vs ++ [v])) = HZ) : AllV (StepV (fun b => ¬ (b = lp ∨ b = sp)) HZ) (vs ++ [v]) (ss ++ [st]) ∧ HZ sp = some (.lst (vs ++ [v])) ∧ Lk (fun b => b = lp ∨ b = sp) HY HZ := by
  subst e
  have k : Lk (fun b => b = lp ∨ b = sp) HY (upd HY sp (.lst (vs ++ [v]))) := Lk.at_ (.inr rfl)
  have a : ∀ b, (b = lp ∨ b = sp) → ∃ xs, HY b = some (.lst xs) := fun b z => by
    rcases z with rfl | rfl
    · exact ⟨_, hlp⟩
    · exact ⟨_, hsp⟩
  refine ⟨AllV.app (hvs.imp fun v s' h => (h.same s).lk k a fun l n => n) ⟨hst.lk k a fun l n => n, trivial⟩, upd_same, k⟩
def tnF (q g : Int × Int) (i : Nat) : List Step := if q = g then [] else [.turn i]
theorem tnF_neg {q g : Int × Int} (h : Pm q g) (hn : q ≠ g) : q = (-g.1, -g.2) := by
  obtain ⟨e, he, h⟩ := h
  rcases he with rfl | rfl
  · rw [Int.one_mul, Int.one_mul] at h
    exact absurd h hn
  · rw [h, show -1 * g.1 = -g.1 by omega, show -1 * g.2 = -g.2 by omega]
theorem turns_end {x y la lb : Int × Int} {ss : List Step} (hn : numF 2 ss = lnM la lb) (h1 : Pm la x) (h2 : Pm lb y) : numF 2 (ss ++ (tnF la x 0 ++ tnF lb y 1)) = lnM x y := by
  have a : numF 2 (ss ++ tnF la x 0) = lnM x lb := by
    unfold tnF
    by_cases c : la = x
    · rw [if_pos c, List.append_nil, hn, c]
    · rw [if_neg c, num_snoc, hn, turn0, tnF_neg h1 c]
      dsimp only
      rw [Int.neg_neg, Int.neg_neg]
  rw [← List.append_assoc]
  unfold tnF at a ⊢
  by_cases c : lb = y
  · rw [if_pos c, List.append_nil, a, c]
  · rw [if_neg c, num_snoc, a, turn1, tnF_neg h2 c]
    dsimp only
    rw [Int.neg_neg, Int.neg_neg]
theorem tn_facts (la x lb y : Int × Int) : (∀ s ∈ tnF la x 0 ++ tnF lb y 1, s.ok 2) ∧ bitsS (tnF la x 0 ++ tnF lb y 1) = 0 ∧ (tnF la x 0 ++ tnF lb y 1).length ≤ 2 ∧ ((tnF la x 0 ++ tnF lb y 1).filter isLift).length = 0 := by
  unfold tnF
  by_cases c : la = x <;> by_cases d : lb = y
  · rw [if_pos c, if_pos d]; exact ⟨(fun s h => by cases h), rfl, Nat.zero_le _, rfl⟩
  · rw [if_pos c, if_neg d]; exact ⟨fun s h => by rw [List.mem_singleton.mp h]; show 1 < 2; decide, rfl, Nat.le_succ 1, rfl⟩
  · rw [if_neg c, if_pos d]; exact ⟨fun s h => by rw [List.mem_singleton.mp h]; show 0 < 2; decide, rfl, Nat.le_succ 1, rfl⟩
  · rw [if_neg c, if_neg d]
    refine ⟨fun s h => ?_, rfl, Nat.le_refl 2, rfl⟩
    rcases List.mem_cons.mp h with rfl | h
    · show 0 < 2; decide
    · rw [List.mem_singleton.mp h]; show 1 < 2; decide
structure Fin2 (x y la lb : Int × Int) (ss : List Step) (n : Nat) : Prop where
  ends : (Pm la x ∧ Pm lb y) ∨ (Pm la y ∧ Pm lb x)
  num : numF 2 ss = lnM la lb
  ok : ∀ s ∈ ss, s.ok 2
  sh : bitsS ss = 0
  len : ss.length ≤ 2 * n
  cnt : (ss.filter isLift).length = n
def Sm (q : Int × Int) : Prop := q.1.natAbs < 2 ^ 80 ∧ q.2.natAbs < 2 ^ 80
theorem up200 {z : Int} (h : z.natAbs < 2 ^ 80) : z.natAbs < 2 ^ 200 := Nat.lt_trans h p200
theorem sgn_bd {e : Int} (h : sgn e) : e.natAbs < 2 ^ 200 := by rcases h with rfl | rfl <;> decide
theorem crs_bd {a b : Int × Int} (ha : Sm a) (hb : Sm b) : (crs a b).natAbs < 2 ^ 200 := by
  have m1 : (a.1 * b.2).natAbs < 2 ^ 80 * 2 ^ 80 := by rw [Int.natAbs_mul]; exact Nat.mul_lt_mul'' ha.1 hb.2
  have m2 : (a.2 * b.1).natAbs < 2 ^ 80 * 2 ^ 80 := by rw [Int.natAbs_mul]; exact Nat.mul_lt_mul'' ha.2 hb.1
  have h : 2 ^ 80 * 2 ^ 80 + 2 ^ 80 * 2 ^ 80 < 2 ^ 200 := by decide +kernel
  unfold crs
  generalize 2 ^ 80 * 2 ^ 80 = B at *
  generalize 2 ^ 200 = C at *
  omega
local macro_rules | `(tactic| walk_at "go") => `(tactic| repeat (first | (with_reducible first | refine iteT ?_ | refine iteF ?_ | refine iteNtt ?_ | refine iteNff ?_ | refine iteET (by omega) ?_ | refine iteEF (by omega) ?_ | refine iteENT (by omega) ?_ | refine iteENF (by omega) ?_ | refine iteDT (by omega) ?_ | refine iteDF (by omega) ?_ | refine iteNT (by omega) ?_ | refine iteNF (by omega) ?_) | refine ⟨_, rfl, ?_⟩ | refine ⟨_, _, rfl, rfl, ?_⟩ | refine ⟨_, _, rfl, ?_⟩ | refine ⟨rfl, ?_⟩ | refine .inl ⟨_, rfl, ?_⟩ | refine .inr ⟨_, rfl, ?_⟩))
local macro_rules | `(tactic| walk_at "b") => `(tactic| try dsimp (config := { proj := false, iota := false, eta := false, zeta := false }) only)
section
variable {P : Program} {w : World} {K : PySem.W.Frag} {mg : Str → Option Value} {base : Heap}
def sp_lift_to (K : PySem.W.Frag) : Sp := fun vs H Q _ => ∃ (u v t : V) (k g o : Int × Int), vs = [u, v, t] ∧ PairH H u k ∧ PairH H v g ∧ PairH H t o ∧ Sm k ∧ Sm g ∧ Sm o ∧ sgn (crs k g) ∧ sgn (crs k o) ∧ ∀ H' p, Same H H' → H' p = some (.tup [.int (crs k o * crs k g), .int (crs k o * crs k g * crs o g * crs k g)]) → Q (.ref p) H'
theorem G_lift_to (T : Top K mg) : FnOk P w K mg base CX0 2 T.f_lift_to T.fd_lift_to ["kept", "gone", "goal"] (sp_lift_to K) := by
  refine T.F_lift_to.ok sc_lift_to (fun vs H Q E h => by obtain ⟨u, v, t, k, g, o, rfl, _⟩ := h; rfl) (fun cdv A outer s H vs Q E hr h => ?_)
  obtain ⟨u, v, t, k, g, o, rfl, hk, hg, ho, bk, bg, bo, s1, s2, q⟩ := h
  refine ⟨_, PSs.nox (pss_cons (ps_set (i := 3) sc_lift_to.nd rfl (by first | exact Or.inl rfl | exact Or.inr rfl) (pe_call (G_crossed T) (hr.mono (by decide)) (by rfl) T.g_crossed T.F_crossed.kp T.b_crossed .nil pass0 (pa_cons (pv 0) (pa_cons (pv 1) pa_nil))))
  (pss_cons (ps_set (i := 4) sc_lift_to.nd rfl (by first | exact Or.inl rfl | exact Or.inr rfl) (pe_op op_mulX (pe_call (G_crossed T) (hr.mono (by decide)) (by rfl) T.g_crossed T.F_crossed.kp T.b_crossed .nil pass0 (pa_cons (pv 0) (pa_cons (pv 2) pa_nil))) (pv 3)))
  (pss_one (ps_ret (pe_tup (pa_cons (pv 4) (pa_cons (pe_op op_mulX (pe_op op_mulX (pv 4) (pe_call (G_crossed T) (hr.mono (by decide)) (by rfl) T.g_crossed T.F_crossed.kp T.b_crossed .nil pass0 (pa_cons (pv 2) (pa_cons (pv 1) pa_nil)))) (pv 3)) pa_nil))))))), ?_⟩
  refine ⟨_, rfl, _, rfl, u, v, k, g, rfl, hk, hg, cmx (up200 bk.1) (up200 bg.2), cmx (up200 bk.2) (up200 bg.1), ?_⟩
  refine ⟨_, rfl, _, rfl, u, t, k, o, rfl, hk, ho, cmx (up200 bk.1) (up200 bo.2), cmx (up200 bk.2) (up200 bo.1), ?_⟩
  refine ⟨_, rfl, _, _, rfl, rfl, cmx (sgn_bd s2) (sgn_bd s1), ?_⟩
  refine ⟨_, rfl, _, rfl, _, rfl, _, rfl, t, v, o, g, rfl, ho, hg, cmx (up200 bo.1) (up200 bg.2), cmx (up200 bo.2) (up200 bg.1), ?_⟩
  have e : ∀ a b : Int × Int, a.1 * b.2 - a.2 * b.1 = crs a b := fun _ _ => rfl
  rw [e, e, e]
  have hc := crs_bd bo bg
  have hs := sgn_mul s2 s1
  have hp : (crs k o * crs k g * crs o g).natAbs < 2 ^ 200 := by
    rcases hs with z | z <;> rw [z]
    · rw [Int.one_mul]; exact hc
    · rw [show -1 * crs o g = -crs o g by omega, Int.natAbs_neg]; exact hc
  refine ⟨_, _, rfl, rfl, cmx (sgn_bd hs) hc, _, rfl, _, _, rfl, rfl, cmx hp (sgn_bd s1), (by show 2 ≤ sizeLine; decide), fun p np => ?_⟩
  exact q _ p (same_upd np) upd_same
def sp_lifts_for (C : Addr) (K : PySem.W.Frag) : Sp := fun vs H Q _ => ∃ (p : Addr) (x y : Int × Int), vs = [.ref p] ∧ RowsIn H p [[x.1, x.2], [y.1, y.2]] ∧ MatOk x y ∧ fewF x y ≤ 40 ∧ ∀ H' (a r : Addr) (ss : List Step), Same H H' → MixAt C H' a r 2 ss → (∀ s ∈ ss, s.ok 2) → bitsS ss = 0 → ss.length ≤ 2 * fewF x y + 3 → numF 2 ss = lnM x y → (ss.filter isLift).length = fewF x y → Q (.ref a) H'
theorem G_lifts_for (T : Top K mg) : FnOk P w K mg base CX0 7 T.f_lifts_for T.fd_lifts_for ["numbers"] (sp_lifts_for T.C_Mixer K) := by
  refine T.F_lifts_for.ok sc_lifts_for (fun vs H Q E h => by obtain ⟨p, x, y, rfl, _⟩ := h; rfl) (fun cdv A outer s H vs Q E hr h => ?_)
  obtain ⟨p, x, y, rfl, hR, hM, hf40, q⟩ := h
  refine ⟨_, PSs.nox (pss_cons (ps_expr (pe_call (G_check_matrix T) (hr.mono (by decide)) (by rfl) T.g_check_matrix T.F_check_matrix.kp T.b_check_matrix .nil pass0 (pa_cons (pv 0) pa_nil)))
  (pss_cons (ps_asg (pe_tup (pa_cons (pe_lc (own := [("line", 11)]) (g := gName 11) (tt := tYes) (by rfl) sc_lifts_for.nd (k_piL K rfl (pv 0)) (blkOk_by (own := [("line", 11)]) (N := N_lifts_for) (sc := defScope s_lifts_for) (by decide +kernel)) (fun _ _ _ _ _ => (pg_name (i := 11) sc_lifts_for.nd rfl (by first | exact Or.inl rfl | exact Or.inr rfl))) (fun _ _ _ _ _ => pts_nil) (fun _ _ _ _ _ => (pe_callTy (k_tupleOf K rfl) (by rfl) T.n_tuple (by decide +kernel) (pa_cons (pv 11) pa_nil)))) (pa_cons (pe_lst (pa_cons (pe_tup (pa_cons pe_int (pa_cons pe_int pa_nil))) (pa_cons (pe_tup (pa_cons pe_int (pa_cons pe_int pa_nil))) pa_nil))) (pa_cons (pe_lst pa_nil) pa_nil)))) (k_pgT K rfl (by rfl) (pgs_cons (pg_name (i := 2) sc_lifts_for.nd rfl (by first | exact Or.inl rfl | exact Or.inr rfl)) (pgs_cons (pg_name (i := 3) sc_lifts_for.nd rfl (by first | exact Or.inl rfl | exact Or.inr rfl)) (pgs_cons (pg_name (i := 4) sc_lifts_for.nd rfl (by first | exact Or.inl rfl | exact Or.inr rfl)) pgs_nil)))))
  (pss_cons (ps_set (i := 1) sc_lifts_for.nd rfl (by first | exact Or.inl rfl | exact Or.inr rfl) (pe_call (G_least_way T) (hr.mono (by decide)) (by rfl) T.g_least_way T.F_least_way.kp T.b_least_way .nil pass0 (pa_cons (pv 0) pa_nil)))
  (pss_cons (ps_for PassesOwn.never rfl (k_piE K rfl (by rfl) T.n_enumerate (pa_cons (pv 1) pa_nil)) (k_pgT K rfl (by rfl) (pgs_cons (pg_name (i := 5) sc_lifts_for.nd rfl (by first | exact Or.inl rfl | exact Or.inr rfl)) (pgs_cons (pg_name (i := 6) sc_lifts_for.nd rfl (by first | exact Or.inl rfl | exact Or.inr rfl)) pgs_nil)))
    (pss_cons (ps_set (i := 7) sc_lifts_for.nd rfl (by first | exact Or.inl rfl | exact Or.inr rfl) (pe_callTy call_int1 (by rfl) T.n_int (by decide +kernel) (pa_cons (pe_cmpR (k_eqD K rfl hr.units) (pe_call (G_placed T) (hr.mono (by decide)) (by rfl) T.g_placed T.F_placed.kp T.b_placed .nil pass0 (pa_cons (pe_ix (k_ixL K rfl) (pv 3) pe_int (fun _ _ => rfl)) pa_nil)) (pe_call (G_placed T) (hr.mono (by decide)) (by rfl) T.g_placed T.F_placed.kp T.b_placed .nil pass0 (pa_cons (pv 6) pa_nil)) (nomark _)) pa_nil)))
  (pss_cons (ps_set (i := 8) sc_lifts_for.nd rfl (by first | exact Or.inl rfl | exact Or.inr rfl) (pe_ix (k_ixL K rfl) (pe_op op_cat (pv 1) (pe_lc (own := [("line", 11)]) (g := gName 11) (by rfl) sc_lifts_for.nd (k_piL K rfl (pv 2)) (blkOk_by (own := [("line", 11)]) (N := N_lifts_for) (sc := defScope s_lifts_for) (by decide +kernel)) (fun _ _ _ _ _ => (pg_name (i := 11) sc_lifts_for.nd rfl (by first | exact Or.inl rfl | exact Or.inr rfl))) (fun _ _ _ _ _ => (pts_one (pt_cmpR (k_neD K rfl hr.units) (pe_call (G_placed T) (hr.mono (by decide)) (by rfl) T.g_placed T.F_placed.kp T.b_placed .nil pass0 (pa_cons (pv 11) pa_nil)) (pe_call (G_placed T) (hr.mono (by decide)) (by rfl) T.g_placed T.F_placed.kp T.b_placed .nil pass0 (pa_cons (pv 6) pa_nil)) (nomark _)))) (fun _ _ _ _ _ => (pv 11)))) (pe_op op_add (pv 5) pe_int) (fun _ _ => rfl)))
  (pss_cons (ps_asg (pe_call (G_lift_to T) (hr.mono (by decide)) (by rfl) T.g_lift_to T.F_lift_to.kp T.b_lift_to .nil pass0 (pa_cons (pe_ix (k_ixL K rfl) (pv 3) (pv 7) (fun _ _ => rfl)) (pa_cons (pe_ix (k_ixL K rfl) (pv 3) (pe_op op_sub pe_int (pv 7)) (fun _ _ => rfl)) (pa_cons (pv 8) pa_nil)))) (k_pgT K rfl (by rfl) (pgs_cons (pg_name (i := 9) sc_lifts_for.nd rfl (by first | exact Or.inl rfl | exact Or.inr rfl)) (pgs_cons (pg_name (i := 10) sc_lifts_for.nd rfl (by first | exact Or.inl rfl | exact Or.inr rfl)) pgs_nil))))
  (pss_cons (ps_expr (pe_bm PySem.F.plainAttrs_list PySem.F.slot_list_append PySem.F.type_list_append mt_append (pv 4) (pa_cons (pe_tup (pa_cons pe_str (pa_cons (pe_op op_sub pe_int (pv 7)) (pa_cons (pe_lst (pa_cons (pe_op op_mulX (pv 10) (pe_op op_sub pe_int (pv 7))) (pa_cons (pe_op op_mulX (pv 10) (pv 7)) pa_nil))) (pa_cons pe_int pa_nil))))) pa_nil)))
  (pss_cons (ps_if (pt_cmpR op_lt (pv 9) pe_int (nomark _))
    (pss_one (ps_expr (pe_bm PySem.F.plainAttrs_list PySem.F.slot_list_append PySem.F.type_list_append mt_append (pv 4) (pa_cons (pe_tup (pa_cons pe_str (pa_cons (pe_op op_sub pe_int (pv 7)) pa_nil))) pa_nil))))
    pss_nil)
  (pss_one (ps_asg (pv 8) (pg_sub (pv 3) (pe_op op_sub pe_int (pv 7)) set_list)))))))))
  (pss_cons (ps_if (pt_cmpR (k_neD K rfl hr.units) (pe_call (G_placed T) (hr.mono (by decide)) (by rfl) T.g_placed T.F_placed.kp T.b_placed .nil pass0 (pa_cons (pe_ix (k_ixL K rfl) (pv 3) pe_int (fun _ _ => rfl)) pa_nil)) (pe_call (G_placed T) (hr.mono (by decide)) (by rfl) T.g_placed T.F_placed.kp T.b_placed .nil pass0 (pa_cons (pe_ix (k_ixL K rfl) (pv 2) pe_int (fun _ _ => rfl)) pa_nil)) (nomark _))
    (pss_cons (ps_expr (pe_bm PySem.F.plainAttrs_list PySem.F.slot_list_append PySem.F.type_list_append mt_append (pv 4) (pa_cons (pe_tup (pa_cons pe_str (pa_cons pe_int (pa_cons pe_int pa_nil)))) pa_nil)))
  (pss_one (ps_set (i := 3) sc_lifts_for.nd rfl (by first | exact Or.inl rfl | exact Or.inr rfl) (pe_revL (pv 3)))))
    pss_nil)
  (pss_one (ps_ret (pe_make T.mk_Mixer (G_Mixer___init__ T) (hr.mono (by decide)) (by rfl) T.gc_Mixer T.b_Mixer___init__ .nil pass0 (pa_cons pe_int (pa_cons (pe_op op_cat (pv 4) (pe_lc (own := [("at", 12)]) (g := gName 12) (by rfl) sc_lifts_for.nd (pi_range1 (by rfl) T.n_range (pa_cons pe_int pa_nil)) (blkOk_by (own := [("at", 12)]) (N := N_lifts_for) (sc := defScope s_lifts_for) (by decide +kernel)) (fun _ _ _ _ _ => (pg_name (i := 12) sc_lifts_for.nd rfl (by first | exact Or.inl rfl | exact Or.inr rfl))) (fun _ _ _ _ _ => (pts_one (pt_cmpR (k_neD K rfl hr.units) (pe_ix (k_ixL K rfl) (pv 3) (pv 12) (fun _ _ => rfl)) (pe_ix (k_ixL K rfl) (pv 2) (pv 12) (fun _ _ => rfl)) (nomark _)))) (fun _ _ _ _ _ => (pe_tup (pa_cons pe_str (pa_cons (pv 12) pa_nil)))))) pa_nil)))))))))), ?_⟩
  obtain ⟨a, b, hp, ha, hb⟩ := rows2 hR
  obtain ⟨hd, ⟨b1, b2⟩, b3, b4⟩ := id hM
  refine ⟨_, rfl, p, x, y, rfl, hR, cmx (up200 b1) (up200 b4), cmx (up200 b2) (up200 b3), hd, fun H0 s0 => ?_⟩
  refine ⟨_, rfl, p, rfl, ⟨_, .inl (.inl (s0 _ _ hp))⟩, fun gp ngp => ?_⟩
  refine lc_relL (K := K) (xs := [.ref a, .ref b]) (fun i v H' => ∃ t, v = .ref t ∧ t ≠ gp ∧ H' t = some (.tup [.int (([x, y].getD i (0, 0)).1), .int (([x, y].getD i (0, 0)).2)])) ngp (.inl (.inl (s0 _ _ hp))) (by rw [sizeLine_eq]; show 2 < _; decide) ?_ (fun x => rfl) ?_ ?_
  · rintro i v H1 H2 o ⟨t, rfl, tD, ht⟩
    exact ⟨t, rfl, tD, o _ _ tD ht⟩
  · intro i v H' zs hv s hD Qt qt
    have ex : ∃ (c : Addr) (z : Int × Int), v = .ref c ∧ H' c = some (.lst [.int z.1, .int z.2]) ∧ [x, y].getD i (0, 0) = z := by
      match i, hv with
      | 0, hv => cases hv; exact ⟨a, x, rfl, s _ _ (s0 _ _ ha), rfl⟩
      | 1, hv => cases hv; exact ⟨b, y, rfl, s _ _ (s0 _ _ hb), rfl⟩
    obtain ⟨c, z, rfl, hc, ez⟩ := ex
    refine ⟨_, rfl, c, _, rfl, .inl ⟨.inl (.inl hc), fun l nl => ?_⟩⟩
    refine qt _ _ (same_upd nl) ⟨l, rfl, (ne_of_none hD nl).symm, ?_⟩
    rw [upd_same, ez]
  intro H1 ys s1 hgp hyl hyR
  obtain ⟨ga, gb, rfl, hga, hgb⟩ : ∃ ga gb, ys = [.ref ga, .ref gb] ∧ H1 ga = some (.tup [.int x.1, .int x.2]) ∧ H1 gb = some (.tup [.int y.1, .int y.2]) := by
    match ys, hyl with
    | [u, v], _ =>
      obtain ⟨t1, rfl, _, h1⟩ := hyR 0 u rfl
      obtain ⟨t2, rfl, _, h2⟩ := hyR 1 v rfl
      exact ⟨t1, t2, rfl, h1, h2⟩
  clear hyR hyl
  refine ⟨(by show 2 ≤ sizeLine; decide), fun u0 nu0 => ?_⟩
  generalize e0 : upd _ u0 _ = H2
  obtain ⟨s2, hu0⟩ := newH nu0 e0
  refine ⟨(by show 2 ≤ sizeLine; decide), fun u1 nu1 => ?_⟩
  generalize e0 : upd _ u1 _ = H3
  obtain ⟨s3, hu1⟩ := newH nu1 e0
  refine ⟨(by show 2 ≤ sizeLine; decide), fun lp nlp => ?_⟩
  generalize e0 : upd _ lp _ = H4
  obtain ⟨s4, hlp⟩ := newH nlp e0
  refine ⟨(by show 0 ≤ sizeLine; decide), fun sp nsp => ?_⟩
  generalize e0 : upd _ sp _ = H5
  obtain ⟨s5, hsp⟩ := newH nsp e0
  refine ⟨(by show 3 ≤ sizeLine; decide), fun tt ntt => ?_⟩
  generalize e0 : upd _ tt _ = H6
  obtain ⟨s6, htt⟩ := newH ntt e0
  refine ⟨tt, _, rfl, .inl (.inl htt), rfl, _, _, rfl, _, _, rfl, _, _, rfl, rfl, ?_⟩
  dsimp only
  have s16 := s2.trans (s3.trans (s4.trans (s5.trans s6)))
  have s06 := s0.trans (s1.trans s16)
  show tSeq (tAsg _ _) _ _ [some (V.ref p), none, some (V.ref gp), some (V.ref lp), some (V.ref sp), none, none, none, none, none, none, none, none] _
  refine ⟨_, rfl, p, x, y, rfl, hR.same s06, hM, fun H7 wp w s7 hw hP => ?_⟩
  dsimp only [gName]
  show tSeq (tFor _ _ _) _ _ [some (V.ref p), some (V.ref wp), some (V.ref gp), some (V.ref lp), some (V.ref sp), none, none, none, none, none, none, none, none] _
  obtain ⟨ws, hwp, hwl, nwp, hwi⟩ := id hP
  have hw40 : w.length ≤ 40 := by rw [least_few hw]; exact hf40
  have hgp6 : H6 gp = some (.lst [.ref ga, .ref gb]) := s16 _ _ hgp
  have lgp : gp ≠ lp := ne_of_none (s3 _ _ (s2 _ _ hgp)) nlp
  have sgp : gp ≠ sp := ne_of_none (s4 _ _ (s3 _ _ (s2 _ _ hgp))) nsp
  have lsp : lp ≠ sp := fun z => by rw [← z, hlp] at nsp; cases nsp
  have hlp6 := s6 _ _ (s5 _ _ hlp)
  have hsp6 := s6 _ _ hsp
  have nM6 : ∀ {b : Addr}, H6 b = none → ¬ (b = lp ∨ b = sp) := fun n z => by
    rcases z with z | z
    · rw [z, hlp6] at n; cases n
    · rw [z, hsp6] at n; cases n
  have nM6' : ∀ {b : Addr} {ys}, H7 b = some (.tup ys) → ¬ (b = lp ∨ b = sp) := fun h z => by
    rcases z with z | z
    · rw [z, s7 _ _ hlp6] at h; cases h
    · rw [z, s7 _ _ hsp6] at h; cases h
  have hga7 := s7 _ _ (s16 _ _ hga)
  have hgb7 := s7 _ _ (s16 _ _ hgb)
  have aM : ∀ b, (b = lp ∨ b = sp) → ∃ xs, H7 b = some (.lst xs) := fun b z => by
    rcases z with rfl | rfl
    · exact ⟨_, s7 _ _ hlp6⟩
    · exact ⟨_, s7 _ _ hsp6⟩
  refine seq_join (fun σ' HA => ∃ (la lb : Int × Int) (ss : List Step) (v5 v6 v7 v8 v9 v10 : Option V), σ' = [some (.ref p), some (.ref wp), some (.ref gp), some (.ref lp), some (.ref sp), v5, v6, v7, v8, v9, v10, none, none] ∧ Lk (fun b => b = lp ∨ b = sp) H7 HA ∧ LiH lp sp HA la lb ss ∧ Fin2 x y la lb ss w.length) (fun nx hnx => ?_) ?_
  · refine ⟨_, rfl, wp, _, rfl, .inl (.inl hwp), ?_⟩
    have init : LiH lp sp H7 (1, 0) (0, 1) [] := ⟨u0, u1, [], s7 _ _ hlp6, s7 _ _ (s6 _ _ (s5 _ _ (s4 _ _ (s3 _ _ hu0)))), s7 _ _ (s6 _ _ (s5 _ _ (s4 _ _ hu1))), s7 _ _ hsp6, trivial⟩
    rcases hw with ⟨hstd, rfl⟩ | ⟨hstd, hw, _⟩
    · obtain rfl : ws = [] := List.eq_nil_of_length_eq_zero hwl
      refine for_it (walk_enum (K := K) (a := wp) (xs := ([] : List Addr).map V.ref)) (fun i σ HA => σ = [some (.ref p), some (.ref wp), some (.ref gp), some (.ref lp), some (.ref sp), none, none, none, none, none, none, none, none] ∧ HA = H7) ⟨rfl, rfl⟩ (fun i σ HA _ ⟨_, h⟩ => by rw [h]; exact .inl (.inl hwp)) ?_ ?_
      · rintro i x' σ HA HB hi
        exact absurd hi (Nat.not_lt_zero _)
      · rintro σ HA ⟨rfl, rfl⟩
        refine hnx _ _ ⟨(1, 0), (0, 1), [], none, none, none, none, none, none, rfl, Lk.refl, init, ?_, rfl, (fun s h => nomatch h), rfl, Nat.zero_le _, rfl⟩
        have pm : ∀ {q g : Int × Int}, plc g = q → Pm q g := fun {q g} h => by
          obtain ⟨e, he, h1⟩ := plc_sgn g
          exact ⟨e, he, by rw [← h, h1]⟩
        rcases hstd with ⟨h1, h2⟩ | ⟨h1, h2⟩
        · exact .inr ⟨pm h2, pm h1⟩
        · exact .inl ⟨pm h1, pm h2⟩
    · obtain ⟨P0, G0, hwo⟩ := way_ok hM hw
      obtain ⟨g1, g2, hpt⟩ := pts_of hM hwo
      refine for_it (walk_enum (K := K) (a := wp) (xs := ws.map V.ref)) (fun i σ HA => ∃ (la lb P G : Int × Int) (ss : List Step) (v5 v6 v7 v8 v9 v10 : Option V), σ = [some (.ref p), some (.ref wp), some (.ref gp), some (.ref lp), some (.ref sp), v5, v6, v7, v8, v9, v10, none, none] ∧ Lk (fun b => b = lp ∨ b = sp) H7 HA ∧ LiH lp sp HA la lb ss ∧ (w ++ [g2])[i]? = some P ∧ (i = 0 → G = G0) ∧ (0 < i → (w ++ [g2])[i - 1]? = some G) ∧ LS P G la lb ss i) ?_ (fun i σ HA _ ⟨_, _, _, _, _, _, _, _, _, _, _, _, k, _⟩ => .inl (.inl (k _ _ (nM6 nwp) hwp))) ?_ ?_
      · refine ⟨(1, 0), (0, 1), P0, G0, [], none, none, none, none, none, none, rfl, Lk.refl, init, hpt.first, fun _ => rfl, fun h => absurd h (Nat.lt_irrefl 0), ?_, ?_, unit_ln, (fun s h => nomatch h), rfl, Nat.le_refl _, rfl⟩
        · rcases hpt.start with ⟨rfl, rfl⟩ | ⟨rfl, rfl⟩
          · exact .inl ⟨rfl, rfl⟩
          · exact .inr ⟨rfl, rfl⟩
        · rcases hpt.start with ⟨rfl, rfl⟩ | ⟨rfl, rfl⟩
          · exact .inl rfl
          · exact .inr rfl
      · rintro i x' σ HA HB hi ⟨la, lb, P, G, ss, v5, v6, v7, v8, v9, v10, rfl, kA, ⟨ua, ub, vs, hlpA, hua, hub, hspA, hvs⟩, hPi, hG0, hGi, hLS⟩ ⟨T1, y1, z1, rfl, nT, rfl, e1, ez1⟩
        cases e1
        dsimp only at ez1
        rw [List.getElem?_map] at ez1
        obtain ⟨wi, hwi', rfl⟩ := Option.map_eq_some_iff.mp ez1
        have hiw : i < w.length := by rw [← hwl]; exact (List.getElem?_eq_some_iff.mp hwi').1
        have hPw : w[i]? = some P := by rw [List.getElem?_append_left hiw] at hPi; exact hPi
        obtain ⟨nwi, hwiP⟩ := hwi i wi P hwi' hPw
        obtain ⟨O, hO⟩ : ∃ O, (w ++ [g2])[i + 1]? = some O := ⟨_, List.getElem?_eq_getElem (by rw [List.length_append]; show i + 1 < w.length + 1; omega)⟩
        have hPO := hpt.next i P O hPi hO
        have bP := hpt.bd P (List.mem_of_getElem? hPi)
        have bO := hpt.bd O (List.mem_of_getElem? hO)
        have bG : Sm G := by
          by_cases c : i = 0
          · rw [hG0 c]
            rcases hpt.start with ⟨_, rfl⟩ | ⟨_, rfl⟩ <;> exact ⟨by decide, by decide⟩
          · exact hpt.bd G (List.mem_of_getElem? (hGi (by omega)))
        have sT := same_upd (o := .tup [V.int ((i : Nat) : Int), .ref wi]) nT
        refine ⟨T1, _, rfl, .inl (.inl upd_same), rfl, _, _, rfl, _, _, rfl, rfl, ?_⟩
        generalize upd HA T1 (.tup [V.int ((i : Nat) : Int), .ref wi]) = HB at *
        have hwiA := sT _ _ (kA _ _ (nM6 nwi) hwiP)
        have hgpB := sT _ _ (kA _ _ (fun z => z.elim lgp sgp) (s7 _ _ hgp6))
        have hgaB := sT _ _ (kA _ _ (nM6' hga7) hga7)
        have hgbB := sT _ _ (kA _ _ (nM6' hgb7) hgb7)
        have hwpB := sT _ _ (kA _ _ (nM6 nwp) hwp)
        have hlpB := sT _ _ hlpA
        have huaB := sT _ _ hua
        have hubB := sT _ _ hub
        have hspB := sT _ _ hspA
        show tSeq (tAsg _ _) _ _ [some (V.ref p), some (V.ref wp), some (V.ref gp), some (V.ref lp), some (V.ref sp), some (V.int ((i : Nat) : Int)), some (V.ref wi), v7, v8, v9, v10, none, none] _
        -- which line is kept
        refine ⟨_, rfl, lp, _, _, _, rfl, rfl, .inl (.inl hlpB), atI_nat (j := 1) rfl, .ref ub, lb, rfl, ⟨ub, rfl, .inr hubB⟩, fun HC q1 sC nq1 hq1 => ?_⟩
        refine ⟨_, rfl, .ref wi, P, rfl, ⟨wi, rfl, .inr (sC _ _ hwiA)⟩, fun HD q2 sD nq2 hq2 => ?_⟩
        refine eq_pair (sD _ _ hq1) hq2 (.inr ⟨_, rfl, ?_⟩)
        obtain ⟨hh, ehh, hcase⟩ : ∃ hh : Nat, (if decide (plc lb = plc P) = true then (1 : Int) else 0) = (hh : Int) ∧ ((hh = 1 ∧ la = G ∧ lb = P) ∨ (hh = 0 ∧ la = P ∧ lb = G)) := by
          rcases hLS.pos with ⟨h1, h2⟩ | ⟨h1, h2⟩
          · exact ⟨0, by rw [if_neg (by rw [decide_eq_true_eq, h2]; exact plc_ne hLS.det)]; rfl, .inr ⟨rfl, h1, h2⟩⟩
          · exact ⟨1, by rw [if_pos (by rw [decide_eq_true_eq, h2])]; rfl, .inl ⟨rfl, h1, h2⟩⟩
        rw [ehh]
        have sBD := sC.trans sD
        dsimp only [gName]
        show tSeq (tAsg _ _) _ _ [some (V.ref p), some (V.ref wp), some (V.ref gp), some (V.ref lp), some (V.ref sp), some (V.int ((i : Nat) : Int)), some (V.ref wi), some (V.int (hh : Int)), v8, v9, v10, none, none] _
        -- the goal
        refine asg_join (fun v H' => ∃ og, v = .ref og ∧ Same HD H' ∧ H' og = some (.tup [.int O.1, .int O.2])) (fun Q' hQ' => ?_) ?_
        · refine ⟨_, rfl, _, rfl, gp, rfl, ⟨_, .inl (.inl (sBD _ _ hgpB))⟩, fun L nL => ?_⟩
          refine lc_selL (K := K) (a := gp) (xs := [.ref ga, .ref gb]) [if plc x ≠ plc P then some (V.ref ga) else none, if plc y ≠ plc P then some (V.ref gb) else none] nL (.inl (.inl (sBD _ _ hgpB))) rfl (by rw [sizeLine_eq]; show 2 < _; decide) (fun x => rfl) ?_ ?_
          · intro j v o H' hv ho s' Qt qt
            have ex : ∃ (c : Addr) (z : Int × Int), v = .ref c ∧ H' c = some (.tup [.int z.1, .int z.2]) ∧ o = if plc z ≠ plc P then some (V.ref c) else none := by
              match j, hv, ho with
              | 0, hv, ho => cases hv; cases ho; exact ⟨ga, x, rfl, s' _ _ (sBD _ _ hgaB), rfl⟩
              | 1, hv, ho => cases hv; cases ho; exact ⟨gb, y, rfl, s' _ _ (sBD _ _ hgbB), rfl⟩
            obtain ⟨c, z, rfl, hc, rfl⟩ := ex
            refine ⟨_, rfl, .ref c, z, rfl, ⟨c, rfl, .inr hc⟩, fun HF r1 sF nr1 hr1 => ?_⟩
            refine ⟨_, rfl, .ref wi, P, rfl, ⟨wi, rfl, .inr (sF _ _ (s' _ _ (sBD _ _ hwiA)))⟩, fun HG r2 sG nr2 hr2 => ?_⟩
            refine ne_pair (sG _ _ hr1) hr2 ⟨_, rfl, ?_⟩
            by_cases d : plc z = plc P
            · rw [decide_eq_true d]
              rw [if_neg (fun z => z d)] at qt
              exact iteF (qt _ (sF.trans sG))
            · rw [decide_eq_false d]
              rw [if_pos d] at qt
              exact iteT ⟨_, rfl, qt _ (sF.trans sG)⟩
          intro HF sF hL
          have hwpF := sF _ _ (sBD _ _ hwpB)
          refine ⟨wp, L, _, _, rfl, rfl, hwpF, hL, ?_, fun jl nj => ?_⟩
          · have h2 := List.length_filterMap_le id [if plc x ≠ plc P then some (V.ref ga) else none, if plc y ≠ plc P then some (V.ref gb) else none]
            have h3 : [if plc x ≠ plc P then some (V.ref ga) else none, if plc y ≠ plc P then some (V.ref gb) else none].length = 2 := rfl
            rw [List.length_map, hwl, sizeLine_eq]
            omega
          generalize e0 : upd _ jl _ = HG
          obtain ⟨sG, hjl⟩ := newH nj e0
          refine ⟨_, rfl, _, _, rfl, rfl, ?_⟩
          have sDG := sF.trans sG
          dsimp only
          rw [show ((i : Nat) : Int) + 1 = ((i + 1 : Nat) : Int) by omega]
          by_cases c : i + 1 < w.length
          · rw [List.getElem?_append_left c] at hO
            obtain ⟨oa, hoa⟩ : ∃ oa, ws[i + 1]? = some oa := ⟨_, List.getElem?_eq_getElem (by rw [hwl]; exact c)⟩
            obtain ⟨noa, hoaO⟩ := hwi (i + 1) oa O hoa hO
            refine ⟨jl, _, _, _, rfl, rfl, .inl (.inl hjl), atI_nat (j := i + 1) (v := .ref oa) ?_, hQ' _ _ ⟨oa, rfl, sDG, sDG _ _ (sBD _ _ (sT _ _ (kA _ _ (nM6 noa) hoaO)))⟩⟩
            rw [List.getElem?_append_left (by rw [List.length_map, hwl]; exact c), List.getElem?_map, hoa]
            rfl
          · have ei : i + 1 = w.length := by omega
            rw [ei, List.getElem?_append_right (Nat.le_refl _), Nat.sub_self] at hO
            cases hO
            obtain ⟨e, L0, he, hL0, hwL⟩ := hpt.last
            rw [show w.length - 1 = i by omega, hPw] at hwL
            cases hwL
            have hxy : sgn (crs x y) := hM.1
            have hyx : sgn (crs y x) := by
              have : crs y x = - crs x y := by unfold crs; grind
              rw [this]
              rcases hxy with z | z
              · right; omega
              · left; omega
            have fin : ∃ oc, ([if plc x ≠ plc P then some (V.ref ga) else none, if plc y ≠ plc P then some (V.ref gb) else none].filterMap id)[0]? = some (V.ref oc) ∧ HG oc = some (.tup [.int g2.1, .int g2.2]) := by
              rcases hpt.goal with ⟨rfl, rfl⟩ | ⟨rfl, rfl⟩
              · have e1 : plc g1 = plc P := by rw [hL0, plc_mul he (crs_ne hxy)]
                have e2 : plc g2 ≠ plc P := by rw [← e1]; exact plc_ne hxy
                rw [if_neg (fun z => z e1), if_pos e2]
                exact ⟨gb, rfl, sDG _ _ (sBD _ _ hgbB)⟩
              · have e1 : plc g1 = plc P := by rw [hL0, plc_mul he (crs_ne hyx)]
                have e2 : plc g2 ≠ plc P := by rw [← e1]; exact plc_ne hyx
                rw [if_pos e2, if_neg (fun z => z e1)]
                exact ⟨ga, rfl, sDG _ _ (sBD _ _ hgaB)⟩
            obtain ⟨oc, hf0, hoc⟩ := fin
            refine ⟨jl, _, _, _, rfl, rfl, .inl (.inl hjl), atI_nat (j := i + 1) (v := .ref oc) ?_, hQ' _ _ ⟨oc, rfl, sDG, hoc⟩⟩
            rw [List.getElem?_append_right (by rw [List.length_map, hwl]; omega), List.length_map, hwl, ei, Nat.sub_self]
            exact hf0
        rintro _ HE ⟨og, rfl, sE, hog⟩
        dsimp only [gName]
        show tSeq (tAsg _ _) _ _ [some (V.ref p), some (V.ref wp), some (V.ref gp), some (V.ref lp), some (V.ref sp), some (V.int ((i : Nat) : Int)), some (V.ref wi), some (V.int (hh : Int)), some (V.ref og), v9, v10, none, none] _
        have sBE := sBD.trans sE
        have hlpE := sBE _ _ hlpB
        obtain ⟨up, ug, hup, hug, hupP, hugG⟩ : ∃ up ug, atI [V.ref ua, .ref ub] (hh : Int) = some (.ref up) ∧ atI [V.ref ua, .ref ub] (1 - (hh : Int)) = some (.ref ug) ∧ HE up = some (.tup [.int P.1, .int P.2]) ∧ HE ug = some (.tup [.int G.1, .int G.2]) := by
          rcases hcase with ⟨rfl, rfl, rfl⟩ | ⟨rfl, rfl, rfl⟩
          · exact ⟨ub, ua, rfl, rfl, sBE _ _ hubB, sBE _ _ huaB⟩
          · exact ⟨ua, ub, rfl, rfl, sBE _ _ huaB, sBE _ _ hubB⟩
        refine ⟨_, rfl, _, rfl, lp, _, _, _, rfl, rfl, .inl (.inl hlpE), hup, _, rfl, _, rfl, _, _, rfl, rfl, lp, _, _, _, rfl, rfl, .inl (.inl hlpE), hug, _, rfl, .ref up, .ref ug, .ref og, P, G, O, rfl, ⟨up, rfl, .inr hupP⟩, ⟨ug, rfl, .inr hugG⟩, ⟨og, rfl, .inr hog⟩, bP, bG, bO, hLS.det, hPO, fun HF pr sF hpr => ?_⟩
        refine ⟨pr, _, rfl, .inl (.inl hpr), rfl, _, _, rfl, _, _, rfl, rfl, ?_⟩
        have hnext := hLS.next hPO (B := 2 ^ 80) (by rw [p80]; decide) bG.1 bG.2 bO.1 bO.2
        have hwt := lift_bd hLS.det hPO bG.1 bG.2 bO.1 bO.2
        generalize crs P O * crs P G * crs O G * crs P G = wt at *
        generalize crs P O * crs P G = sg at *
        dsimp only
        show tSeq (tDrop _) _ _ [some (V.ref p), some (V.ref wp), some (V.ref gp), some (V.ref lp), some (V.ref sp), some (V.int ((i : Nat) : Int)), some (V.ref wi), some (V.int (hh : Int)), some (V.ref og), some (V.int sg), some (V.int wt), none, none] _
        have sBF := sBE.trans sF
        have h01 : (hh : Int) = 0 ∨ (hh : Int) = 1 := by rcases hcase with ⟨rfl, _⟩ | ⟨rfl, _⟩ <;> omega
        have b200 : wt.natAbs < 2 ^ 200 := Nat.lt_trans hwt (by decide +kernel)
        have bh : (hh : Int).natAbs < 2 ^ 200 := by rcases h01 with z | z <;> rw [z] <;> decide
        have b1h : (1 - (hh : Int)).natAbs < 2 ^ 200 := by rcases h01 with z | z <;> rw [z] <;> decide
        have hspF := sBF _ _ hspB
        have hvl := hvs.len
        have hsl := hLS.len
        refine ⟨_, rfl, .inl ⟨rfl, _, .inl (.inl hspF)⟩, _, rfl, _, _, rfl, rfl, _, rfl, _, rfl, _, _, rfl, rfl, _, _, rfl, rfl, cmx b200 b1h, _, rfl, _, rfl, _, _, rfl, rfl, cmx b200 bh, (by show 2 ≤ sizeLine; decide), fun wl nwl => ?_⟩
        generalize e0 : upd _ wl _ = HG
        obtain ⟨sG, hwlG⟩ := newH nwl e0
        refine ⟨(by show 4 ≤ sizeLine; decide), fun lt nlt => ?_⟩
        generalize e0 : upd _ lt _ = HH
        obtain ⟨sH, hlt⟩ := newH nlt e0
        have sFH := sG.trans sH
        refine ⟨sp, _, _, rfl, rfl, sFH _ _ hspF, by rw [hvl, sizeLine_eq]; omega, ?_⟩
        generalize e0 : upd _ sp _ = HI
        have sAH := (sT.trans sBF).trans sFH
        have nMl : ∀ {H' : Hp} {b : Addr}, Same HA H' → H' b = none → ¬ (b = lp ∨ b = sp) := fun s' n z => by
          rcases z with z | z
          · rw [z, s' _ _ hlpA] at n; cases n
          · rw [z, s' _ _ hspA] at n; cases n
        have hwlN := nMl (sT.trans sBF) nwl
        obtain ⟨st, hst, hcs⟩ : ∃ st : Step, StepV (fun b => ¬ (b = lp ∨ b = sp)) HH (.ref lt) st ∧ ((hh = 1 ∧ la = G ∧ lb = P ∧ st = .lift 0 [0, wt] 0) ∨ (hh = 0 ∧ la = P ∧ lb = G ∧ st = .lift 1 [wt, 0] 0)) := by
          rcases hcase with ⟨rfl, h1, h2⟩ | ⟨rfl, h1, h2⟩
          · refine ⟨.lift 0 [0, wt] 0, ⟨lt, wl, rfl, hlt, ?_, hwlN⟩, .inl ⟨rfl, h1, h2, rfl⟩⟩
            have e : (HO.lst [V.int (wt * (1 - ((1 : Nat) : Int))), V.int (wt * ((1 : Nat) : Int))]) = .lst (([0, wt] : List Int).map V.int) := by
              rw [show wt * (1 - ((1 : Nat) : Int)) = 0 by omega, show wt * ((1 : Nat) : Int) = wt by omega]
              rfl
            rw [← e]
            exact sH _ _ hwlG
          · refine ⟨.lift 1 [wt, 0] 0, ⟨lt, wl, rfl, hlt, ?_, hwlN⟩, .inr ⟨rfl, h1, h2, rfl⟩⟩
            have e : (HO.lst [V.int (wt * (1 - ((0 : Nat) : Int))), V.int (wt * ((0 : Nat) : Int))]) = .lst (([wt, 0] : List Int).map V.int) := by
              rw [show wt * (1 - ((0 : Nat) : Int)) = wt by omega, show wt * ((0 : Nat) : Int) = 0 by omega]
              rfl
            rw [← e]
            exact sH _ _ hwlG
        have hlpH := sAH _ _ hlpA
        obtain ⟨hvI, hspI, kI⟩ := app_step hvs sAH hst (sAH _ _ hspA) hlpH e0
        have tupI : ∀ {b ys}, HH b = some (.tup ys) → HI b = some (.tup ys) := fun h => Lk.tup (H0 := HH) kI (fun b z => by rcases z with rfl | rfl; exact ⟨_, hlpH⟩; exact ⟨_, sAH _ _ hspA⟩) h
        have hlpI : HI lp = some (.lst [.ref ua, .ref ub]) := by rw [← e0, upd_ne lsp]; exact hlpH
        have huaI := tupI (sAH _ _ hua)
        have hubI := tupI (sAH _ _ hub)
        have hogI := tupI (sFH _ _ (sF _ _ hog))
        have kAI : Lk (fun b => b = lp ∨ b = sp) H7 HI := kA.trans ((Lk.of sAH).trans kI)
        clear e0
        dsimp only
        show tSeq (tIfS _ _ _) _ _ [some (V.ref p), some (V.ref wp), some (V.ref gp), some (V.ref lp), some (V.ref sp), some (V.int ((i : Nat) : Int)), some (V.ref wi), some (V.int (hh : Int)), some (V.ref og), some (V.int sg), some (V.int wt), none, none] _
        have hnn : ((1 - hh : Nat) : Int) = 1 - (hh : Int) := by rcases hcase with ⟨rfl, _⟩ | ⟨rfl, _⟩ <;> omega
        -- a turn
        refine seq_join (fun σ' HJ => σ' = [some (.ref p), some (.ref wp), some (.ref gp), some (.ref lp), some (.ref sp), some (.int ((i : Nat) : Int)), some (.ref wi), some (.int (hh : Int)), some (.ref og), some (.int sg), some (.int wt), none, none] ∧ Lk (fun b => b = lp ∨ b = sp) HI HJ ∧ HJ lp = some (.lst [.ref ua, .ref ub]) ∧ ∃ vs', HJ sp = some (.lst vs') ∧ AllV (StepV (fun b => ¬ (b = lp ∨ b = sp)) HJ) vs' (ss ++ [st] ++ turnIf sg (1 - hh))) (fun nx hnx => ?_) ?_
        · refine ⟨_, rfl, _, _, rfl, rfl, _, rfl, ?_⟩
          unfold turnIf at hnx
          by_cases cs : sg < 0
          · rw [decide_eq_true cs]
            rw [if_pos cs] at hnx
            refine iteT ?_
            refine ⟨_, rfl, .inl ⟨rfl, _, .inl (.inl hspI)⟩, _, rfl, _, _, rfl, rfl, (by show 2 ≤ sizeLine; decide), fun ut nut => ?_⟩
            generalize e0 : upd _ ut _ = HJ
            obtain ⟨sJ, hut⟩ := newH nut e0
            refine ⟨sp, _, _, rfl, rfl, sJ _ _ hspI, by rw [List.length_append, hvl, sizeLine_eq]; show ss.length + 1 < _; omega, ?_⟩
            generalize e0 : upd _ sp _ = HK
            obtain ⟨hvK, hspK, kK⟩ := app_step (st := .turn (1 - hh)) hvI sJ ⟨ut, rfl, by rw [hnn]; exact hut⟩ (sJ _ _ hspI) (sJ _ _ hlpI) e0
            exact hnx _ _ ⟨rfl, (Lk.of sJ).trans kK, by rw [← e0, upd_ne lsp]; exact sJ _ _ hlpI, _, hspK, hvK⟩
          · rw [decide_eq_false cs]
            rw [if_neg cs] at hnx
            exact iteF (hnx _ _ ⟨rfl, Lk.refl, hlpI, _, hspI, by rw [List.append_nil]; exact hvI⟩)
        rintro _ HJ ⟨rfl, kJ, hlpJ, vs', hspJ, hvJ⟩
        have aI : ∀ b, (b = lp ∨ b = sp) → ∃ xs, HI b = some (.lst xs) := fun b z => by
          rcases z with rfl | rfl
          · exact ⟨_, hlpI⟩
          · exact ⟨_, hspI⟩
        have huaJ := Lk.tup (H0 := HI) kJ aI huaI
        have hubJ := Lk.tup (H0 := HI) kJ aI hubI
        have hogJ := Lk.tup (H0 := HI) kJ aI hogI
        have aJ : ∀ b, (b = lp ∨ b = sp) → ∃ xs, HJ b = some (.lst xs) := fun b z => by
          rcases z with rfl | rfl
          · exact ⟨_, hlpJ⟩
          · exact ⟨_, hspJ⟩
        have hO' : (w ++ [g2])[i + 1 - 1]? = some P := hPi
        have kL : ∀ {o}, Lk (fun b => b = lp ∨ b = sp) HJ (upd HJ lp o) := Lk.at_ (.inl rfl)
        rcases hcs with ⟨rfl, rfl, rfl, rfl⟩ | ⟨rfl, rfl, rfl, rfl⟩
        · refine ⟨_, rfl, _, rfl, _, rfl, _, _, rfl, rfl, lp, _, _, 0, rfl, rfl, hlpJ, rfl, ?_⟩
          refine ⟨O, lb, O, lb, _, _, _, _, _, _, _, rfl, kAI.trans (kJ.trans kL), ⟨og, ub, vs', upd_same, Lk.tup (H0 := HJ) kL aJ hogJ, Lk.tup (H0 := HJ) kL aJ hubJ, by rw [upd_ne lsp.symm]; exact hspJ, hvJ.imp fun v s' h => h.lk kL aJ fun l n => n⟩, hO, fun z => absurd z (Nat.succ_ne_zero _), fun _ => hO', hnext.1 rfl⟩
        · refine ⟨_, rfl, _, rfl, _, rfl, _, _, rfl, rfl, lp, _, _, 1, rfl, rfl, hlpJ, rfl, ?_⟩
          refine ⟨la, O, O, la, _, _, _, _, _, _, _, rfl, kAI.trans (kJ.trans kL), ⟨ua, og, vs', upd_same, Lk.tup (H0 := HJ) kL aJ huaJ, Lk.tup (H0 := HJ) kL aJ hogJ, by rw [upd_ne lsp.symm]; exact hspJ, hvJ.imp fun v s' h => h.lk kL aJ fun l n => n⟩, hO, fun z => absurd z (Nat.succ_ne_zero _), fun _ => hO', hnext.2 rfl⟩
      · rintro σ HA ⟨la, lb, P, G, ss, v5, v6, v7, v8, v9, v10, rfl, kA, hLi, hPi, hG0, hGi, hLS⟩
        rw [List.length_map, hwl] at hPi hGi hLS
        refine hnx _ _ ⟨la, lb, ss, v5, v6, v7, v8, v9, v10, rfl, kA, hLi, ?_, hLS.num, hLS.ok, hLS.sh, hLS.len, hLS.cnt⟩
        rw [List.getElem?_append_right (Nat.le_refl _), Nat.sub_self] at hPi
        cases hPi
        have hG := hGi hpt.ne
        rw [List.getElem?_append_left (by have := hpt.ne; omega)] at hG
        obtain ⟨e, L0, he, hL0, hwL⟩ := hpt.last
        rw [hG] at hwL
        cases hwL
        have pG : Pm G g1 := ⟨e, he, hL0⟩
        have pP : Pm g2 g2 := ⟨1, .inl rfl, by rw [Int.one_mul, Int.one_mul]⟩
        rcases hLS.pos with ⟨rfl, rfl⟩ | ⟨rfl, rfl⟩ <;> rcases hpt.goal with ⟨rfl, rfl⟩ | ⟨rfl, rfl⟩
        · exact .inr ⟨pP, pG⟩
        · exact .inl ⟨pP, pG⟩
        · exact .inl ⟨pG, pP⟩
        · exact .inr ⟨pG, pP⟩
  rintro _ HA ⟨la, lb, ss, v5, v6, v7, v8, v9, v10, rfl, kA, ⟨ua, ub, vs, hlpA, hua, hub, hspA, hvs⟩, hF⟩
  have hxy : sgn (crs x y) := hM.1
  have hyx : sgn (crs y x) := by
    have : crs y x = - crs x y := by unfold crs; grind
    rw [this]
    rcases hxy with z | z
    · right; omega
    · left; omega
  have pmc : ∀ {q g : Int × Int}, Pm q g → (g.1 ≠ 0 ∨ g.2 ≠ 0) → plc q = plc g := fun ⟨e, he, h⟩ hn => by rw [h, plc_mul he hn]
  have aA : ∀ b, (b = lp ∨ b = sp) → ∃ xs, HA b = some (.lst xs) := fun b z => by
    rcases z with rfl | rfl
    · exact ⟨_, hlpA⟩
    · exact ⟨_, hspA⟩
  have hgpA := kA _ _ (fun z => z.elim lgp sgp) (s7 _ _ hgp6)
  have hgaA := kA _ _ (nM6' hga7) hga7
  have hgbA := kA _ _ (nM6' hgb7) hgb7
  have hvl := hvs.len
  have sH7 : Same H H7 := s06.trans s7
  have nHl : H lp = none := none_back (s0.trans (s1.trans (s2.trans s3))) nlp
  have nHs : H sp = none := none_back (s0.trans (s1.trans (s2.trans (s3.trans s4)))) nsp
  have sHA : Same H HA := fun b o h => kA _ _ (fun z => by rcases z with rfl | rfl; rw [nHl] at h; cases h; rw [nHs] at h; cases h) (sH7 _ _ h)
  -- the rows in their order
  refine seq_join (fun σ' HB => ∃ (l2 ua ub : Addr) (la lb : Int × Int) (ss : List Step) (vs : List V), σ' = [some (.ref p), some (.ref wp), some (.ref gp), some (.ref l2), some (.ref sp), v5, v6, v7, v8, v9, v10, none, none] ∧ Same H HB ∧ HB gp = some (.lst [.ref ga, .ref gb]) ∧ HB ga = some (.tup [.int x.1, .int x.2]) ∧ HB gb = some (.tup [.int y.1, .int y.2]) ∧ HB l2 = some (.lst [.ref ua, .ref ub]) ∧ HB ua = some (.tup [.int la.1, .int la.2]) ∧ HB ub = some (.tup [.int lb.1, .int lb.2]) ∧ HB sp = some (.lst vs) ∧ AllV (StepV (fun _ => True) HB) vs ss ∧ Pm la x ∧ Pm lb y ∧ numF 2 ss = lnM la lb ∧ (∀ s ∈ ss, s.ok 2) ∧ bitsS ss = 0 ∧ ss.length ≤ 2 * w.length + 1 ∧ (ss.filter isLift).length = w.length) (fun nx hnx => ?_) ?_
  · refine ⟨_, rfl, lp, _, _, _, rfl, rfl, .inl (.inl hlpA), atI_nat (j := 0) rfl, .ref ua, la, rfl, ⟨ua, rfl, .inr hua⟩, fun HB q1 sB nq1 hq1 => ?_⟩
    refine ⟨_, rfl, gp, _, _, _, rfl, rfl, .inl (.inl (sB _ _ hgpA)), atI_nat (j := 0) rfl, .ref ga, x, rfl, ⟨ga, rfl, .inr (sB _ _ hgaA)⟩, fun HC q2 sC nq2 hq2 => ?_⟩
    refine ne_pair (sC _ _ hq1) hq2 ⟨_, rfl, ?_⟩
    have sAC := sB.trans sC
    rcases hF.ends with ⟨h1, h2⟩ | ⟨h1, h2⟩
    · rw [decide_eq_true (pmc h1 (crs_ne hxy))]
      exact iteF (hnx _ _ ⟨lp, ua, ub, la, lb, ss, vs, rfl, sHA.trans sAC, sAC _ _ hgpA, sAC _ _ hgaA, sAC _ _ hgbA, sAC _ _ hlpA, sAC _ _ hua, sAC _ _ hub, sAC _ _ hspA, hvs.imp fun v s' h => (h.same sAC).mono fun _ _ => trivial, h1, h2, hF.num, hF.ok, hF.sh, by have := hF.len; omega, hF.cnt⟩)
    · rw [decide_eq_false (show ¬ plc la = plc x by rw [pmc h1 (crs_ne hyx)]; exact plc_ne hxy)]
      refine iteT ?_
      have hspC := sAC _ _ hspA
      have hlpC := sAC _ _ hlpA
      refine ⟨_, rfl, .inl ⟨rfl, _, .inl (.inl hspC)⟩, (by show 3 ≤ sizeLine; decide), fun ut nut => ?_⟩
      generalize e0 : upd _ ut _ = HD
      obtain ⟨sD, hut⟩ := newH nut e0
      have hfl := hF.len
      refine ⟨sp, _, _, rfl, rfl, sD _ _ hspC, by rw [hvl, sizeLine_eq]; omega, ?_⟩
      generalize e0 : upd _ sp _ = HE
      obtain ⟨hvE, hspE, kE⟩ := app_step (st := .swap 0 1) hvs (sAC.trans sD) ⟨ut, rfl, hut⟩ (sD _ _ hspC) (sD _ _ hlpC) e0
      have aD : ∀ b, (b = lp ∨ b = sp) → ∃ xs, HD b = some (.lst xs) := fun b z => by
        rcases z with rfl | rfl
        · exact ⟨_, sD _ _ hlpC⟩
        · exact ⟨_, sD _ _ hspC⟩
      have hlpE : HE lp = some (.lst [.ref ua, .ref ub]) := by rw [← e0, upd_ne lsp]; exact sD _ _ hlpC
      have sADx := sAC.trans sD
      have gpE : HE gp = some (.lst [.ref ga, .ref gb]) := by rw [← e0, upd_ne sgp]; exact sADx _ _ hgpA
      have gaE := Lk.tup (H0 := HD) kE aD (sADx _ _ hgaA)
      have gbE := Lk.tup (H0 := HD) kE aD (sADx _ _ hgbA)
      have uaE := Lk.tup (H0 := HD) kE aD (sADx _ _ hua)
      have ubE := Lk.tup (H0 := HD) kE aD (sADx _ _ hub)
      have sHE : Same H HE := fun b o h => by
        rw [← e0, upd_ne fun z => by rw [z, nHs] at h; cases h]
        exact sADx _ _ (sHA _ _ h)
      clear e0
      dsimp only
      refine ⟨_, rfl, lp, _, rfl, .inl (.inl hlpE), fun l2 nl2 => ?_⟩
      generalize e0 : upd _ l2 _ = HG
      obtain ⟨sG, hl2⟩ := newH nl2 e0
      refine hnx _ _ ⟨l2, ub, ua, lb, la, ss ++ [.swap 0 1], _, rfl, sHE.trans sG, sG _ _ gpE, sG _ _ gaE, sG _ _ gbE, hl2, sG _ _ ubE, sG _ _ uaE, sG _ _ hspE, hvE.imp fun v s' h => (h.same sG).mono fun _ _ => trivial, h2, h1, by rw [num_snoc, hF.num, swap01], fun s' hs' => ?_, by rw [bits_app, hF.sh]; rfl, by rw [List.length_append]; show ss.length + 1 ≤ _; omega, by rw [List.filter_append, List.length_append, hF.cnt]; rfl⟩
      rcases List.mem_append.mp hs' with h | h
      · exact hF.ok _ h
      · rw [List.mem_singleton.mp h]
        exact ⟨by decide, by decide, by decide⟩
  clear hvs hvl hF hlpA hua hub hspA kA aA hgpA hgaA hgbA sHA
  rintro _ HB ⟨l2, ua, ub, la, lb, ss, vs, rfl, sHB, hgpB, hgaB, hgbB, hl2, hua, hub, hspB, hvs, hpx, hpy, hnum, hok, hsh, hlen, hcnt⟩
  have hvl := hvs.len
  refine ⟨_, rfl, _, rfl, by decide, by decide, fun D nD => ?_⟩
  refine lc_range (lo := 0) (n := 2) (fun i H' => Same HB H' ∧ ∃ us, H' D = some (.lst us) ∧ AllV (StepV (fun b => b ≠ D) H') us ((if 0 < i then tnF la x 0 else []) ++ (if 1 < i then tnF lb y 1 else []))) ⟨same_upd nD, [], upd_same, trivial⟩ ?_ ?_
  · rintro i H' hi ⟨sH', us, hD, hus⟩
    refine ⟨rfl, ?_⟩
    have cas : ∃ (ul gl : Addr) (q g : Int × Int), [V.ref ua, .ref ub][i]? = some (.ref ul) ∧ [V.ref ga, .ref gb][i]? = some (.ref gl) ∧ H' ul = some (.tup [.int q.1, .int q.2]) ∧ H' gl = some (.tup [.int g.1, .int g.2]) ∧ ((if 0 < i + 1 then tnF la x 0 else []) ++ (if 1 < i + 1 then tnF lb y 1 else [])) = ((if 0 < i then tnF la x 0 else []) ++ (if 1 < i then tnF lb y 1 else [])) ++ tnF q g i := by
      match i, hi with
      | 0, _ => exact ⟨ua, ga, la, x, rfl, rfl, sH' _ _ hua, sH' _ _ hgaB, by simp⟩
      | 1, _ => exact ⟨ub, gb, lb, y, rfl, rfl, sH' _ _ hub, sH' _ _ hgbB, by simp⟩
    obtain ⟨ul, gl, q1, g1, hul, hgl, hulq, hglg, enx⟩ := cas
    have hus2 := hus.len
    have l2t : ((if 0 < i then tnF la x 0 else []) ++ (if 1 < i then tnF lb y 1 else [])).length ≤ 2 := by
      have := (tn_facts la x lb y).2.2.1
      rw [List.length_append] at this ⊢
      have a : ∀ (c : Prop) [Decidable c] (t : List Step), (if c then t else []).length ≤ t.length := fun c _ t => by split <;> simp
      have := a (0 < i) (tnF la x 0)
      have := a (1 < i) (tnF lb y 1)
      omega
    rw [Int.zero_add]
    refine ⟨_, rfl, _, rfl, l2, _, _, _, rfl, rfl, .inl (.inl (sH' _ _ hl2)), atI_nat hul, _, rfl, _, rfl, gp, _, _, _, rfl, rfl, .inl (.inl (sH' _ _ hgpB)), atI_nat hgl, ?_⟩
    refine ne_pair hulq hglg ⟨_, rfl, ?_⟩
    have sU : ∀ {H'' : Hp} {o}, Same H' H'' → Same HB (upd H'' D o) := fun {H'' o} s'' b u h => by
      rw [upd_ne fun z => by rw [z, nD] at h; cases h]
      exact s'' _ _ (sH' _ _ h)
    by_cases c : q1 = g1
    · rw [decide_eq_true c]
      refine iteF ⟨sH', us, hD, ?_⟩
      rw [enx]
      unfold tnF at *
      rw [if_pos c, List.append_nil]
      exact hus
    · rw [decide_eq_false c]
      refine iteT ⟨_, rfl, (by show 2 ≤ sizeLine; decide), fun ut nut => ?_⟩
      generalize e0 : upd _ ut _ = HC
      obtain ⟨sC, hut⟩ := newH nut e0
      refine ⟨us, sC _ _ hD, by rw [hus2, sizeLine_eq]; omega, sU sC, us ++ [.ref ut], upd_same, ?_⟩
      have kD : Lk (fun b => b = D) HC (upd HC D (.lst (us ++ [.ref ut]))) := Lk.at_ rfl
      have aD : ∀ b, b = D → ∃ xs, HC b = some (.lst xs) := fun b z => ⟨us, by rw [z]; exact sC _ _ hD⟩
      rw [enx]
      refine AllV.app ?_ ?_
      · refine hus.imp fun v s' h => ?_
        exact (h.same sC).lk kD aD fun l n => n
      · unfold tnF
        rw [if_neg c]
        exact ⟨⟨ut, rfl, Lk.tup (H0 := HC) kD aD hut⟩, trivial⟩
  rintro HC ⟨sC, us, hD, hus⟩
  have hus : AllV (StepV (fun b => b ≠ D) HC) us (tnF la x 0 ++ tnF lb y 1) := hus
  have hus : AllV (StepV (fun _ => True) HC) us (tnF la x 0 ++ tnF lb y 1) := hus.imp fun v s' h => h.mono fun _ _ => trivial
  obtain ⟨tok, tsh, tlen, tcnt⟩ := tn_facts la x lb y
  refine ⟨sp, D, _, _, rfl, rfl, sC _ _ hspB, hD, by rw [hvl, hus.len, sizeLine_eq]; omega, fun j nj => ?_⟩
  generalize e0 : upd _ j _ = HD
  obtain ⟨sD, hj⟩ := newH nj e0
  intro m dx nm ndx ne
  have sHD := sHB.trans (sC.trans sD)
  have sBD := sC.trans sD
  have nmj : j ≠ m := ne_of_none hj nm
  have ndj : j ≠ dx := ne_of_none hj ndx
  have sM : Same HD (upd (upd HD dx (.own m)) m (.ins T.C_Mixer dx [])) := fun b o h => by
    rw [upd_ne (ne_of_none h nm), upd_ne (ne_of_none h ndx)]
    exact h
  refine ⟨m, dx, j, 2, ss ++ (tnF la x 0 ++ tnF lb y 1), rfl, upd_same, by decide, by decide, ⟨_, sM _ _ hj, ?_⟩, fun s' hs' => ?_, by rw [List.length_append]; omega, fun H' r hk nr hMix => ⟨rfl, ?_⟩⟩
  · exact AllV.app (hvs.imp fun v s' h => (h.same sBD).same sM) (hus.imp fun v s' h => (h.same sD).same sM)
  · rcases List.mem_append.mp hs' with h | h
    · exact hok _ h
    · exact tok _ h
  refine q H' m r _ (fun b o h => hk _ _ (ne_of_none (sHD _ _ h) nm) (sM _ _ (sHD _ _ h))) hMix (fun s' hs' => ?_) (by rw [bits_app, hsh, tsh]) ?_ (turns_end hnum hpx hpy) ?_
  · rcases List.mem_append.mp hs' with h | h
    · exact hok _ h
    · exact tok _ h
  · rw [List.length_append, ← least_few hw]
    omega
  · rw [List.filter_append, List.length_append, hcnt, tcnt, ← least_few hw, Nat.add_zero]
end
end My

namespace My
/-! ### playing without halvings, and how great it grows -/
theorem set_id {x : List Int} {i : Nat} : (x.set i (x.getD i 0)) = x := by
  by_cases hi : i < x.length
  · refine ext_getD (by rw [List.length_set]) fun k _ => ?_
    rw [getD_set hi]
    by_cases c : i = k
    · rw [if_pos c, c]
    · rw [if_neg c]
  · exact List.set_eq_of_length_le (by omega)
theorem zero_play {n : Nat} : ∀ {ss : List Step}, (∀ s ∈ ss, s.ok n) → playF ss (List.replicate n 0) = List.replicate n 0
  | [], _ => rfl
  | s :: ss, ok => by
    show playF ss (stepF 1 s (List.replicate n 0)) = _
    have z : ∀ k, (List.replicate n (0 : Int)).getD k 0 = 0 := fun k => by
      rw [List.getD_eq_getElem?_getD, List.getElem?_replicate]
      split <;> rfl
    have d : ∀ (ws : List Int) (m : Nat), dotP ws (List.replicate m 0) = 0 := fun ws => by
      induction ws with
      | nil => intro m; cases m <;> rfl
      | cons w ws ih =>
        intro m
        cases m with
        | zero => rfl
        | succ m =>
          rw [List.replicate_succ]
          show w * 0 + dotP ws (List.replicate m 0) = 0
          rw [ih, Int.mul_zero]
          rfl
    have st : ∀ (i : Nat), (List.replicate n (0 : Int)).set i 0 = List.replicate n 0 := fun i => by
      have := set_id (x := List.replicate n 0) (i := i)
      rw [z] at this
      exact this
    have e : stepF 1 s (List.replicate n 0) = List.replicate n 0 := by
      cases s with
      | turn i =>
        show (List.replicate n (0 : Int)).set i (0 - (List.replicate n (0 : Int)).getD i 0) = _
        rw [z, Int.sub_zero, st]
      | swap i j =>
        show ((List.replicate n (0 : Int)).set i ((List.replicate n (0 : Int)).getD j 0)).set j ((List.replicate n (0 : Int)).getD i 0) = _
        rw [z, z, st, st]
      | lift t ws sh =>
        show (List.replicate n (0 : Int)).set t ((List.replicate n (0 : Int)).getD t 0 + 1 * (dotP ws (List.replicate n 0) / 2 ^ sh)) = _
        rw [z, d, Int.zero_ediv, Int.mul_zero, Int.add_zero, st]
    rw [e]
    exact zero_play fun t ht => ok t (List.mem_cons_of_mem _ ht)
theorem addM_zero {n : Nat} {x : List Int} (hx : x.length = n) : addM (List.replicate n 0) 1 x = x := by
  refine ext_getD (by rw [addM_len (by rw [List.length_replicate, hx]), List.length_replicate, hx]) fun i hi => ?_
  rw [addM_getD (by rw [List.length_replicate, hx])]
  have z : (List.replicate n (0 : Int)).getD i 0 = 0 := by
    rw [List.getD_eq_getElem?_getD, List.getElem?_replicate]
    split <;> rfl
  rw [z, Int.one_mul, Int.zero_add]
/-- without halvings a mixer does what its rows tell -/
theorem play_num {n : Nat} {ss : List Step} (ok : ∀ s ∈ ss, s.ok n) (hb : bitsS ss = 0) {x : List Int} (hx : x.length = n) : playF ss x = mulV (numF n ss) x := by
  have e := play_add (c := 1) ok (List.length_replicate (n := n) (a := (0 : Int))) hx
  rw [hb, Int.pow_zero, Int.one_mul, addM_zero hx, zero_play ok, addM_zero (by rw [mulV_len, (num_len ok).1])] at e
  exact e
/-! #### how great what comes out is -/
theorem step_bd {c : Nat} {s : Step} {xs : List Int} (ok : s.ok xs.length) (hn : xs.length ≤ 4) (h : ∀ x ∈ xs, x.natAbs < 2 ^ c) : ∀ y ∈ stepF 1 s xs, y.natAbs < 2 ^ (c + 103) := fun y hy => by
  have p : 2 ^ (c + 103) = 2 ^ c * 10141204801825835211973625643008 := by rw [Nat.pow_add]
  have p0 : 0 < 2 ^ c := Nat.two_pow_pos c
  have at_ : ∀ i, (xs.getD i 0).natAbs < 2 ^ c := fun i => by
    rw [List.getD_eq_getElem?_getD]
    cases e : xs[i]? with
    | none => exact p0
    | some v => exact h v (List.mem_of_getElem? e)
  cases s with
  | turn i =>
    rcases List.mem_or_eq_of_mem_set hy with hy | rfl
    · have := h y hy; omega
    · have := at_ i; omega
  | swap i j =>
    rcases List.mem_or_eq_of_mem_set hy with hy | rfl
    · rcases List.mem_or_eq_of_mem_set hy with hy | rfl
      · have := h y hy; omega
      · have := at_ j; omega
    · have := at_ i; omega
  | lift t ws sh =>
    obtain ⟨ht, hl, hz, hs, hw⟩ := ok
    rcases List.mem_or_eq_of_mem_set hy with hy | rfl
    · have := h y hy; omega
    · have d := dot_bd ws xs hw h
      have q : (dotP ws xs / 2 ^ sh).natAbs ≤ (dotP ws xs).natAbs := by
        have e : (2 : Int) ^ sh = ((2 ^ sh : Nat) : Int) := by rw [Int.natCast_pow]; rfl
        rw [e]
        exact Int.natAbs_ediv_le_natAbs _ _
      have m : ws.length * (2 ^ 100 * 2 ^ c) ≤ 4 * (2 ^ 100 * 2 ^ c) := Nat.mul_le_mul_right _ (by omega)
      have a := at_ t
      rw [Int.one_mul]
      omega
theorem play_bd {n : Nat} (hn : n ≤ 4) : ∀ {ss : List Step} {xs : List Int} {c : Nat}, (∀ s ∈ ss, s.ok n) → xs.length = n → (∀ x ∈ xs, x.natAbs < 2 ^ c) → ∀ y ∈ playF ss xs, y.natAbs < 2 ^ (c + 103 * ss.length)
  | [], _, c, _, _, h => by
    rw [List.length_nil, Nat.mul_zero, Nat.add_zero]
    exact h
  | s :: ss, xs, c, ok, hx, h => by
    have ih := play_bd (n := n) hn (ss := ss) (xs := stepF 1 s xs) (c := c + 103) (fun t ht => ok t (List.mem_cons_of_mem _ ht)) (by rw [stepF_len, hx]) (step_bd (by rw [hx]; exact ok s List.mem_cons_self) (by omega) h)
    rw [List.length_cons, show c + 103 * (ss.length + 1) = c + 103 + 103 * ss.length by omega]
    exact ih
end My

namespace My
open PySem PySem.Spec PyProof.Rows L2 Pre
local macro_rules | `(tactic| walk_at "go") => `(tactic| repeat (first | (with_reducible first | refine iteT ?_ | refine iteF ?_ | refine iteNtt ?_ | refine iteNff ?_ | refine iteET (by omega) ?_ | refine iteEF (by omega) ?_ | refine iteENT (by omega) ?_ | refine iteENF (by omega) ?_ | refine iteDT (by omega) ?_ | refine iteDF (by omega) ?_ | refine iteNT (by omega) ?_ | refine iteNF (by omega) ?_) | refine ⟨_, rfl, ?_⟩ | refine ⟨_, _, rfl, rfl, ?_⟩ | refine ⟨_, _, rfl, ?_⟩ | refine ⟨rfl, ?_⟩ | refine .inl ⟨_, rfl, ?_⟩ | refine .inr ⟨_, rfl, ?_⟩))
local macro_rules | `(tactic| walk_at "b") => `(tactic| try dsimp (config := { proj := false, iota := false, eta := false, zeta := false }) only)
section
variable {P : Program} {w : World} {K : PySem.W.Frag} {mg : Str → Option Value} {base : Heap}
def sp_law_one_of : Sp := fun vs H Q _ => ∃ (g l : Addr) (N : Nat) (ns : List Int), vs = [.ref g, .ref l] ∧ GenAt H g N ∧ N ≤ 10 ^ 9 ∧ H l = some (.lst (ns.map V.int)) ∧ l ≠ g ∧ 0 < ns.length ∧ ns.length ≤ 10 ∧ ∀ H' v, v ∈ ns → But g H H' → GenAt H' g (N + 100) → Q (.int v) H'
theorem G_law_one_of (T : Top K mg) : FnOk P w K mg base CX0 2 T.f_law_one_of T.fd_law_one_of ["_law_purse_here", "_law_some"] sp_law_one_of := by
  refine T.F_law_one_of.ok sc_law_one_of (fun vs H Q E h => by obtain ⟨g, l, N, ns, rfl, _⟩ := h; rfl) (fun cdv A outer s H vs Q E hr h => ?_)
  obtain ⟨g, l, N, ns, rfl, hG, hN, hl0, lg, h0, h10, q⟩ := h
  refine ⟨_, PSs.nox (pss_one (ps_ret (pe_ix (k_ixL K rfl) (pv 1) (pe_call (G_law_draw T) (hr.mono (by decide)) (by rfl) T.g_law_draw T.F_law_draw.kp T.b_law_draw .nil pass0 (pa_cons (pv 0) (pa_cons (pe_callB (k_len K rfl) (by rfl) T.n_len (by decide +kernel) (pa_cons (pv 1) pa_nil)) pa_nil))) (fun _ _ => rfl)))), ?_⟩
  walk_at "go"
  refine ⟨l, _, rfl, .inl (.inl (.inl hl0)), ?_⟩
  rw [List.length_map]
  walk_at "go"
  refine ⟨g, _, _, rfl, hG, by omega, by omega, small_2900 (by omega), fun r1 H1 r10 r11 g1 b1 => ?_⟩
  obtain ⟨k, rfl⟩ : ∃ k : Nat, r1 = (k : Int) := ⟨r1.toNat, by omega⟩
  have hk : k < ns.length := by omega
  refine ⟨l, _, _, _, rfl, rfl, .inl (.inl (b1 _ _ lg hl0)), at_getD hk, ?_⟩
  refine q H1 _ ?_ b1 g1
  rw [List.getD_eq_getElem?_getD, List.getElem?_eq_getElem hk]
  exact List.getElem_mem hk
end
end My

namespace My
open PySem PySem.Spec PyProof.Rows L2 Pre
theorem dot_range : ∀ ws xs : List Int, ws.length = xs.length → ((List.range xs.length).map fun i => ws.getD i 0 * xs.getD i 0).sum = dotP ws xs
  | [], [], _ => rfl
  | [], _ :: _, h => by simp at h
  | _ :: _, [], h => by simp at h
  | w :: ws, x :: xs, h => by
    rw [List.length_cons, List.range_succ_eq_map, List.map_cons, List.sum_cons, List.map_map]
    show w * x + _ = w * x + dotP ws xs
    rw [← dot_range ws xs (by simpa using h)]
    rfl
theorem at_bd {xs : List Int} {c : Nat} (h : ∀ x ∈ xs, x.natAbs < 2 ^ c) (i : Nat) : (xs.getD i 0).natAbs < 2 ^ c := by
  rw [List.getD_eq_getElem?_getD]
  cases e : xs[i]? with
  | none => exact Nat.two_pow_pos c
  | some v => exact h v (List.mem_of_getElem? e)
theorem cmg {i j : Int} {a b : Nat} (hi : i.natAbs < 2 ^ a) (hj : j.natAbs < 2 ^ b) (h : a + b ≤ 134217728) : CMulX i j := by
  have a := PyProof.Rows.intBits_le hi
  have b := PyProof.Rows.intBits_le hj
  show (Builtin.Int.intBits i : Int) + (Builtin.Int.intBits j : Int) ≤ 134217728
  omega
theorem cmw {w x : Int} {c : Nat} (hw : -1267650600228229401496703205376 ≤ w ∧ w ≤ 1267650600228229401496703205376) (hc : c ≤ 5000) (hx : x.natAbs < 2 ^ c) : CMulX w x := cmg (a := 101) (by omega) hx (by omega)
theorem dot_bdq {ws xs : List Int} {c : Nat} (hw : ∀ w ∈ ws, -1267650600228229401496703205376 ≤ w ∧ w ≤ 1267650600228229401496703205376) (hx : ∀ x ∈ xs, x.natAbs < 2 ^ c) (hl : ws.length = xs.length) (h4 : xs.length ≤ 4) (sh : Nat) : (dotP ws xs / ((2 ^ sh : Nat) : Int)).natAbs < 2 ^ (c + 103) := by
  have d := dot_bd ws xs hw hx
  have q : (dotP ws xs / ((2 ^ sh : Nat) : Int)).natAbs ≤ (dotP ws xs).natAbs := Int.natAbs_ediv_le_natAbs _ _
  have m : ws.length * (2 ^ 100 * 2 ^ c) ≤ 4 * (2 ^ 100 * 2 ^ c) := Nat.mul_le_mul_right _ (by omega)
  have p : 2 ^ (c + 103) = 2 ^ c * 10141204801825835211973625643008 := by rw [Nat.pow_add]
  have p0 : 0 < 2 ^ c := Nat.two_pow_pos c
  omega
theorem cmo {x : Int} {c : Nat} (h : x.natAbs < 2 ^ (c + 103)) (hc : c ≤ 5000) : CMulX 1 x := cmg (a := 1) (by decide) h (by omega)
theorem shl1 {sh : Nat} (h : sh ≤ 15) : (Builtin.Int.intBits 1 : Int) + (sh : Int) ≤ 2 ^ 27 := by
  have e : Builtin.Int.intBits 1 = 1 := by decide +kernel
  rw [e]
  have : (2 : Int) ^ 27 = 134217728 := by decide
  omega
local macro_rules | `(tactic| walk_at "go") => `(tactic| repeat (first | (with_reducible first | refine iteT ?_ | refine iteF ?_ | refine iteNtt ?_ | refine iteNff ?_ | refine iteET (by omega) ?_ | refine iteEF (by omega) ?_ | refine iteENT (by omega) ?_ | refine iteENF (by omega) ?_ | refine iteDT (by omega) ?_ | refine iteDF (by omega) ?_ | refine iteNT (by omega) ?_ | refine iteNF (by omega) ?_) | refine ⟨_, rfl, ?_⟩ | refine ⟨_, _, rfl, rfl, ?_⟩ | refine ⟨_, _, rfl, ?_⟩ | refine ⟨rfl, ?_⟩ | refine .inl ⟨_, rfl, ?_⟩ | refine .inr ⟨_, rfl, ?_⟩))
local macro_rules | `(tactic| walk_at "b") => `(tactic| try dsimp (config := { proj := false, iota := false, eta := false, zeta := false }) only)
section
variable {P : Program} {w : World} {K : PySem.W.Frag} {mg : Str → Option Value} {base : Heap}
def sp_law_whole : Sp := fun vs H Q _ => ∃ i : Int, vs = [.int i] ∧ Q (.bl true) H
theorem G_law_whole (T : Top K mg) : FnOk P w K mg base CX0 1 T.f_law_whole T.fd_law_whole ["_law_value"] sp_law_whole := by
  refine T.F_law_whole.ok sc_law_whole (fun vs H Q E h => by obtain ⟨i, rfl, _⟩ := h; rfl) (fun cdv A outer s H vs Q E hr h => ?_)
  obtain ⟨i, rfl, q⟩ := h
  refine ⟨_, PSs.nox (pss_one (ps_ret (pe_and (pe_callB (k_isi K rfl) (by rfl) T.n_isinstance (by decide +kernel) (pa_cons (pv 0) (pa_cons (pe_bltn (v := .ty "int") (by rfl) T.n_int (by decide +kernel) rfl) pa_nil))) (pe_one (pe_not (pe_callB (k_isi K rfl) (by rfl) T.n_isinstance (by decide +kernel) (pa_cons (pv 0) (pa_cons (pe_bltn (v := .ty "bool") (by rfl) T.n_bool (by decide +kernel) rfl) pa_nil)))))))), ?_⟩
  refine ⟨_, rfl, _, _, _, _, true, rfl, .ty _, .base (.int i), kit_ty (by decide +kernel), true, rfl, iteT ?_⟩
  exact ⟨_, rfl, _, _, _, _, false, rfl, .ty _, .base (.int i), kit_ty (by decide +kernel), false, rfl, q⟩
/-- value a whole number, low one, high None or one -/
def sp_law_stepped : Sp := fun vs H Q _ => ∃ (N : Addr → Prop) (v : V) (p : Addr) (way : Int) (s : Step) (xs : List Int), vs = [v, .ref p, .int way] ∧ StepV N H v s ∧ H p = some (.lst (xs.map V.int)) ∧ s.ok xs.length ∧ xs.length ≤ 4 ∧ way = 1 ∧ (∃ c, c ≤ 5000 ∧ ∀ x ∈ xs, x.natAbs < 2 ^ c) ∧
  ∀ H' p', Same H H' → H p' = none → H' p' = some (.lst ((stepF way s xs).map V.int)) → Q (.ref p') H'
theorem G_law_stepped (T : Top K mg) : FnOk P w K mg base CX0 1 T.f_law_stepped T.fd_law_stepped ["_law_step", "_law_row", "_law_way"] sp_law_stepped := by
  refine T.F_law_stepped.ok sc_law_stepped (fun vs H Q E h => by obtain ⟨N, v, p, way, s, xs, rfl, _⟩ := h; rfl) (fun cdv A outer s H vs Q E hr h => ?_)
  obtain ⟨N, v, p, way, s, xs, rfl, hV, hp, hO, hx, hw1, ⟨c, c1, hbx⟩, q⟩ := h
  refine ⟨_, PSs.nox (pss_cons (ps_set (i := 3) sc_law_stepped.nd rfl (by first | exact Or.inl rfl | exact Or.inr rfl) (pe_callTy (k_listOf K rfl) (by rfl) T.n_list (by decide +kernel) (pa_cons (pv 1) pa_nil)))
  (pss_cons (ps_if (pt_cmpR op_eq (pe_ix (k_ixT K rfl) (pv 0) pe_int (fun _ _ => rfl)) pe_str (nomark _))
    (pss_cons (ps_set (i := 4) sc_law_stepped.nd rfl (by first | exact Or.inl rfl | exact Or.inr rfl) (pe_callB (k_sum K rfl rfl) (by rfl) T.n_sum (by decide +kernel) (pa_cons (pe_lc (own := [("_law_at", 5)]) (g := gName 5) (tt := tYes) (by rfl) sc_law_stepped.nd (pi_range1 (by rfl) T.n_range (pa_cons (pe_callB (k_len K rfl) (by rfl) T.n_len (by decide +kernel) (pa_cons (pv 1) pa_nil)) pa_nil)) (blkOk_by (own := [("_law_at", 5)]) (N := N_law_stepped) (sc := defScope s_law_stepped) (by decide +kernel)) (fun _ _ _ _ _ => (pg_name (i := 5) sc_law_stepped.nd rfl (by first | exact Or.inl rfl | exact Or.inr rfl))) (fun _ _ _ _ _ => pts_nil) (fun _ _ _ _ _ => (pe_op op_mulX (pe_ix (k_ixL K rfl) (pe_ix (k_ixT K rfl) (pv 0) pe_int (fun _ _ => rfl)) (pv 5) (fun _ _ => rfl)) (pe_ix (k_ixL K rfl) (pv 1) (pv 5) (fun _ _ => rfl))))) pa_nil)))
  (pss_one (ps_asg (pe_op op_add (pe_ix (k_ixL K rfl) (pv 3) (pe_ix (k_ixT K rfl) (pv 0) pe_int (fun _ _ => rfl)) (fun _ _ => rfl)) (pe_op op_mulX (pv 2) (pe_op op_fdivW (pv 4) (pe_op op_shlW pe_int (pe_ix (k_ixT K rfl) (pv 0) pe_int (fun _ _ => rfl)))))) (pg_sub (pv 3) (pe_ix (k_ixT K rfl) (pv 0) pe_int (fun _ _ => rfl)) set_list))))
    (pss_one (ps_if (pt_cmpR op_eq (pe_ix (k_ixT K rfl) (pv 0) pe_int (fun _ _ => rfl)) pe_str (nomark _))
    (pss_one (ps_asg (pe_op op_sub pe_int (pe_ix (k_ixL K rfl) (pv 3) (pe_ix (k_ixT K rfl) (pv 0) pe_int (fun _ _ => rfl)) (fun _ _ => rfl))) (pg_sub (pv 3) (pe_ix (k_ixT K rfl) (pv 0) pe_int (fun _ _ => rfl)) set_list)))
    (pss_cons (ps_asg (pe_ix (k_ixL K rfl) (pv 1) (pe_ix (k_ixT K rfl) (pv 0) pe_int (fun _ _ => rfl)) (fun _ _ => rfl)) (pg_sub (pv 3) (pe_ix (k_ixT K rfl) (pv 0) pe_int (fun _ _ => rfl)) set_list))
  (pss_one (ps_asg (pe_ix (k_ixL K rfl) (pv 1) (pe_ix (k_ixT K rfl) (pv 0) pe_int (fun _ _ => rfl)) (fun _ _ => rfl)) (pg_sub (pv 3) (pe_ix (k_ixT K rfl) (pv 0) pe_int (fun _ _ => rfl)) set_list)))))))
  (pss_one (ps_ret (pv 3))))), ?_⟩
  subst hw1
  refine ⟨_, rfl, p, _, rfl, .inl (.inl (.inl hp)), fun l nl => ?_⟩
  obtain ⟨H1, e1, s1, h1⟩ := fresh (.lst (xs.map V.int)) nl
  rw [e1]
  have hp1 := s1 _ _ hp
  have pl : p ≠ l := fun z => by rw [z, nl] at hp; cases hp
  have fin : ∀ {H2 : Hp} {ys : List Int}, Same H1 H2 → stepF 1 s xs = ys → Q (.ref l) (upd H2 l (.lst (ys.map V.int))) := fun s2 e => q _ l (same_over nl (s1.trans s2)) nl (by rw [upd_same, e])
  cases s with
  | turn i =>
    obtain ⟨t, rfl, ht⟩ := hV
    have hi : i < xs.length := hO
    have hT : SqT K H1 t [sT, .int i] := .inl (.inl (s1 _ _ ht))
    walk_at "go"
    refine ⟨t, _, _, _, rfl, rfl, hT, rfl, rfl, _, rfl, iteDF (by decide) ?_⟩
    walk_at "go"
    refine ⟨t, _, _, _, rfl, rfl, hT, rfl, rfl, _, rfl, iteDT rfl ?_⟩
    walk_at "go"
    refine ⟨t, _, _, _, rfl, rfl, hT, rfl, ?_⟩
    refine ⟨l, _, _, _, rfl, rfl, .inl (.inl h1), at_getD hi, ?_⟩
    walk_at "go"
    refine ⟨t, _, _, _, rfl, rfl, hT, rfl, ?_⟩
    refine ⟨l, _, _, i, rfl, rfl, h1, ix_ok (by rw [List.length_map]; exact hi), ?_⟩
    have z := fin (ys := xs.set i (0 - xs.getD i 0)) (Same.refl H1) rfl
    rw [List.map_set] at z
    exact ⟨_, rfl, z⟩
  | swap i j =>
    obtain ⟨t, rfl, ht⟩ := hV
    have hT : SqT K H1 t [sS, .int i, .int j] := .inl (.inl (s1 _ _ ht))
    obtain ⟨hi, hj, hij⟩ := hO
    walk_at "go"
    refine ⟨t, _, _, _, rfl, rfl, hT, rfl, rfl, _, rfl, iteDF (by decide) ?_⟩
    walk_at "go"
    refine ⟨t, _, _, _, rfl, rfl, hT, rfl, rfl, _, rfl, iteDF (by decide) ?_⟩
    walk_at "go"
    refine ⟨t, _, _, _, rfl, rfl, hT, rfl, ?_⟩
    refine ⟨p, _, _, _, rfl, rfl, .inl (.inl hp1), at_getD hj, ?_⟩
    walk_at "go"
    refine ⟨t, _, _, _, rfl, rfl, hT, rfl, ?_⟩
    refine ⟨l, _, _, i, rfl, rfl, h1, ix_ok (by rw [List.length_map]; exact hi), ?_⟩
    have ht2 := s1 _ _ ht
    have tl : t ≠ l := fun z => by rw [z, h1] at ht2; cases ht2
    have hT2 : SqT K (upd H1 l (.lst ((xs.map V.int).set i (.int (xs.getD j 0))))) t [sS, .int i, .int j] := .inl (.inl (by rw [upd_ne tl]; exact ht2))
    have hp2 : upd H1 l (.lst ((xs.map V.int).set i (.int (xs.getD j 0)))) p = some (.lst (xs.map V.int)) := by rw [upd_ne pl]; exact hp1
    walk_at "go"
    refine ⟨t, _, _, _, rfl, rfl, hT2, rfl, ?_⟩
    refine ⟨p, _, _, _, rfl, rfl, .inl (.inl hp2), at_getD hi, ?_⟩
    walk_at "go"
    refine ⟨t, _, _, _, rfl, rfl, hT2, rfl, ?_⟩
    refine ⟨l, _, _, j, rfl, rfl, upd_same, ix_ok (by rw [List.length_set, List.length_map]; exact hj), _, rfl, ?_⟩
    refine q _ l (same_over nl (same_over nl s1)) nl ?_
    rw [upd_same]
    show _ = some (HO.lst (((xs.set i (xs.getD j 0)).set j (xs.getD i 0)).map V.int))
    rw [List.map_set, List.map_set]
  | lift b ws sh =>
    obtain ⟨t, lw, rfl, ht, hlw, _⟩ := hV
    have hT : SqT K H1 t [sL, .int b, .ref lw, .int sh] := .inl (.inl (s1 _ _ ht))
    have hlw1 := s1 _ _ hlw
    obtain ⟨hb, hwl, hw0, hs15, hws⟩ := hO
    walk_at "go"
    refine ⟨t, _, _, _, rfl, rfl, hT, rfl, rfl, _, rfl, iteDT rfl ?_⟩
    walk_at "go"
    refine ⟨p, _, rfl, .inl (.inl (.inl hp1)), ?_⟩
    rw [List.length_map]
    walk_at "go"
    refine ⟨by omega, by omega, fun D nD => ?_⟩
    rw [Int.toNat_natCast]
    refine lc_mapR (lo := 0) (n := xs.length) (((List.range xs.length).map fun i => ws.getD i 0 * xs.getD i 0).map V.int) nD (by rw [List.length_map, List.length_map, List.length_range]) (small1000 (by omega)) (fun x => rfl) ?_ ?_
    · intro k y H' hk hy s Qt qt
      rw [List.getElem?_map, List.getElem?_map, List.getElem?_range hk] at hy
      cases hy
      rw [Int.zero_add]
      walk_at "go"
      refine ⟨t, _, _, _, rfl, rfl, Same.tup s hT, rfl, ?_⟩
      walk_at "go"
      refine ⟨lw, _, _, _, rfl, rfl, .inl (.inl (s _ _ hlw1)), at_getD (by omega), ?_⟩
      walk_at "go"
      refine ⟨p, _, _, _, rfl, rfl, .inl (.inl (s _ _ hp1)), at_getD hk, ?_⟩
      have hb2 := hws (ws.getD k 0) (by
        rw [List.getD_eq_getElem?_getD, List.getElem?_eq_getElem (show k < ws.length by omega)]
        exact List.getElem_mem _)
      refine ⟨_, _, rfl, rfl, cmw hb2 c1 (at_bd hbx k), ?_⟩
      exact qt _ (Same.refl _)
    intro H2 s2 hD
    refine ⟨D, _, rfl, .inl (.inl hD), ?_⟩
    rw [dot_range ws xs hwl]
    have hT2 := Same.tup s2 hT
    have h12 := s2 _ _ h1
    walk_at "go"
    refine ⟨t, _, _, _, rfl, rfl, hT2, rfl, ?_⟩
    refine ⟨l, _, _, _, rfl, rfl, .inl (.inl h12), at_getD hb, ?_⟩
    walk_at "go"
    refine ⟨t, _, _, _, rfl, rfl, hT2, rfl, ?_⟩
    refine ⟨_, _, rfl, rfl, ⟨by omega, shl1 hs15⟩, ?_⟩
    walk_at "b"
    have e2 : (1 : Int) * 2 ^ ((sh : Int)).toNat = ((2 ^ sh : Nat) : Int) := by rw [Int.one_mul, Int.toNat_natCast, Int.natCast_pow]; rfl
    have h15 : 2 ^ sh ≤ 2 ^ 15 := Nat.pow_le_pow_right (by decide) hs15
    have h0 : (0 : Int) < ((2 ^ sh : Nat) : Int) := Int.natCast_pos.mpr (Nat.two_pow_pos sh)
    rw [e2]
    refine ⟨_, _, rfl, rfl, wide_div (b := 60) h0 (by rw [Int.natAbs_natCast]; omega) (by decide) (by decide), ?_⟩
    refine ⟨_, _, rfl, rfl, cmo (dot_bdq hws hbx hwl hx sh) c1, _, _, rfl, rfl, ?_⟩
    walk_at "go"
    refine ⟨t, _, _, _, rfl, rfl, hT2, rfl, ?_⟩
    refine ⟨l, _, _, b, rfl, rfl, h12, ix_ok (by rw [List.length_map]; exact hb), ?_⟩
    have z := fin (ys := xs.set b (xs.getD b 0 + 1 * (dotP ws xs / 2 ^ sh))) s2 rfl
    rw [List.map_set, show (2 : Int) ^ sh = ((2 ^ sh : Nat) : Int) by rw [Int.natCast_pow]; rfl] at z
    exact ⟨_, rfl, z⟩
def sp_law_played (K : PySem.W.Frag) : Sp := fun vs H Q _ => ∃ (N : Addr → Prop) (r p : Addr) (ss : List Step) (xs : List Int), vs = [.ref r, .ref p] ∧ StepsAt N H r ss ∧ H p = some (.lst (xs.map V.int)) ∧ (∀ s ∈ ss, s.ok xs.length) ∧ xs.length ≤ 4 ∧ ss.length ≤ 40 ∧ (∀ x ∈ xs, x.natAbs < 2 ^ 1) ∧
  ∀ H' p', Same H H' → H p' = none → H' p' = some (.lst ((playF ss xs).map V.int)) → Q (.ref p') H'
theorem G_law_played (T : Top K mg) : FnOk P w K mg base CX0 2 T.f_law_played T.fd_law_played ["_law_steps", "_law_row"] (sp_law_played K) := by
  refine T.F_law_played.ok sc_law_played (fun vs H Q E h => by obtain ⟨N, r, p, ss, xs, rfl, _⟩ := h; rfl) (fun cdv A outer s H vs Q E hr h => ?_)
  obtain ⟨N, r, p, ss, xs, rfl, hS, hp, hO, hx, h40, hbx, q⟩ := h
  refine ⟨_, PSs.nox (pss_cons (ps_set (i := 2) sc_law_played.nd rfl (by first | exact Or.inl rfl | exact Or.inr rfl) (pe_callTy (k_listOf K rfl) (by rfl) T.n_list (by decide +kernel) (pa_cons (pv 1) pa_nil)))
  (pss_cons (ps_for PassesOwn.never rfl (k_piL K rfl (pv 0)) (pg_name (i := 3) sc_law_played.nd rfl (by first | exact Or.inl rfl | exact Or.inr rfl))
    (pss_one (ps_set (i := 2) sc_law_played.nd rfl (by first | exact Or.inl rfl | exact Or.inr rfl) (pe_call (G_law_stepped T) (hr.mono (by decide)) (by rfl) T.g_law_stepped T.F_law_stepped.kp T.b_law_stepped .nil pass0 (pa_cons (pv 3) (pa_cons (pv 2) (pa_cons pe_int pa_nil)))))))
  (pss_one (ps_ret (pv 2))))), ?_⟩
  obtain ⟨us, hr0, hv⟩ := hS
  refine ⟨_, rfl, p, _, rfl, .inl (.inl (.inl hp)), fun p0 np0 => ?_⟩
  obtain ⟨H1, e1, s1, h1⟩ := fresh (.lst (xs.map V.int)) np0
  rw [e1]
  have hr1 := s1 _ _ hr0
  walk_at "go"
  refine ⟨⟨_, .inl (.inl hr1)⟩, for_list (K := K) (a := r) (xs := us) (fun i σ H2 => ∃ (v3 : Option V) (p' : Addr), σ = [some (.ref r), some (.ref p), some (.ref p'), v3] ∧ Same H1 H2 ∧ H p' = none ∧ H2 p' = some (.lst ((playF (ss.take i) xs).map V.int))) ⟨none, p0, rfl, Same.refl _, np0, h1⟩ (fun i σ H1 _ ⟨_, _, _, s, _⟩ => .inl (.inl (s _ _ hr1))) ?_ ?_⟩
  · rintro i v σ H2 hi ⟨v3, p', rfl, s2, np', h2⟩
    obtain ⟨s, hs, hvs⟩ := hv.get hi
    have pl := play_len (ss.take i) xs
    walk_at "go"
    refine ⟨N, v, p', 1, s, playF (ss.take i) xs, rfl, hvs.same (s1.trans s2), h2, by rw [pl]; exact hO s (List.mem_of_getElem? hs), by omega, rfl, ⟨1 + 103 * (ss.take i).length, by rw [List.length_take]; omega, play_bd hx (fun t ht => hO t (List.mem_of_mem_take ht)) rfl hbx⟩, fun H3 p2 s3 np2 h3 => ?_⟩
    rw [← play_take hs] at h3
    exact ⟨_, _, rfl, s2.trans s3, (s1.trans s2).free np2, h3⟩
  · rintro σ H2 ⟨v3, p', rfl, s2, np', h2⟩
    rw [hv.len, List.take_length] at h2
    exact ⟨_, rfl, q _ p' (s1.trans s2) np' h2⟩
end
end My

namespace My
/-! ### the table of distances -/
theorem tab_step {u r : Nat} (h1 : 1 ≤ r) (h2 : r < u) : lenL u r = 1 + min (lenL r ((u % r : Nat) : Int)) (lenL (u - r) ((u % (u - r) : Nat) : Int)) := by
  have lm : ∀ v : Nat, lenL v ((u % v : Nat) : Int) = lenL v u := fun v => by
    have e : (u : Int) = ((u % v : Nat) : Int) + ((u / v : Nat) : Int) * (v : Int) := by
      have := Nat.mod_add_div u v
      rw [← Int.natCast_mul, ← Int.natCast_add, Nat.mul_comm (u / v) v, this]
    conv => rhs; rw [e]
    rw [lenL_add]
  rw [lm, lm, lenL_eq (show 0 < u by omega)]
  have e1 : lenL (u - r) (u : Int) = lenL (u - r) r := by
    rw [show (u : Int) = (r : Int) + 1 * ((u - r : Nat) : Int) by omega, lenL_add]
  have e2 : lenL r (u : Int) = lenL r ((u - r : Nat) : Int) := by
    rw [show (u : Int) = ((u - r : Nat) : Int) + 1 * (r : Int) by omega, lenL_add]
  by_cases c : 2 * r ≤ u
  · rw [dst_low c (by omega)]
    have := near_less u r h1 c
    omega
  · rw [dst_high (by omega) (by omega) (by omega)]
    have := near_less u (u - r) (by omega) (by omega)
    rw [show u - (u - r) = r by omega] at this
    omega
structure TabOk (T : List (List Int)) (n : Nat) : Prop where
  len : T.length = n
  row : ∀ (u : Nat) (l : List Int), T[u]? = some l → l.length = u
  val : ∀ (u r : Nat) (l : List Int), T[u]? = some l → r < u → Nat.gcd r u = 1 → l[r]? = some ((lenL u r : Nat) : Int)
theorem TabOk.two : TabOk [[], [1]] 2 := by
  refine ⟨rfl, fun u l h => ?_, fun u r l h hr hg => ?_⟩
  · match u, h with
    | 0, h => cases h; rfl
    | 1, h => cases h; rfl
  · match u, h with
    | 0, h => exact absurd hr (Nat.not_lt_zero r)
    | 1, h =>
      cases h
      obtain rfl : r = 0 := by omega
      rfl
/-- a line under way -/
structure LineOk (l : List Int) (u k : Nat) : Prop where
  len : l.length = k
  val : ∀ r, 1 ≤ r → r < k → Nat.gcd r u = 1 → l[r]? = some ((lenL u r : Nat) : Int)
theorem LineOk.one (u : Nat) : LineOk [1000000] u 1 := ⟨rfl, fun r h1 h2 _ => absurd h2 (by omega)⟩
theorem LineOk.snoc {l : List Int} {u k : Nat} {z : Int} (h : LineOk l u k) (hz : Nat.gcd k u = 1 → z = ((lenL u k : Nat) : Int)) : LineOk (l ++ [z]) u (k + 1) := by
  refine ⟨by rw [List.length_append, h.len]; rfl, fun r h1 h2 hg => ?_⟩
  by_cases c : r < k
  · rw [List.getElem?_append_left (by rw [h.len]; exact c)]
    exact h.val r h1 c hg
  · obtain rfl : r = k := by omega
    rw [List.getElem?_append_right (by rw [h.len]; exact Nat.le_refl _), h.len, Nat.sub_self, ← hz hg]
    rfl
theorem TabOk.snoc {T : List (List Int)} {l : List Int} {u : Nat} (h : TabOk T u) (h2 : 2 ≤ u) (hl : LineOk l u u) : TabOk (T ++ [l]) (u + 1) := by
  refine ⟨by rw [List.length_append, h.len]; rfl, fun v m hm => ?_, fun v r m hm hr hg => ?_⟩
  · by_cases c : v < u
    · rw [List.getElem?_append_left (by rw [h.len]; exact c)] at hm
      exact h.row v m hm
    · rw [List.getElem?_append_right (by rw [h.len]; omega), h.len] at hm
      have e : v - u = 0 := by
        have := (List.getElem?_eq_some_iff.mp hm).1
        rw [List.length_singleton] at this
        omega
      rw [e] at hm
      cases hm
      rw [hl.len]
      omega
  · by_cases c : v < u
    · rw [List.getElem?_append_left (by rw [h.len]; exact c)] at hm
      exact h.val v r m hm hr hg
    · rw [List.getElem?_append_right (by rw [h.len]; omega), h.len] at hm
      have e : v - u = 0 := by
        have := (List.getElem?_eq_some_iff.mp hm).1
        rw [List.length_singleton] at this
        omega
      rw [e] at hm
      cases hm
      obtain rfl : v = u := by omega
      refine hl.val r ?_ hr hg
      cases r with
      | zero =>
        rw [Nat.gcd_zero_left] at hg
        omega
      | succ r => omega
/-- the entries asked for -/
theorem TabOk.at {T : List (List Int)} {n : Nat} (h : TabOk T n) {u r : Nat} (hu : u < n) (hr : r < u) : ∃ l z, T[u]? = some l ∧ l[r]? = some z ∧ (Nat.gcd r u = 1 → z = ((lenL u r : Nat) : Int)) := by
  have hu' : u < T.length := by rw [h.len]; exact hu
  have h1 : T[u]? = some T[u] := List.getElem?_eq_getElem hu'
  have h2 := h.row u _ h1
  refine ⟨T[u], _, h1, List.getElem?_eq_getElem (by rw [h2]; exact hr), fun hg => ?_⟩
  have h3 := h.val u r _ h1 hr hg
  rw [List.getElem?_eq_getElem (by rw [h2]; exact hr)] at h3
  exact Option.some.inj h3
theorem tab_next {u r : Nat} {y z : Int} (h1 : 1 ≤ r) (h2 : r < u) (hy : Nat.gcd (u % r) r = 1 → y = ((lenL r ((u % r : Nat) : Int) : Nat) : Int)) (hz : Nat.gcd (u % (u - r)) (u - r) = 1 → z = ((lenL (u - r) ((u % (u - r) : Nat) : Int) : Nat) : Int)) (hg : Nat.gcd r u = 1) : 1 + min y z = ((lenL u r : Nat) : Int) := by
  have g1 : Nat.gcd (u % r) r = 1 := by rw [← Nat.gcd_rec]; exact hg
  have g2 : Nat.gcd (u % (u - r)) (u - r) = 1 := by
    rw [← Nat.gcd_rec, Nat.gcd_self_sub_left (by omega)]
    exact hg
  rw [hy g1, hz g2, tab_step h1 h2]
  omega
/-- what is far -/
theorem far_val {T : List (List Int)} (h : TabOk T 61) {v q : Int} (hq : q ≠ 0) (hb : q.natAbs ≤ 60) (hg : Int.gcd v q = 1) : ∃ l, T[q.natAbs]? = some l ∧ l[(v % (q.natAbs : Int)).toNat]? = some ((lenL q.natAbs v : Nat) : Int) := by
  have hp : 0 < q.natAbs := by omega
  have m0 := Int.emod_nonneg v (show (q.natAbs : Int) ≠ 0 by omega)
  have m1 := Int.emod_lt_of_pos v (show (0 : Int) < (q.natAbs : Int) by omega)
  obtain ⟨l, z, h1, h2, h3⟩ := h.at (u := q.natAbs) (r := (v % (q.natAbs : Int)).toNat) (by omega) (by omega)
  refine ⟨l, h1, ?_⟩
  rw [h2, h3 ?_]
  · congr 2
    have e : (((v % (q.natAbs : Int)).toNat : Nat) : Int) = v % (q.natAbs : Int) := by omega
    rw [e]
    have e2 := Int.emod_add_mul_ediv v (q.natAbs : Int)
    conv => rhs; rw [← e2, Int.mul_comm, lenL_add]
  · have e : Nat.gcd (v % (q.natAbs : Int)).toNat q.natAbs = Int.gcd (v % (q.natAbs : Int)) (q.natAbs : Int) := by
      unfold Int.gcd
      rw [Int.natAbs_natCast]
      congr 1
      omega
    rw [e]
    have e2 := Int.emod_add_mul_ediv v (q.natAbs : Int)
    have e3 : Int.gcd v (q.natAbs : Int) = 1 := by
      unfold Int.gcd at hg ⊢
      rw [Int.natAbs_natCast]
      exact hg
    rw [← e2, Int.gcd_add_mul_left_left] at e3
    exact e3
theorem det_gcd {a b c d : Int} (h : a * d - b * c = 1 ∨ a * d - b * c = -1) : Int.gcd a b = 1 ∧ Int.gcd b a = 1 ∧ Int.gcd c d = 1 ∧ Int.gcd d c = 1 := by
  have key : ∀ x y p q : Int, (x * p - y * q = 1 ∨ x * p - y * q = -1) → Int.gcd x y = 1 := fun x y p q h => by
    have d1 : ((Int.gcd x y : Nat) : Int) ∣ x * p - y * q := Int.dvd_sub (Int.dvd_trans (Int.gcd_dvd_left ..) (Int.dvd_mul_right ..)) (Int.dvd_trans (Int.gcd_dvd_right ..) (Int.dvd_mul_right ..))
    have d2 : ((Int.gcd x y : Nat) : Int) ∣ 1 := by
      rcases h with z | z
      · rw [z] at d1; exact d1
      · rw [z] at d1; exact (Int.dvd_neg.mp d1)
    exact Nat.dvd_one.mp (Int.natCast_dvd_natCast.mp d2)
  have h1 := key a b d c h
  have h3 := key c d b a (by rw [Int.mul_comm c b, Int.mul_comm d a]; omega)
  exact ⟨h1, by rw [Int.gcd_comm]; exact h1, h3, by rw [Int.gcd_comm]; exact h3⟩
end My

namespace My
open PySem PySem.Spec PyProof.Rows L2 Pre
/-- the places of the lifts -/
def liftsF (ss : List Step) : List Int := ((List.range ss.length).filter fun i => (ss[i]?.map isLift).getD false).map fun (i : Nat) => (i : Int)
theorem mem_liftsF {ss : List Step} {i : Int} (h : i ∈ liftsF ss) : ∃ (k : Nat) (t : Nat) (ws : List Int) (sh : Nat), i = k ∧ ss[k]? = some (.lift t ws sh) := by
  obtain ⟨k, hk, rfl⟩ := List.mem_map.mp h
  have h2 := (List.mem_filter.mp hk).2
  cases e : ss[k]? with
  | none => rw [e] at h2; cases h2
  | some s =>
    rw [e] at h2
    cases s with
    | turn i => cases h2
    | swap i j => cases h2
    | lift t ws sh => exact ⟨k, t, ws, sh, rfl, e⟩
theorem liftsF_len (ss : List Step) : (liftsF ss).length ≤ ss.length := by
  unfold liftsF
  rw [List.length_map]
  exact Nat.le_trans (List.length_filter_le _ _) (by rw [List.length_range]; exact Nat.le_refl _)
theorem sel_lifts (ss : List Step) : ((List.range ss.length).map fun (i : Nat) => if (ss[i]?.map isLift).getD false = true then some (V.int (i : Int)) else none).filterMap id = (liftsF ss).map V.int := by
  unfold liftsF
  generalize List.range ss.length = l
  induction l with
  | nil => rfl
  | cons i l ih =>
    rw [List.map_cons]
    by_cases c : (ss[i]?.map isLift).getD false = true
    · rw [if_pos c, List.filter_cons_of_pos (by exact c), List.map_cons, List.map_cons, ← ih]
      rfl
    · rw [if_neg c, List.filter_cons_of_neg (by exact c), ← ih]
      rfl
theorem AllV.take {R : V → Step → Prop} : ∀ {vs : List V} {ss : List Step} (i : Nat), AllV R vs ss → AllV R (vs.take i) (ss.take i)
  | _, _, 0, _ => trivial
  | [], [], _ + 1, _ => trivial
  | _ :: _, _ :: _, i + 1, h => ⟨h.1, AllV.take i h.2⟩
  | [], _ :: _, _, h => h.elim
  | _ :: _, [], _, h => h.elim
theorem AllV.drop {R : V → Step → Prop} : ∀ {vs : List V} {ss : List Step} (i : Nat), AllV R vs ss → AllV R (vs.drop i) (ss.drop i)
  | _, _, 0, h => h
  | [], [], _ + 1, _ => trivial
  | _ :: _, _ :: _, i + 1, h => AllV.drop i h.2
  | [], _ :: _, _, h => h.elim
  | _ :: _, [], _, h => h.elim
local macro_rules | `(tactic| walk_at "go") => `(tactic| repeat (first | (with_reducible first | refine iteT ?_ | refine iteF ?_ | refine iteNtt ?_ | refine iteNff ?_ | refine iteET (by omega) ?_ | refine iteEF (by omega) ?_ | refine iteENT (by omega) ?_ | refine iteENF (by omega) ?_ | refine iteDT (by omega) ?_ | refine iteDF (by omega) ?_ | refine iteNT (by omega) ?_ | refine iteNF (by omega) ?_) | refine ⟨_, rfl, ?_⟩ | refine ⟨_, _, rfl, rfl, ?_⟩ | refine ⟨_, _, rfl, ?_⟩ | refine ⟨rfl, ?_⟩ | refine .inl ⟨_, rfl, ?_⟩ | refine .inr ⟨_, rfl, ?_⟩))
local macro_rules | `(tactic| walk_at "b") => `(tactic| try dsimp (config := { proj := false, iota := false, eta := false, zeta := false }) only)
section
variable {P : Program} {w : World} {K : PySem.W.Frag} {mg : Str → Option Value} {base : Heap}
def sp_law_lifts_of : Sp := fun vs H Q _ => ∃ (N : Addr → Prop) (p : Addr) (ss : List Step), vs = [.ref p] ∧ StepsAt N H p ss ∧ ss.length ≤ 100 ∧ ∀ H' l, Same H H' → H l = none → H' l = some (.lst ((liftsF ss).map V.int)) → Q (.ref l) H'
theorem G_law_lifts_of (T : Top K mg) : FnOk P w K mg base CX0 1 T.f_law_lifts_of T.fd_law_lifts_of ["_law_steps"] sp_law_lifts_of := by
  refine T.F_law_lifts_of.ok sc_law_lifts_of (fun vs H Q E h => by obtain ⟨N, p, ss, rfl, _⟩ := h; rfl) (fun cdv A outer s H vs Q E hr h => ?_)
  obtain ⟨N, p, ss, rfl, hS, hl, q⟩ := h
  refine ⟨_, PSs.nox (pss_one (ps_ret (pe_lc (own := [("_law_at", 1)]) (g := gName 1) (by rfl) sc_law_lifts_of.nd (pi_range1 (by rfl) T.n_range (pa_cons (pe_callB (k_len K rfl) (by rfl) T.n_len (by decide +kernel) (pa_cons (pv 0) pa_nil)) pa_nil)) (blkOk_by (own := [("_law_at", 1)]) (N := N_law_lifts_of) (sc := defScope s_law_lifts_of) (by decide +kernel)) (fun _ _ _ _ _ => (pg_name (i := 1) sc_law_lifts_of.nd rfl (by first | exact Or.inl rfl | exact Or.inr rfl))) (fun _ _ _ _ _ => (pts_one (pt_cmpR op_eq (pe_ix (k_ixT K rfl) (pe_ix (k_ixL K rfl) (pv 0) (pv 1) (fun _ _ => rfl)) pe_int (fun _ _ => rfl)) pe_str (nomark _)))) (fun _ _ _ _ _ => (pv 1))))), ?_⟩
  obtain ⟨us, hp, hv⟩ := hS
  have hvl := hv.len
  walk_at "go"
  refine ⟨p, us, rfl, .inl (.inl (.inl hp)), ?_⟩
  walk_at "go"
  refine ⟨by omega, by omega, fun D nD => ?_⟩
  rw [Int.toNat_natCast]
  refine lc_selR (lo := 0) (n := us.length) ((List.range ss.length).map fun (i : Nat) => if (ss[i]?.map isLift).getD false = true then some (V.int (i : Int)) else none) nD (by rw [List.length_map, List.length_range, hvl]) (small1000 (by omega)) (fun x => rfl) ?_ ?_
  · intro i o H' hi ho s' Qt qt
    obtain ⟨s, hs, hys⟩ := hv.get (List.getElem?_eq_getElem hi)
    rw [List.getElem?_map, List.getElem?_range (by omega)] at ho
    cases ho
    dsimp only at qt
    rw [hs] at qt
    have hys := hys.same s'
    rw [Int.zero_add]
    have hp' : SqL K H' p us := .inl (.inl (s' _ _ hp))
    have hx : atI us (i : Int) = some us[i] := atI_nat (List.getElem?_eq_getElem hi)
    generalize us[i] = v at hys hx
    walk_at "go"
    refine ⟨p, _, _, _, rfl, rfl, hp', hx, ?_⟩
    walk_at "go"
    cases s with
    | turn i =>
      obtain ⟨t, rfl, ht⟩ := hys
      refine ⟨t, _, _, _, rfl, rfl, .inl (.inl ht), rfl, rfl, _, rfl, iteDF (by decide) ?_⟩
      exact qt _ (Same.refl _)
    | swap i j =>
      obtain ⟨t, rfl, ht⟩ := hys
      refine ⟨t, _, _, _, rfl, rfl, .inl (.inl ht), rfl, rfl, _, rfl, iteDF (by decide) ?_⟩
      exact qt _ (Same.refl _)
    | lift b ws sh =>
      obtain ⟨t, l, rfl, ht, _⟩ := hys
      refine ⟨t, _, _, _, rfl, rfl, .inl (.inl ht), rfl, rfl, _, rfl, iteDT rfl ?_⟩
      walk_at "go"
      exact qt _ (Same.refl _)
  intro H1 s1 hD
  rw [sel_lifts] at hD
  exact q _ D s1 nD hD
end
end My

namespace My
open PySem PySem.Spec PyProof.Rows L2 Pre
/-! ### the table of distances, walked -/
def TabG (H0 H : Hp) (f : Addr) (tb : List (List Int)) : Prop := ∃ as : List Addr, H f = some (.lst (as.map V.ref)) ∧ as.length = tb.length ∧ H0 f = none ∧ ∀ (i : Nat) (a : Addr) (l : List Int), as[i]? = some a → tb[i]? = some l → H a = some (.lst (l.map V.int)) ∧ a ≠ f
local macro_rules | `(tactic| walk_at "go") => `(tactic| repeat (first | (with_reducible first | refine iteT ?_ | refine iteF ?_ | refine iteNtt ?_ | refine iteNff ?_ | refine iteET (by omega) ?_ | refine iteEF (by omega) ?_ | refine iteENT (by omega) ?_ | refine iteENF (by omega) ?_ | refine iteDT (by omega) ?_ | refine iteDF (by omega) ?_ | refine iteNT (by omega) ?_ | refine iteNF (by omega) ?_) | refine ⟨_, rfl, ?_⟩ | refine ⟨_, _, rfl, rfl, ?_⟩ | refine ⟨_, _, rfl, ?_⟩ | refine ⟨rfl, ?_⟩ | refine .inl ⟨_, rfl, ?_⟩ | refine .inr ⟨_, rfl, ?_⟩))
local macro_rules | `(tactic| walk_at "b") => `(tactic| try dsimp (config := { proj := false, iota := false, eta := false, zeta := false }) only)
section
variable {P : Program} {w : World} {K : PySem.W.Frag} {mg : Str → Option Value} {base : Heap}
def sp_law_table : Sp := fun vs H Q _ => vs = [.int 60] ∧ ∀ H' f tb, Same H H' → RowsIn H' f tb → TabOk tb 61 → Q (.ref f) H'
theorem G_law_table (T : Top K mg) : FnOk P w K mg base CX0 1 T.f_law_table T.fd_law_table ["_law_most"] sp_law_table := by
  refine T.F_law_table.ok sc_law_table (fun vs H Q E h => by obtain ⟨rfl, _⟩ := h; rfl) (fun cdv A outer s H vs Q E hr h => ?_)
  obtain ⟨rfl, q⟩ := h
  refine ⟨_, PSs.nox (pss_cons (ps_set (i := 1) sc_law_table.nd rfl (by first | exact Or.inl rfl | exact Or.inr rfl) (pe_lst (pa_cons (pe_lst pa_nil) (pa_cons (pe_lst (pa_cons pe_int pa_nil)) pa_nil))))
  (pss_cons (ps_for PassesOwn.never rfl (pi_range2 (by rfl) T.n_range (pa_cons pe_int (pa_cons (pe_op op_add (pv 0) pe_int) pa_nil))) (pg_name (i := 2) sc_law_table.nd rfl (by first | exact Or.inl rfl | exact Or.inr rfl))
    (pss_cons (ps_set (i := 3) sc_law_table.nd rfl (by first | exact Or.inl rfl | exact Or.inr rfl) (pe_lst (pa_cons (pe_op op_powW pe_int pe_int) pa_nil)))
  (pss_cons (ps_for PassesOwn.never rfl (pi_range2 (by rfl) T.n_range (pa_cons pe_int (pa_cons (pv 2) pa_nil))) (pg_name (i := 4) sc_law_table.nd rfl (by first | exact Or.inl rfl | exact Or.inr rfl))
    (pss_one (ps_expr (pe_bm PySem.F.plainAttrs_list PySem.F.slot_list_append PySem.F.type_list_append mt_append (pv 3) (pa_cons (pe_op op_add pe_int (pe_callB (call_min2 rfl) (by rfl) T.n_min (by decide +kernel) (pa_cons (pe_ix (k_ixL K rfl) (pe_ix (k_ixL K rfl) (pv 1) (pv 4) (fun _ _ => rfl)) (pe_op op_mod (pv 2) (pv 4)) (fun _ _ => rfl)) (pa_cons (pe_ix (k_ixL K rfl) (pe_ix (k_ixL K rfl) (pv 1) (pe_op op_sub (pv 2) (pv 4)) (fun _ _ => rfl)) (pe_op op_mod (pv 2) (pe_op op_sub (pv 2) (pv 4))) (fun _ _ => rfl)) pa_nil)))) pa_nil)))))
  (pss_one (ps_expr (pe_bm PySem.F.plainAttrs_list PySem.F.slot_list_append PySem.F.type_list_append mt_append (pv 1) (pa_cons (pv 3) pa_nil)))))))
  (pss_one (ps_ret (pv 1))))), ?_⟩
  refine ⟨(by show 0 ≤ sizeLine; decide), fun r0 n0 => ?_⟩
  generalize e0 : upd _ r0 _ = H1
  obtain ⟨s1, h1⟩ := newH n0 e0
  refine ⟨(by show 1 ≤ sizeLine; decide), fun r1 n1 => ?_⟩
  generalize e0 : upd _ r1 _ = H2
  obtain ⟨s2, h2⟩ := newH n1 e0
  refine ⟨(by show 2 ≤ sizeLine; decide), fun f nf => ?_⟩
  generalize e0 : upd _ f _ = H3
  obtain ⟨s3, h3⟩ := newH nf e0
  have s03 := s1.trans (s2.trans s3)
  have nf0 : H f = none := none_back (s1.trans s2) nf
  dsimp only [gName]
  show tSeq (tFor _ _ _) _ _ [some (V.int 60), some (V.ref f), none, none, none] _
  refine ⟨_, rfl, _, _, rfl, rfl, 2, 61, rfl, ⟨by decide, by decide, by decide, by decide⟩, ?_⟩
  refine for_range (lo := 2) (n := 59) (fun i σ HA => ∃ (tb : List (List Int)) (v2 v3 v4 : Option V), σ = [some (.int 60), some (.ref f), v2, v3, v4] ∧ Same H HA ∧ TabG H HA f tb ∧ TabOk tb (i + 2)) ⟨[[], [1]], none, none, none, rfl, s03, ⟨[r0, r1], h3, rfl, nf0, fun i a l ha hl => ?_⟩, TabOk.two⟩ ?_ ?_
  · match i, ha, hl with
    | 0, ha, hl => cases ha; cases hl; exact ⟨s3 _ _ (s2 _ _ h1), ne_of_none (s2 _ _ h1) nf⟩
    | 1, ha, hl => cases ha; cases hl; exact ⟨s3 _ _ h2, ne_of_none h2 nf⟩
  · rintro i σ HA hi ⟨tb, v2, v3, v4, rfl, sA, ⟨as, hf, hal, nf0, has⟩, hT⟩
    rw [show (2 : Int) + (i : Int) = ((i + 2 : Nat) : Int) by omega]
    generalize eu : i + 2 = u at *
    have hu2 : 2 ≤ u := by omega
    have hu60 : u ≤ 60 := by omega
    dsimp only [gName]
    show tSeq (tAsg _ _) _ _ [some (V.int 60), some (V.ref f), some (V.int ((u : Nat) : Int)), v3, v4] _
    refine ⟨_, _, rfl, rfl, ⟨by decide, by decide +kernel⟩, (by show 1 ≤ sizeLine; decide), fun L nL => ?_⟩
    generalize e0 : upd _ L _ = HB
    obtain ⟨sB, hL⟩ := newH nL e0
    dsimp only at hL
    rw [show (10 : Int) ^ (6 : Int).toNat = 1000000 by decide] at hL
    have Lf : f ≠ L := ne_of_none hf nL
    have hfB := sB _ _ hf
    have nL0 := none_back sA nL
    dsimp only [gName]
    show tSeq (tFor _ _ _) _ _ [some (V.int 60), some (V.ref f), some (V.int ((u : Nat) : Int)), some (V.ref L), v4] _
    refine ⟨_, rfl, 1, ((u : Nat) : Int), rfl, ⟨by decide, by decide, by omega, by omega⟩, ?_⟩
    rw [show (((u : Nat) : Int) - 1).toNat = u - 1 by omega]
    refine for_range (lo := 1) (n := u - 1) (fun k σ HC => ∃ (l : List Int) (v4 : Option V), σ = [some (.int 60), some (.ref f), some (.int ((u : Nat) : Int)), some (.ref L), v4] ∧ (∀ b o, b ≠ L → HB b = some o → HC b = some o) ∧ HC L = some (.lst (l.map V.int)) ∧ LineOk l u (k + 1)) ⟨[1000000], v4, rfl, fun b o _ h => h, hL, LineOk.one u⟩ ?_ ?_
    · rintro k σ HC hk ⟨l, v4', rfl, kC, hLC, hln⟩
      rw [show (1 : Int) + (k : Int) = ((k + 1 : Nat) : Int) by omega]
      generalize er : k + 1 = r at *
      have hr1 : 1 ≤ r := by omega
      have hr2 : r < u := by omega
      have hfC := kC _ _ Lf hfB
      have row : ∀ {v z : Nat}, v < u → z < v → ∃ (a : Addr) (m : List Int) (y : Int), (as.map V.ref)[v]? = some (.ref a) ∧ HC a = some (.lst (m.map V.int)) ∧ (m.map V.int)[z]? = some (.int y) ∧ (Nat.gcd z v = 1 → y = ((lenL v z : Nat) : Int)) := fun {v z} hv hz => by
        obtain ⟨m, y, g1, g2, g3⟩ := hT.at hv hz
        have ha : as[v]? = some (as[v]'(by rw [hal]; exact (List.getElem?_eq_some_iff.mp g1).1)) := List.getElem?_eq_getElem _
        obtain ⟨ga, _⟩ := has v _ m ha g1
        exact ⟨_, m, y, by rw [List.getElem?_map, ha]; rfl, kC _ _ (ne_of_none ga nL) (sB _ _ ga), by rw [List.getElem?_map, g2]; rfl, g3⟩
      obtain ⟨a1, m1, y1, p1, p2, p3, p4⟩ := row (v := r) (z := u % r) hr2 (Nat.mod_lt _ (by omega))
      obtain ⟨a2, m2, y2, p5, p6, p7, p8⟩ := row (v := u - r) (z := u % (u - r)) (by omega) (Nat.mod_lt _ (by omega))
      have hnx := tab_next (u := u) hr1 hr2 p4 p8
      dsimp only [gName]
      show tDrop _ _ [some (V.int 60), some (V.ref f), some (V.int ((u : Nat) : Int)), some (V.ref L), some (V.int ((r : Nat) : Int))] _
      have em1 : ((u : Nat) : Int) % ((r : Nat) : Int) = ((u % r : Nat) : Int) := rfl
      have em2 : ((u : Nat) : Int) % (((u : Nat) : Int) - ((r : Nat) : Int)) = ((u % (u - r) : Nat) : Int) := by
        rw [show ((u : Nat) : Int) - ((r : Nat) : Int) = ((u - r : Nat) : Int) by omega]; rfl
      refine ⟨_, rfl, .inl ⟨rfl, _, .inl (.inl hLC)⟩, ?_⟩
      refine ⟨_, rfl, _, rfl, f, _, _, _, rfl, rfl, .inl (.inl hfC), atI_nat p1, ?_⟩
      refine ⟨_, rfl, _, rfl, _, _, rfl, rfl, (by omega), a1, _, _, _, rfl, rfl, .inl (.inl p2), by rw [em1]; exact atI_nat p3, ?_⟩
      refine ⟨_, rfl, _, rfl, _, rfl, _, _, rfl, rfl, f, _, _, _, rfl, rfl, .inl (.inl hfC), by rw [show ((u : Nat) : Int) - ((r : Nat) : Int) = ((u - r : Nat) : Int) by omega]; exact atI_nat p5, ?_⟩
      refine ⟨_, rfl, _, rfl, _, rfl, _, _, rfl, rfl, _, _, rfl, rfl, (by omega), a2, _, _, _, rfl, rfl, .inl (.inl p6), by rw [em2]; exact atI_nat p7, ?_⟩
      refine ⟨_, _, rfl, _, _, rfl, rfl, ?_⟩
      have emin : (if y2 < y1 then y2 else y1) = min y1 y2 := by omega
      rw [emin]
      refine ⟨L, _, _, rfl, rfl, hLC, by rw [List.length_map, hln.len, sizeLine_eq]; omega, ?_⟩
      refine ⟨l ++ [1 + min y1 y2], _, rfl, fun b o nb h => by rw [upd_ne nb]; exact kC _ _ nb h, by rw [upd_same, List.map_append]; rfl, ?_⟩
      exact hln.snoc hnx
    · rintro σ HC ⟨l, v4', rfl, kC, hLC, hln⟩
      have hln : LineOk l u u := by rw [show u - 1 + 1 = u by omega] at hln; exact hln
      have hfC := kC _ _ Lf hfB
      dsimp only
      show tDrop _ _ [some (V.int 60), some (V.ref f), some (V.int ((u : Nat) : Int)), some (V.ref L), v4'] _
      refine ⟨_, rfl, .inl ⟨rfl, _, .inl (.inl hfC)⟩, _, rfl, f, _, _, rfl, rfl, hfC, by rw [List.length_map, hal, hT.len, sizeLine_eq]; omega, ?_⟩
      have sC : Same H HC := fun b o h => kC _ _ (ne_of_none h nL0) (sB _ _ (sA _ _ h))
      refine ⟨tb ++ [l], _, _, _, rfl, fun b o h => by rw [upd_ne (ne_of_none h nf0)]; exact sC _ _ h, ⟨as ++ [L], by rw [upd_same, List.map_append]; rfl, by rw [List.length_append, List.length_append, hal]; rfl, nf0, fun j a m ha hm => ?_⟩, ?_⟩
      · by_cases c : j < as.length
        · rw [List.getElem?_append_left c] at ha
          rw [List.getElem?_append_left (by rw [← hal]; exact c)] at hm
          obtain ⟨g1, g2⟩ := has j a m ha hm
          exact ⟨by rw [upd_ne g2]; exact kC _ _ (ne_of_none g1 nL) (sB _ _ g1), g2⟩
        · rw [List.getElem?_append_right (by omega)] at ha
          rw [List.getElem?_append_right (by rw [← hal]; omega), ← hal] at hm
          have e : j - as.length = 0 := by
            have := (List.getElem?_eq_some_iff.mp ha).1
            rw [List.length_singleton] at this
            omega
          rw [e] at ha hm
          cases ha
          cases hm
          exact ⟨by rw [upd_ne Lf.symm]; exact hLC, Lf.symm⟩
      · have := hT.snoc hu2 hln
        rw [show i + 1 + 2 = u + 1 by omega]
        exact this
  · rintro σ HA ⟨tb, v2, v3, v4, rfl, sA, ⟨as, hf, hal, _, has⟩, hT⟩
    exact ⟨_, rfl, q _ f tb sA ⟨as, hf, hal, fun i a l ha hl => (has i a l ha hl).1⟩ hT⟩
def sp_law_far : Sp := fun vs H Q _ => ∃ (f : Addr) (tb : List (List Int)) (v q : Int), vs = [.ref f, .int v, .int q] ∧ RowsIn H f tb ∧ TabOk tb 61 ∧ q.natAbs ≤ 60 ∧ Int.gcd v q = 1 ∧ Q (.int (lenL q.natAbs v : Nat)) H
theorem G_law_far (T : Top K mg) : FnOk P w K mg base CX0 1 T.f_law_far T.fd_law_far ["_law_table_here", "_law_over", "_law_under"] sp_law_far := by
  refine T.F_law_far.ok sc_law_far (fun vs H Q E h => by obtain ⟨f, tb, v, q, rfl, _⟩ := h; rfl) (fun cdv A outer s H vs Q E hr h => ?_)
  obtain ⟨f, tb, v, q, rfl, hR, hT, hb, hg, qq⟩ := h
  refine ⟨_, PSs.nox (pss_one (ps_ret (pe_ifExp (pt_cmpR op_eq (pv 2) pe_int (nomark _)) pe_int (pe_ix (k_ixL K rfl) (pe_ix (k_ixL K rfl) (pv 0) (pe_callB call_abs (by rfl) T.n_abs (by decide +kernel) (pa_cons (pv 2) pa_nil)) (fun _ _ => rfl)) (pe_op op_mod (pv 1) (pe_callB call_abs (by rfl) T.n_abs (by decide +kernel) (pa_cons (pv 2) pa_nil))) (fun _ _ => rfl))))), ?_⟩
  obtain ⟨as, hf, hal, has⟩ := hR
  refine ⟨_, rfl, rfl, _, rfl, ?_⟩
  by_cases c : q = 0
  · subst c
    exact iteDT rfl qq
  · refine iteDF (fun z => c (V.int.inj z)) ?_
    obtain ⟨l, h1, h2⟩ := far_val hT c hb hg
    have ha : as[q.natAbs]? = some (as[q.natAbs]'(by rw [hal]; exact (List.getElem?_eq_some_iff.mp h1).1)) := List.getElem?_eq_getElem _
    have ha2 := has _ _ l ha h1
    have eab : (if q < 0 then -q else q) = ((q.natAbs : Nat) : Int) := by omega
    have m0 := Int.emod_nonneg v (show ((q.natAbs : Nat) : Int) ≠ 0 by omega)
    refine ⟨_, rfl, _, rfl, _, rfl, ?_⟩
    rw [eab]
    refine ⟨f, _, _, _, rfl, rfl, .inl (.inl hf), atI_nat (by rw [List.getElem?_map, ha]; rfl), ?_⟩
    refine ⟨_, rfl, _, rfl, _, rfl, ?_⟩
    rw [eab]
    refine ⟨_, _, rfl, rfl, (by omega), _, _, _, _, rfl, rfl, .inl (.inl ha2), ?_, qq⟩
    rw [show v % ((q.natAbs : Nat) : Int) = (((v % ((q.natAbs : Nat) : Int)).toNat : Nat) : Int) by omega]
    exact atI_nat (by rw [List.getElem?_map, h2]; rfl)
end
end My

namespace My
open PySem PySem.Spec PyProof.Rows L2 Pre
/-! ### what is due -/
theorem eqv_twoL (a b c d : Int × Int) : PyData.eqv (.list [rowDt (prL a), rowDt (prL b)]) (.list [rowDt (prL c), rowDt (prL d)]) = decide (a = c ∧ b = d) := by
  show (((a.1 == c.1) && ((a.2 == c.2) && true)) && (((b.1 == d.1) && ((b.2 == d.2) && true)) && true)) = _
  rw [Bool.eq_iff_iff]
  simp only [Bool.and_eq_true, beq_iff_eq, decide_eq_true_eq, Prod.ext_iff]
  simp
theorem rows_shaped2 (a b : Int × Int) : SeqAt.shaped (.list [rowDt (prL a), rowDt (prL b)]) = true := by
  have e : PyData.depth (.list [rowDt (prL a), rowDt (prL b)]) ≤ 64 := by
    simp only [rowDt, PyData.depth, PyData.depthAll, depth_ints]
    omega
  show (true && decide (PyData.depth (.list [rowDt (prL a), rowDt (prL b)]) ≤ 64)) = true
  rw [decide_eq_true e]
  rfl
local macro_rules | `(tactic| walk_at "go") => `(tactic| repeat (first | (with_reducible first | refine iteT ?_ | refine iteF ?_ | refine iteNtt ?_ | refine iteNff ?_ | refine iteET (by omega) ?_ | refine iteEF (by omega) ?_ | refine iteENT (by omega) ?_ | refine iteENF (by omega) ?_ | refine iteDT (by omega) ?_ | refine iteDF (by omega) ?_ | refine iteNT (by omega) ?_ | refine iteNF (by omega) ?_) | refine ⟨_, rfl, ?_⟩ | refine ⟨_, _, rfl, rfl, ?_⟩ | refine ⟨_, _, rfl, ?_⟩ | refine ⟨rfl, ?_⟩ | refine .inl ⟨_, rfl, ?_⟩ | refine .inr ⟨_, rfl, ?_⟩))
local macro_rules | `(tactic| walk_at "b") => `(tactic| try dsimp (config := { proj := false, iota := false, eta := false, zeta := false }) only)
section
variable {P : Program} {w : World} {K : PySem.W.Frag} {mg : Str → Option Value} {base : Heap}
def sp_law_due (K : PySem.W.Frag) : Sp := fun vs H Q _ => ∃ (f p : Addr) (tb : List (List Int)) (x y : Int × Int), vs = [.ref f, .ref p] ∧ RowsIn H f tb ∧ TabOk tb 61 ∧ RowsIn H p [[x.1, x.2], [y.1, y.2]] ∧ x.1.natAbs ≤ 60 ∧ x.2.natAbs ≤ 60 ∧ y.1.natAbs ≤ 60 ∧ y.2.natAbs ≤ 60 ∧ (x.1 * y.2 - x.2 * y.1 = 1 ∨ x.1 * y.2 - x.2 * y.1 = -1) ∧ ∀ H', Same H H' → Q (.int (fewF x y : Nat)) H'
theorem G_law_due (T : Top K mg) : FnOk P w K mg base CX0 2 T.f_law_due T.fd_law_due ["_law_table_here", "_law_rows"] (sp_law_due K) := by
  refine T.F_law_due.ok sc_law_due (fun vs H Q E h => by obtain ⟨f, p, tb, x, y, rfl, _⟩ := h; rfl) (fun cdv A outer s H vs Q E hr h => ?_)
  obtain ⟨f, p, tb, x, y, rfl, hF, hT, hR, b1, b2, b3, b4, hd, q⟩ := h
  refine ⟨_, PSs.nox (pss_cons (ps_setLc (i := 2) (own := [("_law_row", 4)]) (g := gName 4) (tt := tYes) (by rfl) sc_law_due.nd rfl rfl (sw_true rfl rfl rfl (by decide +kernel)) (k_piL K rfl (pv 1)) (blkOk_by (own := [("_law_row", 4)]) (N := N_law_due) (sc := defScope s_law_due) (by decide +kernel)) (fun _ _ _ _ _ => (pg_name (i := 4) sc_law_due.nd rfl (by first | exact Or.inl rfl | exact Or.inr rfl))) (fun _ _ _ _ _ => pts_nil) (fun _ _ _ _ _ => (pe_ifExp (PW.pt (pw_or (pt_cmpR op_gt (pe_ix (k_ixL K rfl) (pv 4) pe_int (fun _ _ => rfl)) pe_int (nomark _)) (pw_or1 (PW.pt (pw_and (pt_cmpR op_eq (pe_ix (k_ixL K rfl) (pv 4) pe_int (fun _ _ => rfl)) pe_int (nomark _)) (pw_and1 (pt_cmpR op_gt (pe_ix (k_ixL K rfl) (pv 4) pe_int (fun _ _ => rfl)) pe_int (nomark _)))))))) (pv 4) (pe_lst (pa_cons (pe_op op_sub pe_int (pe_ix (k_ixL K rfl) (pv 4) pe_int (fun _ _ => rfl))) (pa_cons (pe_op op_sub pe_int (pe_ix (k_ixL K rfl) (pv 4) pe_int (fun _ _ => rfl))) pa_nil))))))
  (pss_cons (ps_if (pt_cmpR (k_eqD K rfl hr.units) (pe_callB (k_sortedR K rfl (hu65 hr)) (by rfl) T.n_sorted (by decide +kernel) (pa_cons (pv 2) pa_nil)) (pe_lst (pa_cons (pe_lst (pa_cons pe_int (pa_cons pe_int pa_nil))) (pa_cons (pe_lst (pa_cons pe_int (pa_cons pe_int pa_nil))) pa_nil))) (nomark _))
    (pss_one (ps_ret pe_int))
    pss_nil)
  (pss_cons (ps_setLc (i := 3) (own := [("_law_row", 4)]) (g := gName 4) (tt := tYes) (by rfl) sc_law_due.nd rfl rfl (sw_true rfl rfl rfl (by decide +kernel)) (k_piL K rfl (pv 1)) (blkOk_by (own := [("_law_row", 4)]) (N := N_law_due) (sc := defScope s_law_due) (by decide +kernel)) (fun _ _ _ _ _ => (pg_name (i := 4) sc_law_due.nd rfl (by first | exact Or.inl rfl | exact Or.inr rfl))) (fun _ _ _ _ _ => pts_nil) (fun _ _ _ _ _ => (pe_call (G_law_far T) (hr.mono (by decide)) (by rfl) T.g_law_far T.F_law_far.kp T.b_law_far .nil pass0 (pa_cons (pv 0) (pa_cons (pe_ix (k_ixL K rfl) (pv 4) pe_int (fun _ _ => rfl)) (pa_cons (pe_ix (k_ixL K rfl) (pv 4) pe_int (fun _ _ => rfl)) pa_nil))))))
  (pss_one (ps_ret (pe_op op_add pe_int (pe_callB (k_min K rfl rfl) (by rfl) T.n_min (by decide +kernel) (pa_cons (pe_op op_cat (pv 3) (pe_lc (own := [("_law_row", 4)]) (g := gName 4) (tt := tYes) (by rfl) sc_law_due.nd (k_piL K rfl (pv 1)) (blkOk_by (own := [("_law_row", 4)]) (N := N_law_due) (sc := defScope s_law_due) (by decide +kernel)) (fun _ _ _ _ _ => (pg_name (i := 4) sc_law_due.nd rfl (by first | exact Or.inl rfl | exact Or.inr rfl))) (fun _ _ _ _ _ => pts_nil) (fun _ _ _ _ _ => (pe_call (G_law_far T) (hr.mono (by decide)) (by rfl) T.g_law_far T.F_law_far.kp T.b_law_far .nil pass0 (pa_cons (pv 0) (pa_cons (pe_ix (k_ixL K rfl) (pv 4) pe_int (fun _ _ => rfl)) (pa_cons (pe_ix (k_ixL K rfl) (pv 4) pe_int (fun _ _ => rfl)) pa_nil))))))) pa_nil)))))))), ?_⟩
  obtain ⟨a, b, hp, ha, hb⟩ := rows2 hR
  have hg := det_gcd hd
  refine ⟨_, rfl, p, rfl, ⟨_, .inl (.inl hp)⟩, fun D nD => ?_⟩
  refine lc_relL (K := K) (xs := [.ref a, .ref b]) (fun i v H' => ∃ t, v = .ref t ∧ t ≠ D ∧ H' t = some (.lst [.int ([plc x, plc y].getD i (0, 0)).1, .int ([plc x, plc y].getD i (0, 0)).2])) nD (.inl (.inl hp)) (by rw [sizeLine_eq]; show 2 < _; decide) ?_ (fun x => rfl) ?_ ?_
  · rintro i v H1 H2 o ⟨t, rfl, tD, ht⟩
    exact ⟨t, rfl, tD, o _ _ tD ht⟩
  · intro i v H' zs hv s hD Qt qt
    have ex : ∃ (c : Addr) (z : Int × Int), v = .ref c ∧ H' c = some (.lst [.int z.1, .int z.2]) ∧ c ≠ D ∧ [plc x, plc y].getD i (0, 0) = plc z := by
      match i, hv with
      | 0, hv => cases hv; exact ⟨a, x, rfl, s _ _ ha, ne_of_none ha nD, rfl⟩
      | 1, hv => cases hv; exact ⟨b, y, rfl, s _ _ hb, ne_of_none hb nD, rfl⟩
    obtain ⟨c, z, rfl, hc, cD, ez⟩ := ex
    rw [ez] at qt
    unfold plc at qt
    have i1 : atI [V.int z.1, .int z.2] 1 = some (.int z.2) := rfl
    have i0 : atI [V.int z.1, .int z.2] 0 = some (.int z.1) := rfl
    refine ⟨_, rfl, c, _, _, _, rfl, rfl, .inl (.inl hc), i1, _, _, rfl, rfl, _, rfl, ?_⟩
    have yes : ∀ {Q' : VK}, (z.2 > 0 ∨ z.2 = 0 ∧ z.1 > 0) → (∀ v H'', Same H' H'' → (∃ t, v = V.ref t ∧ t ≠ D ∧ H'' t = some (.lst [.int (if z.2 > 0 ∨ z.2 = 0 ∧ z.1 > 0 then z else (-z.1, -z.2)).1, .int (if z.2 > 0 ∨ z.2 = 0 ∧ z.1 > 0 then z else (-z.1, -z.2)).2])) → Q' v H'') → Q' (.ref c) H' := fun h k => k _ H' (Same.refl _) ⟨c, rfl, cD, by rw [if_pos h]; exact hc⟩
    have no : ∀ {Q' : VK}, ¬ (z.2 > 0 ∨ z.2 = 0 ∧ z.1 > 0) → (∀ v H'', Same H' H'' → (∃ t, v = V.ref t ∧ t ≠ D ∧ H'' t = some (.lst [.int (if z.2 > 0 ∨ z.2 = 0 ∧ z.1 > 0 then z else (-z.1, -z.2)).1, .int (if z.2 > 0 ∨ z.2 = 0 ∧ z.1 > 0 then z else (-z.1, -z.2)).2])) → Q' v H'') → ∀ t, H' t = none → Q' (.ref t) (upd H' t (.lst [.int (0 - z.1), .int (0 - z.2)])) := fun h k t nt => k _ _ (same_upd nt) ⟨t, rfl, (ne_of_none hD nt).symm, by rw [if_neg h, upd_same, Int.zero_sub, Int.zero_sub]⟩
    by_cases c1 : z.2 > 0
    · rw [decide_eq_true c1]
      refine iteT (iteT ⟨_, rfl, ?_⟩)
      exact yes (.inl c1) qt
    rw [decide_eq_false c1]
    refine iteF ⟨_, rfl, c, _, _, _, rfl, rfl, .inl (.inl hc), i1, rfl, _, rfl, ?_⟩
    by_cases c2 : z.2 = 0
    · rw [show decide (V.int z.2 = V.int 0) = true by rw [c2]; rfl]
      refine iteT ⟨_, rfl, c, _, _, _, rfl, rfl, .inl (.inl hc), i0, _, _, rfl, rfl, _, rfl, ?_⟩
      by_cases c3 : z.1 > 0
      · rw [decide_eq_true c3]
        exact iteT ⟨_, rfl, yes (.inr ⟨c2, c3⟩) qt⟩
      · rw [decide_eq_false c3]
        refine iteF ⟨_, rfl, c, _, _, _, rfl, rfl, .inl (.inl hc), i0, _, _, rfl, rfl, _, rfl, c, _, _, _, rfl, rfl, .inl (.inl hc), i1, _, _, rfl, rfl, (by show 2 ≤ sizeLine; decide), fun t nt => ?_⟩
        exact no (by omega) qt t nt
    · rw [show decide (V.int z.2 = V.int 0) = false from decide_eq_false fun h => c2 (V.int.inj h)]
      refine iteF (iteF ⟨_, rfl, c, _, _, _, rfl, rfl, .inl (.inl hc), i0, _, _, rfl, rfl, _, rfl, c, _, _, _, rfl, rfl, .inl (.inl hc), i1, _, _, rfl, rfl, (by show 2 ≤ sizeLine; decide), fun t nt => ?_⟩)
      exact no (by omega) qt t nt
  intro H1 ys s1 hD hyl hyR
  obtain ⟨t1, t2, rfl, h1, h2⟩ : ∃ t1 t2, ys = [.ref t1, .ref t2] ∧ H1 t1 = some (.lst [.int (plc x).1, .int (plc x).2]) ∧ H1 t2 = some (.lst [.int (plc y).1, .int (plc y).2]) := by
    match ys, hyl with
    | [u, v], _ =>
      obtain ⟨t1, rfl, _, h1⟩ := hyR 0 u rfl
      obtain ⟨t2, rfl, _, h2⟩ := hyR 1 v rfl
      exact ⟨t1, t2, rfl, h1, h2⟩
  clear hyR hyl
  dsimp only [gName]
  show tSeq (tIfS _ _ _) _ _ [some (V.ref f), some (V.ref p), some (V.ref D), none, none] _
  refine ⟨_, rfl, D, [(.ref t1, prL (plc x)), (.ref t2, prL (plc y))], rfl, .inl (.inl hD), fun q hq => ?_, fun qs r hperm hsort nr => ?_⟩
  · rcases List.mem_cons.mp hq with rfl | hq
    · exact .lst (.inl (.inl h1)) (dp_ints (prL (plc x)))
    · rw [List.mem_singleton.mp hq]
      exact .lst (.inl (.inl h2)) (dp_ints (prL (plc y)))
  generalize e0 : upd _ r _ = H2
  obtain ⟨s2, hr⟩ := newH nr e0
  refine ⟨(by show 2 ≤ sizeLine; decide), fun z1 nz1 => ?_⟩
  generalize e0 : upd _ z1 _ = H3
  obtain ⟨s3, hz1⟩ := newH nz1 e0
  refine ⟨(by show 2 ≤ sizeLine; decide), fun z2 nz2 => ?_⟩
  generalize e0 : upd _ z2 _ = H4
  obtain ⟨s4, hz2⟩ := newH nz2 e0
  refine ⟨(by show 2 ≤ sizeLine; decide), fun z3 nz3 => ?_⟩
  generalize e0 : upd _ z3 _ = H5
  obtain ⟨s5, hz3⟩ := newH nz3 e0
  have s15 := s2.trans (s3.trans (s4.trans s5))
  obtain ⟨u, v, huv, hle, hdl⟩ : ∃ u v : Int × Int, ((u = plc x ∧ v = plc y) ∨ (u = plc y ∧ v = plc x)) ∧ prL u ≤ prL v ∧ Dt H5 (.ref r) (.list [rowDt (prL u), rowDt (prL v)]) := by
    have d1 := s15 _ _ h1
    have d2 := s15 _ _ h2
    have hr5 := (s3.trans (s4.trans s5)) _ _ hr
    rcases perm_two hperm with rfl | rfl
    · refine ⟨plc x, plc y, .inl ⟨rfl, rfl⟩, ?_, .lst hr5 (.cons (.lst d1 (DtA.ints (prL (plc x)))) (.cons (.lst d2 (DtA.ints (prL (plc y)))) .nil))⟩
      exact (List.pairwise_cons.mp hsort).1 _ List.mem_cons_self
    · refine ⟨plc y, plc x, .inr ⟨rfl, rfl⟩, ?_, .lst hr5 (.cons (.lst d2 (DtA.ints (prL (plc y)))) (.cons (.lst d1 (DtA.ints (prL (plc x)))) .nil))⟩
      exact (List.pairwise_cons.mp hsort).1 _ List.mem_cons_self
  have hdr : Dt H5 (.ref z3) (.list [rowDt (prL (0, 1)), rowDt (prL (1, 0))]) := .lst hz3 (.cons (.lst ((s4.trans s5) _ _ hz1) (DtA.ints [0, 1])) (.cons (.lst (s5 _ _ hz2) (DtA.ints [1, 0])) .nil))
  refine d_eq hdl hdr (rows_shaped2 _ _) (rows_shaped2 _ _) ⟨_, rfl, ?_⟩
  have hq : decide (u = (0, 1) ∧ v = (1, 0)) = decide (Std x y) := decide_eq_decide.mpr (std_sorted huv hle)
  rw [eqv_twoL, hq]
  have s05 := s1.trans s15
  unfold fewF at q
  by_cases hstd : Std x y
  · rw [decide_eq_true hstd]
    rw [if_pos hstd] at q
    exact iteT (q _ s05)
  rw [decide_eq_false hstd]
  rw [if_neg hstd] at q
  refine iteF ?_
  simp only [tNext]
  clear hdl hdr hz3 hz2 hz1 hr hle huv hsort hperm
  have hp5 := s05 _ _ hp
  show tSeq (tAsg _ _) _ _ [some (V.ref f), some (V.ref p), some (V.ref D), none, none] _
  refine ⟨_, rfl, p, rfl, ⟨_, .inl (.inl hp5)⟩, fun L nL => ?_⟩
  refine lc_mapL (K := K) (a := p) (xs := [.ref a, .ref b]) [.int (lenL x.2.natAbs x.1 : Nat), .int (lenL y.2.natAbs y.1 : Nat)] nL (.inl (.inl hp5)) rfl (by rw [sizeLine_eq]; show 2 < _; decide) (fun x => rfl) ?_ ?_
  · intro i v u H' hv hu s Qt qt
    have ex : ∃ (c : Addr) (z : Int × Int), v = .ref c ∧ H' c = some (.lst [.int z.1, .int z.2]) ∧ u = .int (lenL z.2.natAbs z.1 : Nat) ∧ z.2.natAbs ≤ 60 ∧ Int.gcd z.1 z.2 = 1 := by
      match i, hv, hu with
      | 0, hv, hu => cases hv; cases hu; exact ⟨a, x, rfl, s _ _ (s05 _ _ ha), rfl, b2, hg.1⟩
      | 1, hv, hu => cases hv; cases hu; exact ⟨b, y, rfl, s _ _ (s05 _ _ hb), rfl, b4, hg.2.2.1⟩
    obtain ⟨c, z, rfl, hc, rfl, hz, hgz⟩ := ex
    refine ⟨_, rfl, _, rfl, c, _, _, _, rfl, rfl, .inl (.inl hc), atI_nat (j := 0) rfl, _, rfl, c, _, _, _, rfl, rfl, .inl (.inl hc), atI_nat (j := 1) rfl, ?_⟩
    exact ⟨f, tb, _, _, rfl, hF.same (s05.trans s), hT, hz, hgz, qt _ (Same.refl _)⟩
  intro H6 s6 hL
  dsimp only [gName]
  show tRet _ _ [some (V.ref f), some (V.ref p), some (V.ref D), some (V.ref L), none] _
  have s06 := s05.trans s6
  have hp6 := s06 _ _ hp
  refine ⟨_, rfl, _, rfl, p, rfl, ⟨_, .inl (.inl hp6)⟩, fun M nM => ?_⟩
  refine lc_mapL (K := K) (a := p) (xs := [.ref a, .ref b]) [.int (lenL x.1.natAbs x.2 : Nat), .int (lenL y.1.natAbs y.2 : Nat)] nM (.inl (.inl hp6)) rfl (by rw [sizeLine_eq]; show 2 < _; decide) (fun x => rfl) ?_ ?_
  · intro i v u H' hv hu s Qt qt
    have ex : ∃ (c : Addr) (z : Int × Int), v = .ref c ∧ H' c = some (.lst [.int z.1, .int z.2]) ∧ u = .int (lenL z.1.natAbs z.2 : Nat) ∧ z.1.natAbs ≤ 60 ∧ Int.gcd z.2 z.1 = 1 := by
      match i, hv, hu with
      | 0, hv, hu => cases hv; cases hu; exact ⟨a, x, rfl, s _ _ (s06 _ _ ha), rfl, b1, hg.2.1⟩
      | 1, hv, hu => cases hv; cases hu; exact ⟨b, y, rfl, s _ _ (s06 _ _ hb), rfl, b3, hg.2.2.2⟩
    obtain ⟨c, z, rfl, hc, rfl, hz, hgz⟩ := ex
    refine ⟨_, rfl, _, rfl, c, _, _, _, rfl, rfl, .inl (.inl hc), atI_nat (j := 1) rfl, _, rfl, c, _, _, _, rfl, rfl, .inl (.inl hc), atI_nat (j := 0) rfl, ?_⟩
    exact ⟨f, tb, _, _, rfl, hF.same (s06.trans s), hT, hz, hgz, qt _ (Same.refl _)⟩
  intro H7 s7 hM
  refine ⟨L, M, _, _, rfl, rfl, s7 _ _ hL, hM, (by show 4 ≤ sizeLine; decide), fun j nj => ?_⟩
  generalize e0 : upd _ j _ = H8
  obtain ⟨s8, hj⟩ := newH nj e0
  refine ⟨j, [(lenL x.2.natAbs x.1 : Nat), (lenL y.2.natAbs y.1 : Nat), (lenL x.1.natAbs x.2 : Nat), (lenL y.1.natAbs y.2 : Nat)], rfl, .inl (.inl hj), by show 0 < 4; decide, fun m hm hle => ?_⟩
  refine ⟨_, _, rfl, rfl, ?_⟩
  have e : (1 : Int) + m = ((1 + min (min (lenL x.2.natAbs x.1) (lenL y.2.natAbs y.1)) (min (lenL x.1.natAbs x.2) (lenL y.1.natAbs y.2)) : Nat) : Int) := by
    have k1 := hle _ (List.mem_cons_self)
    have k2 := hle _ (List.mem_cons_of_mem _ List.mem_cons_self)
    have k3 := hle _ (List.mem_cons_of_mem _ (List.mem_cons_of_mem _ List.mem_cons_self))
    have k4 := hle _ (List.mem_cons_of_mem _ (List.mem_cons_of_mem _ (List.mem_cons_of_mem _ List.mem_cons_self)))
    simp only [List.mem_cons, List.not_mem_nil, or_false] at hm
    omega
  dsimp only
  rw [e]
  exact q _ (s06.trans (s7.trans s8))
end
end My

namespace My
open PySem PySem.Spec PyProof.Rows L2 Pre
/-! ### rows drawn -/
/-- two rows, all new -/
def Rw2 (H0 H : Hp) (p : Addr) (x y : Int × Int) : Prop := ∃ a b : Addr, H p = some (.lst [.ref a, .ref b]) ∧ H a = some (.lst [.int x.1, .int x.2]) ∧ H b = some (.lst [.int y.1, .int y.2]) ∧ H0 p = none ∧ H0 a = none ∧ H0 b = none
theorem Rw2.rows {H0 H : Hp} {p : Addr} {x y : Int × Int} (h : Rw2 H0 H p x y) : RowsIn H p [[x.1, x.2], [y.1, y.2]] := by
  obtain ⟨a, b, h1, h2, h3, _⟩ := h
  refine ⟨[a, b], h1, rfl, fun i c l hc hl => ?_⟩
  match i, hc, hl with
  | 0, hc, hl => cases hc; cases hl; exact h2
  | 1, hc, hl => cases hc; cases hl; exact h3
theorem Rw2.same {H0 H H' : Hp} {p : Addr} {x y : Int × Int} (h : Rw2 H0 H p x y) (s : Same H H') : Rw2 H0 H' p x y := by
  obtain ⟨a, b, h1, h2, h3, h4⟩ := h
  exact ⟨a, b, s _ _ h1, s _ _ h2, s _ _ h3, h4⟩
theorem Rw2.but {H0 H H' : Hp} {p g : Addr} {x y : Int × Int} (h : Rw2 H0 H p x y) (hg : H0 g ≠ none) (b : But g H H') : Rw2 H0 H' p x y := by
  obtain ⟨a, c, h1, h2, h3, h4, h5, h6⟩ := h
  exact ⟨a, c, b _ _ (fun z => hg (z ▸ h4)) h1, b _ _ (fun z => hg (z ▸ h5)) h2, b _ _ (fun z => hg (z ▸ h6)) h3, h4, h5, h6⟩
theorem Rw2.old {H0 H1 H' : Hp} {p : Addr} {x y : Int × Int} (h : Rw2 H1 H' p x y) (s : ∀ b, H1 b = none → H0 b = none) : Rw2 H0 H' p x y := by
  obtain ⟨a, b, h1, h2, h3, h4, h5, h6⟩ := h
  exact ⟨a, b, h1, h2, h3, s _ h4, s _ h5, s _ h6⟩
theorem none_but {H H' : Hp} {g z : Addr} {N : Nat} (k : But g H H') (gA : GenAt H' g N) (h : H' z = none) : H z = none := by
  cases eh : H z with
  | none => rfl
  | some o =>
    by_cases c : z = g
    · rw [c] at h
      obtain ⟨_, _, _, g1, _⟩ := gA
      rw [g1] at h; cases h
    · rw [k _ _ c eh] at h; cases h
theorem GenAt.up {H : Hp} {g : Addr} {N M : Nat} (h : GenAt H g N) (hm : N ≤ M) : GenAt H g M := by
  obtain ⟨u, v, w, g1, g2, g3⟩ := h
  exact ⟨u, v, w, g1, by omega, by omega⟩
local macro_rules | `(tactic| walk_at "go") => `(tactic| repeat (first | (with_reducible first | refine iteT ?_ | refine iteF ?_ | refine iteNtt ?_ | refine iteNff ?_ | refine iteET (by omega) ?_ | refine iteEF (by omega) ?_ | refine iteENT (by omega) ?_ | refine iteENF (by omega) ?_ | refine iteDT (by omega) ?_ | refine iteDF (by omega) ?_ | refine iteNT (by omega) ?_ | refine iteNF (by omega) ?_) | refine ⟨_, rfl, ?_⟩ | refine ⟨_, _, rfl, rfl, ?_⟩ | refine ⟨_, _, rfl, ?_⟩ | refine ⟨rfl, ?_⟩ | refine .inl ⟨_, rfl, ?_⟩ | refine .inr ⟨_, rfl, ?_⟩))
local macro_rules | `(tactic| walk_at "b") => `(tactic| try dsimp (config := { proj := false, iota := false, eta := false, zeta := false }) only)
section
variable {P : Program} {w : World} {K : PySem.W.Frag} {mg : Str → Option Value} {base : Heap}
def Bdd (B : Nat) (q : Int × Int) : Prop := q.1.natAbs ≤ B ∧ q.2.natAbs ≤ B
def addP (x : Int × Int) (w : Int) (y : Int × Int) : Int × Int := (x.1 + w * y.1, x.2 + w * y.2)
def sp_law_lifted (K : PySem.W.Frag) : Sp := fun vs H Q _ => ∃ (p : Addr) (to : Nat) (wt : Int) (x y : Int × Int), vs = [.ref p, .int to, .int wt] ∧ RowsIn H p [[x.1, x.2], [y.1, y.2]] ∧ to < 2 ∧ wt.natAbs < 2 ^ 200 ∧ Sm x ∧ Sm y ∧ ∀ H' r, Same H H' → Rw2 H H' r (if to = 0 then addP x wt y else x) (if to = 0 then y else addP y wt x) → Q (.ref r) H'
theorem G_law_lifted (T : Top K mg) : FnOk P w K mg base CX0 1 T.f_law_lifted T.fd_law_lifted ["_law_rows", "_law_to", "_law_weight"] (sp_law_lifted K) := by
  refine T.F_law_lifted.ok sc_law_lifted (fun vs H Q E h => by obtain ⟨p, to, wt, x, y, rfl, _⟩ := h; rfl) (fun cdv A outer s H vs Q E hr h => ?_)
  obtain ⟨p, to, wt, x, y, rfl, hR, hto, hw, bx, by_, q⟩ := h
  refine ⟨_, PSs.nox (pss_cons (ps_setLc (i := 3) (own := [("_law_row", 4)]) (g := gName 4) (tt := tYes) (by rfl) sc_law_lifted.nd rfl rfl (sw_true rfl rfl rfl (by decide +kernel)) (k_piL K rfl (pv 0)) (blkOk_by (own := [("_law_row", 4)]) (N := N_law_lifted) (sc := defScope s_law_lifted) (by decide +kernel)) (fun _ _ _ _ _ => (pg_name (i := 4) sc_law_lifted.nd rfl (by first | exact Or.inl rfl | exact Or.inr rfl))) (fun _ _ _ _ _ => pts_nil) (fun _ _ _ _ _ => (pe_callTy (k_listOf K rfl) (by rfl) T.n_list (by decide +kernel) (pa_cons (pv 4) pa_nil))))
  (pss_cons (ps_asg (pe_lc (own := [("_law_k", 5)]) (g := gName 5) (tt := tYes) (by rfl) sc_law_lifted.nd (pi_range1 (by rfl) T.n_range (pa_cons pe_int pa_nil)) (blkOk_by (own := [("_law_k", 5)]) (N := N_law_lifted) (sc := defScope s_law_lifted) (by decide +kernel)) (fun _ _ _ _ _ => (pg_name (i := 5) sc_law_lifted.nd rfl (by first | exact Or.inl rfl | exact Or.inr rfl))) (fun _ _ _ _ _ => pts_nil) (fun _ _ _ _ _ => (pe_op op_add (pe_ix (k_ixL K rfl) (pe_ix (k_ixL K rfl) (pv 0) (pv 1) (fun _ _ => rfl)) (pv 5) (fun _ _ => rfl)) (pe_op op_mulX (pv 2) (pe_ix (k_ixL K rfl) (pe_ix (k_ixL K rfl) (pv 0) (pe_op op_sub pe_int (pv 1)) (fun _ _ => rfl)) (pv 5) (fun _ _ => rfl)))))) (pg_sub (pv 3) (pv 1) set_list))
  (pss_one (ps_ret (pv 3))))), ?_⟩
  obtain ⟨a, b, hp, ha, hb⟩ := rows2 hR
  refine ⟨_, rfl, p, rfl, ⟨_, .inl (.inl hp)⟩, fun D nD => ?_⟩
  refine lc_relL (K := K) (xs := [.ref a, .ref b]) (fun i v H' => ∃ t, v = .ref t ∧ t ≠ D ∧ H t = none ∧ H' t = some (.lst [.int ([x, y].getD i (0, 0)).1, .int ([x, y].getD i (0, 0)).2])) nD (.inl (.inl hp)) (by rw [sizeLine_eq]; show 2 < _; decide) ?_ (fun x => rfl) ?_ ?_
  · rintro i v H1 H2 o ⟨t, rfl, tD, nt, ht⟩
    exact ⟨t, rfl, tD, nt, o _ _ tD ht⟩
  · intro i v H' zs hv s hD Qt qt
    have ex : ∃ (c : Addr) (z : Int × Int), v = .ref c ∧ H' c = some (.lst [.int z.1, .int z.2]) ∧ [x, y].getD i (0, 0) = z := by
      match i, hv with
      | 0, hv => cases hv; exact ⟨a, x, rfl, s _ _ ha, rfl⟩
      | 1, hv => cases hv; exact ⟨b, y, rfl, s _ _ hb, rfl⟩
    obtain ⟨c, z, rfl, hc, ez⟩ := ex
    refine ⟨_, rfl, c, _, rfl, .inl (.inl (.inl hc)), fun l nl => ?_⟩
    exact qt _ _ (same_upd nl) ⟨l, rfl, (ne_of_none hD nl).symm, none_back s nl, by rw [upd_same, ez]⟩
  intro H1 ys s1 hD hyl hyR
  obtain ⟨t1, t2, rfl, d1, n1, h1, d2, n2, h2⟩ : ∃ t1 t2, ys = [.ref t1, .ref t2] ∧ t1 ≠ D ∧ H t1 = none ∧ H1 t1 = some (.lst [.int x.1, .int x.2]) ∧ t2 ≠ D ∧ H t2 = none ∧ H1 t2 = some (.lst [.int y.1, .int y.2]) := by
    match ys, hyl with
    | [u, v], _ =>
      obtain ⟨t1, rfl, d1, n1, h1⟩ := hyR 0 u rfl
      obtain ⟨t2, rfl, d2, n2, h2⟩ := hyR 1 v rfl
      exact ⟨t1, t2, rfl, d1, n1, h1, d2, n2, h2⟩
  clear hyR hyl
  obtain ⟨c, d, u, v, hcto, hdto, hc, hd, bv, hfin⟩ : ∃ (c d : Addr) (u v : Int × Int), [V.ref a, .ref b][to]? = some (.ref c) ∧ [V.ref a, .ref b][1 - to]? = some (.ref d) ∧ H c = some (.lst [.int u.1, .int u.2]) ∧ H d = some (.lst [.int v.1, .int v.2]) ∧ Sm v ∧ ∀ (H' : Hp) (e : Addr), H e = none → e ≠ D → H' D = some (.lst (([V.ref t1, .ref t2] : List V).set to (.ref e))) → H' e = some (.lst [.int (u.1 + wt * v.1), .int (u.2 + wt * v.2)]) → H' t1 = some (.lst [.int x.1, .int x.2]) → H' t2 = some (.lst [.int y.1, .int y.2]) → Rw2 H H' D (if to = 0 then addP x wt y else x) (if to = 0 then y else addP y wt x) := by
    have hto' : to = 0 ∨ to = 1 := by omega
    rcases hto' with rfl | rfl
    · exact ⟨a, b, x, y, rfl, rfl, ha, hb, by_, fun H' e ne eD hD' he h1' h2' => ⟨e, t2, hD', he, h2', nD, ne, n2⟩⟩
    · exact ⟨b, a, y, x, rfl, rfl, hb, ha, bx, fun H' e ne eD hD' he h1' h2' => ⟨t1, e, hD', h1', he, nD, n1, ne⟩⟩
  dsimp only [gName]
  show tSeq (tAsg _ _) _ _ [some (V.ref p), some (V.int ((to : Nat) : Int)), some (V.int wt), some (V.ref D), none, none] _
  refine ⟨_, rfl, by decide, by decide, fun E nE => ?_⟩
  have hp1 := s1 _ _ hp
  refine lc_mapR (lo := 0) (n := 2) [.int (u.1 + wt * v.1), .int (u.2 + wt * v.2)] nE rfl (by rw [sizeLine_eq]; decide) (fun x => rfl) ?_ ?_
  · intro k y' H' hk hy s Qt qt
    rw [Int.zero_add]
    have at_ : ∃ i j : Int, [V.int u.1, .int u.2][k]? = some (.int i) ∧ [V.int v.1, .int v.2][k]? = some (.int j) ∧ y' = .int (i + wt * j) ∧ j.natAbs < 2 ^ 80 := by
      match k, hy with
      | 0, hy => cases hy; exact ⟨_, _, rfl, rfl, rfl, bv.1⟩
      | 1, hy => cases hy; exact ⟨_, _, rfl, rfl, rfl, bv.2⟩
    obtain ⟨i, j, hi, hj, rfl, bj⟩ := at_
    have hp' := s _ _ hp1
    refine ⟨_, rfl, _, rfl, p, _, _, _, rfl, rfl, .inl (.inl hp'), atI_nat hcto, _, rfl, c, _, _, _, rfl, rfl, .inl (.inl (s _ _ (s1 _ _ hc))), atI_nat hi, ?_⟩
    refine ⟨_, rfl, _, rfl, _, rfl, _, _, rfl, rfl, p, _, _, _, rfl, rfl, .inl (.inl hp'), ?_, _, rfl, d, _, _, _, rfl, rfl, .inl (.inl (s _ _ (s1 _ _ hd))), atI_nat hj, ?_⟩
    · rw [show (1 : Int) - ((to : Nat) : Int) = ((1 - to : Nat) : Int) by omega]
      exact atI_nat hdto
    exact ⟨_, _, rfl, rfl, cmx hw (up200 bj), _, _, rfl, rfl, qt _ (Same.refl _)⟩
  intro H2 s2 hE
  have DE : E ≠ D := (ne_of_none hD nE).symm
  refine ⟨_, rfl, _, rfl, D, _, _, to, rfl, rfl, s2 _ _ hD, ix_ok hto, ?_⟩
  refine ⟨_, rfl, q _ D (fun b o h => ?_) ?_⟩
  · rw [upd_ne (ne_of_none h nD)]
    exact s2 _ _ (s1 _ _ h)
  · refine hfin _ E (none_back s1 nE) DE upd_same ?_ ?_ ?_
    · rw [upd_ne DE]; exact hE
    · rw [upd_ne d1]; exact s2 _ _ h1
    · rw [upd_ne d2]; exact s2 _ _ h2
def Bent (x y x' y' : Int × Int) : Prop := ∃ e d : Int, sgn e ∧ sgn d ∧ ((x' = (x.1 * e, x.2 * e) ∧ y' = (y.1 * d, y.2 * d)) ∨ (x' = (y.1 * d, y.2 * d) ∧ y' = (x.1 * e, x.2 * e)))
def sp_law_bent (K : PySem.W.Frag) : Sp := fun vs H Q _ => ∃ (g p : Addr) (N : Nat) (x y : Int × Int) (H0 : Hp), vs = [.ref g, .ref p] ∧ GenAt H g N ∧ N ≤ 10 ^ 8 ∧ Rw2 H0 H p x y ∧ H0 g ≠ none ∧ Sm x ∧ Sm y ∧ ∀ H' r x' y', But g H H' → GenAt H' g (N + 1000) → Rw2 H H' r x' y' → Bent x y x' y' → Q (.ref r) H'
theorem G_law_bent (T : Top K mg) : FnOk P w K mg base CX0 3 T.f_law_bent T.fd_law_bent ["_law_purse_here", "_law_rows"] (sp_law_bent K) := by
  refine T.F_law_bent.ok sc_law_bent (fun vs H Q E h => by obtain ⟨g, p, N, x, y, H0, rfl, _⟩ := h; rfl) (fun cdv A outer s H vs Q E hr h => ?_)
  obtain ⟨g, p, N, x, y, H0, rfl, hG, hN, hR, hg0, bx, by_, q⟩ := h
  refine ⟨_, PSs.nox (pss_cons (ps_set (i := 2) sc_law_bent.nd rfl (Or.inr rfl) (pe_lc (own := [("_law_row", 4)]) (g := gName 4) (tt := tYes) (by rfl) sc_law_bent.nd (k_piL K rfl (pv 1)) (blkOk_by (own := [("_law_row", 4)]) (N := N_law_bent) (sc := defScope s_law_bent) (by decide +kernel)) (fun _ _ _ _ _ => (pg_name (i := 4) sc_law_bent.nd rfl (by first | exact Or.inl rfl | exact Or.inr rfl))) (fun _ _ _ _ _ => pts_nil) (fun _ _ _ _ _ => (pe_call (G_law_one_of T) (hr.mono (by decide)) (by rfl) T.g_law_one_of T.F_law_one_of.kp T.b_law_one_of .nil pass0 (pa_cons (pv 0) (pa_cons (pe_lst (pa_cons pe_int (pa_cons (pe_un un_neg pe_int) pa_nil))) pa_nil))))))
  (pss_cons (ps_setLc (i := 3) (own := [("_law_at", 5)]) (g := gName 5) (tt := tYes) (by rfl) sc_law_bent.nd rfl rfl (sw_true rfl rfl rfl (by decide +kernel)) (pi_range1 (by rfl) T.n_range (pa_cons pe_int pa_nil)) (blkOk_by (own := [("_law_at", 5)]) (N := N_law_bent) (sc := defScope s_law_bent) (by decide +kernel)) (fun _ _ _ _ _ => (pg_name (i := 5) sc_law_bent.nd rfl (by first | exact Or.inl rfl | exact Or.inr rfl))) (fun _ _ _ _ _ => pts_nil) (fun _ _ _ _ _ => (pe_lc (own := [("_law_number", 6)]) (g := gName 6) (tt := tYes) (by rfl) sc_law_bent.nd (k_piL K rfl (pe_ix (k_ixL K rfl) (pv 1) (pv 5) (fun _ _ => rfl))) (blkOk_by (own := [("_law_number", 6)]) (N := N_law_bent) (by kernel_rfl)) (fun _ _ _ _ _ => (pg_name (i := 6) sc_law_bent.nd rfl (by first | exact Or.inl rfl | exact Or.inr rfl))) (fun _ _ _ _ _ => pts_nil) (fun _ _ _ _ _ => (pe_op op_mulX (pv 6) (pe_ix (k_ixL K rfl) (pv 2) (pv 5) (fun _ _ => rfl)))))))
  (pss_one (ps_ret (pe_ifExp (pt_cmpR op_eq (pe_call (G_law_draw T) (hr.mono (by decide)) (by rfl) T.g_law_draw T.F_law_draw.kp T.b_law_draw .nil pass0 (pa_cons (pv 0) (pa_cons pe_int pa_nil))) pe_int (nomark _)) (pe_revL (pv 3)) (pv 3)))))), ?_⟩
  obtain ⟨a, b, hp, ha, hb, np, na, nb⟩ := hR
  have pg : p ≠ g := fun z => hg0 (z ▸ np)
  have ag : a ≠ g := fun z => hg0 (z ▸ na)
  have bg : b ≠ g := fun z => hg0 (z ▸ nb)
  refine ⟨_, rfl, p, rfl, ⟨_, .inl (.inl hp)⟩, fun D nD => ?_⟩
  have pD : p ≠ D := ne_of_none hp nD
  have Dg : D ≠ g := hG.ne nD
  refine lc_list (K := K) (a := p) (xs := [.ref a, .ref b]) (fun i HA => ∃ ns : List Int, But g H HA ∧ GenAt HA g (N + 100 * i) ∧ HA D = some (.lst (ns.map V.int)) ∧ ns.length = i ∧ ∀ e ∈ ns, sgn e) ⟨[], But.of (same_upd nD), hG.same (same_upd nD), upd_same, rfl, fun e h => nomatch h⟩ (fun i HA _ ⟨_, k, _⟩ => .inl (.inl (k _ _ pg hp))) ?_ ?_
  · rintro i v HA hv ⟨ns, kA, gA, hDA, hnl, hns⟩
    have hi : i < 2 := (List.getElem?_eq_some_iff.mp hv).1
    refine ⟨rfl, ?_⟩
    unfold tYes
    dsimp only
    rw [if_pos (show true = true from rfl)]
    refine ⟨_, rfl, _, rfl, (by show 2 ≤ sizeLine; decide), fun l nl => ?_⟩
    generalize e0 : upd _ l _ = HB
    obtain ⟨sB, hl⟩ := newH nl e0
    refine ⟨g, l, _, [1, -1], rfl, gA.same sB, by omega, hl, gA.ne nl, by decide, by decide, fun HC e he kC gC => ?_⟩
    refine ⟨ns.map V.int, kC _ _ Dg (sB _ _ hDA), by rw [List.length_map, hnl, sizeLine_eq]; omega, ns ++ [e], fun b o nb h => ?_, ?_, by rw [upd_same, List.map_append]; rfl, by rw [List.length_append, hnl]; rfl, fun e' he' => ?_⟩
    · by_cases c : b = D
      · rw [c, nD] at h; cases h
      · rw [upd_ne c]
        exact kC _ _ nb (sB _ _ (kA _ _ nb h))
    · obtain ⟨u, v, w, g1, g2, g3⟩ := gC
      exact ⟨u, v, w, by rw [upd_ne Dg.symm]; exact g1, by omega, by omega⟩
    · rcases List.mem_append.mp he' with h | h
      · exact hns _ h
      · rw [List.mem_singleton.mp h]
        rcases List.mem_cons.mp he with rfl | he
        · exact .inl rfl
        · rw [List.mem_singleton.mp he]; exact .inr rfl
  rintro H1 ⟨ns, k1, g1, hD1, hnl, hns⟩
  have g1 : GenAt H1 g (N + 200) := g1
  obtain ⟨e, d, rfl⟩ : ∃ e d, ns = [e, d] := by
    match ns, hnl with
    | [e, d], _ => exact ⟨e, d, rfl⟩
  have he : sgn e := hns _ List.mem_cons_self
  have hd : sgn d := hns _ (List.mem_cons_of_mem _ List.mem_cons_self)
  have hp1 := k1 _ _ pg hp
  have ha1 := k1 _ _ ag ha
  have hb1 := k1 _ _ bg hb
  dsimp only [gName]
  show tSeq (tAsg _ _) _ _ [some (V.ref g), some (V.ref p), some (V.ref D), none, none, none, none] _
  have nH : ∀ {z : Addr}, H1 z = none → H z = none := fun {z} h => none_but k1 g1 h
  refine ⟨_, rfl, by decide, by decide, fun E nE => ?_⟩
  refine lc_relR (lo := 0) (n := 2) (fun i v H' => ∃ t, v = .ref t ∧ t ≠ E ∧ H1 t = none ∧ H' t = some (.lst [.int ([(x.1 * e, x.2 * e), (y.1 * d, y.2 * d)].getD i (0, 0)).1, .int ([(x.1 * e, x.2 * e), (y.1 * d, y.2 * d)].getD i (0, 0)).2])) nE (by rw [sizeLine_eq]; decide) ?_ (fun x => rfl) ?_ ?_
  · rintro i v H1 H2 o ⟨t, rfl, tD, nt, ht⟩
    exact ⟨t, rfl, tD, nt, o _ _ tD ht⟩
  · intro i H' zs hi s hE Qt qt
    rw [Int.zero_add]
    obtain ⟨c, z, s', hc1, hc, hs', bz, hsg, ez⟩ : ∃ (c : Addr) (z : Int × Int) (s' : Int), [V.ref a, .ref b][i]? = some (.ref c) ∧ H' c = some (.lst [.int z.1, .int z.2]) ∧ [V.int e, .int d][i]? = some (.int s') ∧ Sm z ∧ sgn s' ∧ [(x.1 * e, x.2 * e), (y.1 * d, y.2 * d)].getD i (0, 0) = (z.1 * s', z.2 * s') := by
      match i, hi with
      | 0, _ => exact ⟨a, x, e, rfl, s _ _ ha1, rfl, bx, he, rfl⟩
      | 1, _ => exact ⟨b, y, d, rfl, s _ _ hb1, rfl, by_, hd, rfl⟩
    refine ⟨_, rfl, _, rfl, p, _, _, _, rfl, rfl, .inl (.inl (s _ _ hp1)), atI_nat hc1, c, rfl, ⟨_, .inl (.inl hc)⟩, fun F nF => ?_⟩
    refine lc_mapL (K := K) (a := c) (xs := [.int z.1, .int z.2]) [.int (z.1 * s'), .int (z.2 * s')] nF (.inl (.inl hc)) rfl (by rw [sizeLine_eq]; show 2 < _; decide) (fun x => rfl) ?_ ?_
    · intro j v u H2 hv hu s2 Qt2 qt2
      obtain ⟨m, rfl, rfl, hm⟩ : ∃ m : Int, v = .int m ∧ u = .int (m * s') ∧ m.natAbs < 2 ^ 80 := by
        match j, hv, hu with
        | 0, hv, hu => cases hv; cases hu; exact ⟨_, rfl, rfl, bz.1⟩
        | 1, hv, hu => cases hv; cases hu; exact ⟨_, rfl, rfl, bz.2⟩
      refine ⟨_, rfl, _, rfl, _, rfl, D, _, _, _, rfl, rfl, .inl (.inl (s2 _ _ (s _ _ hD1))), atI_nat hs', _, _, rfl, rfl, cmx (up200 hm) (sgn_bd hsg), qt2 _ (Same.refl _)⟩
    · intro H2 s2 hF
      exact qt _ _ s2 ⟨F, rfl, (ne_of_none hE nF).symm, none_back s nF, by rw [ez]; exact hF⟩
  intro H2 ys s2 hE hyl hyR
  obtain ⟨t1, t2, rfl, n1, h1, n2, h2⟩ : ∃ t1 t2, ys = [.ref t1, .ref t2] ∧ H1 t1 = none ∧ H2 t1 = some (.lst [.int (x.1 * e), .int (x.2 * e)]) ∧ H1 t2 = none ∧ H2 t2 = some (.lst [.int (y.1 * d), .int (y.2 * d)]) := by
    match ys, hyl with
    | [u, v], _ =>
      obtain ⟨t1, rfl, _, n1, h1⟩ := hyR 0 u rfl
      obtain ⟨t2, rfl, _, n2, h2⟩ := hyR 1 v rfl
      exact ⟨t1, t2, rfl, n1, h1, n2, h2⟩
  clear hyR hyl
  dsimp only [gName]
  show tRet _ _ [some (V.ref g), some (V.ref p), some (V.ref D), some (V.ref E), none, none, none] _
  refine ⟨_, rfl, g, _, _, rfl, g1.same s2, by omega, by decide, small_2900 (by decide), fun r1 H3 r10 r11 g3 b3 => ?_⟩
  have gE : E ≠ g := g1.ne nE
  have gt1 : t1 ≠ g := g1.ne n1
  have gt2 : t2 ≠ g := g1.ne n2
  have kf : But g H H3 := fun b o nb h => b3 _ _ nb (s2 _ _ (k1 _ _ nb h))
  have hE3 := b3 _ _ gE hE
  have h13 := b3 _ _ gt1 h1
  have h23 := b3 _ _ gt2 h2
  have gfin : GenAt H3 g (N + 1000) := by
    obtain ⟨u, v, w, g1, g2, g3⟩ := g3
    exact ⟨u, v, w, g1, by omega, by omega⟩
  refine ⟨rfl, _, rfl, ?_⟩
  by_cases c : r1 = 0
  · rw [show decide (V.int r1 = V.int 0) = true by rw [c]; rfl]
    refine iteT ⟨_, rfl, E, _, rfl, .inl (.inl hE3), fun z nz => ?_⟩
    generalize e0 : upd _ z _ = H4
    obtain ⟨s4, hz⟩ := newH nz e0
    exact q _ z _ _ (fun b o nb h => s4 _ _ (kf _ _ nb h)) (gfin.same s4) ⟨t2, t1, hz, s4 _ _ h23, s4 _ _ h13, none_but kf gfin nz, nH n2, nH n1⟩ ⟨e, d, he, hd, .inr ⟨rfl, rfl⟩⟩
  · rw [show decide (V.int r1 = V.int 0) = false from decide_eq_false fun h => c (V.int.inj h)]
    refine iteF ⟨_, rfl, ?_⟩
    exact q _ E _ _ kf gfin ⟨t1, t2, hE3, h13, h23, nH nE, nH n1, nH n2⟩ ⟨e, d, he, hd, .inl ⟨rfl, rfl⟩⟩
end
end My

namespace My
open PySem PySem.Spec PyProof.Rows L2 Pre
/-! ### rows drawn -/
theorem Bent.len {x y x' y' : Int × Int} (h : Bent x y x' y') : fewF x' y' = fewF x y := by
  have one : ∀ {e : Int} (z w : Int × Int), sgn e → fewF (z.1 * e, z.2 * e) w = fewF z w := fun {e} z w he => by
    rcases he with rfl | rfl
    · rw [Int.mul_one, Int.mul_one]
    · rw [show (z.1 * -1, z.2 * -1) = (-z.1, -z.2) by congr 1 <;> omega, few_negx]
  obtain ⟨e, d, he, hd, ⟨rfl, rfl⟩ | ⟨rfl, rfl⟩⟩ := h
  · rw [one _ _ he, ← few_swap, one _ _ hd, few_swap]
  · rw [one _ _ hd, ← few_swap, one _ _ he]
theorem Bent.bd {x y x' y' : Int × Int} (h : Bent x y x' y') {B : Nat} (hx : x.1.natAbs ≤ B ∧ x.2.natAbs ≤ B) (hy : y.1.natAbs ≤ B ∧ y.2.natAbs ≤ B) : (x'.1.natAbs ≤ B ∧ x'.2.natAbs ≤ B) ∧ (y'.1.natAbs ≤ B ∧ y'.2.natAbs ≤ B) := by
  have one : ∀ {e z : Int}, sgn e → z.natAbs ≤ B → (z * e).natAbs ≤ B := fun {e z} he hz => by
    rcases he with rfl | rfl
    · rw [Int.mul_one]; exact hz
    · omega
  obtain ⟨e, d, he, hd, ⟨rfl, rfl⟩ | ⟨rfl, rfl⟩⟩ := h
  · exact ⟨⟨one he hx.1, one he hx.2⟩, one hd hy.1, one hd hy.2⟩
  · exact ⟨⟨one hd hy.1, one hd hy.2⟩, one he hx.1, one he hx.2⟩
theorem Bent.det {x y x' y' : Int × Int} (h : Bent x y x' y') (hd : sgn (crs x y)) : sgn (crs x' y') := by
  obtain ⟨e, d, he, hd', ⟨rfl, rfl⟩ | ⟨rfl, rfl⟩⟩ := h
  · have : crs (x.1 * e, x.2 * e) (y.1 * d, y.2 * d) = e * d * crs x y := by unfold crs; dsimp only; grind
    rw [this]
    exact sgn_mul (sgn_mul he hd') hd
  · have : crs (y.1 * d, y.2 * d) (x.1 * e, x.2 * e) = -1 * (e * d * crs x y) := by unfold crs; dsimp only; grind
    rw [this]
    exact sgn_mul (.inr rfl) (sgn_mul (sgn_mul he hd') hd)
theorem crs_add1 (x y : Int × Int) (w : Int) : crs (addP x w y) y = crs x y := by unfold crs addP; dsimp only; grind
theorem crs_add2 (x y : Int × Int) (w : Int) : crs x (addP y w x) = crs x y := by unfold crs addP; dsimp only; grind
theorem sm_of {B : Nat} {q : Int × Int} (h : q.1.natAbs ≤ B ∧ q.2.natAbs ≤ B) (hB : B < 2 ^ 80) : Sm q := ⟨Nat.lt_of_le_of_lt h.1 hB, Nat.lt_of_le_of_lt h.2 hB⟩
theorem p60 : 60 < 2 ^ 80 := by decide +kernel
theorem asg_last {te : TE} {tg : TG} {D : L2.Ends} {σ : L2.St} {H : Hp} (Pv : V → Hp → Prop) (h : ∀ Q : VK, (∀ v H', Pv v H' → Q v H') → te σ H Q) (k : ∀ v H', Pv v H' → tg v σ H' D.nx) :
    tAsg te tg D σ H := h _ k
local macro_rules | `(tactic| walk_at "go") => `(tactic| repeat (first | (with_reducible first | refine iteT ?_ | refine iteF ?_ | refine iteNtt ?_ | refine iteNff ?_ | refine iteET (by omega) ?_ | refine iteEF (by omega) ?_ | refine iteENT (by omega) ?_ | refine iteENF (by omega) ?_ | refine iteDT (by omega) ?_ | refine iteDF (by omega) ?_ | refine iteNT (by omega) ?_ | refine iteNF (by omega) ?_) | refine ⟨_, rfl, ?_⟩ | refine ⟨_, _, rfl, rfl, ?_⟩ | refine ⟨_, _, rfl, ?_⟩ | refine ⟨rfl, ?_⟩ | refine .inl ⟨_, rfl, ?_⟩ | refine .inr ⟨_, rfl, ?_⟩))
local macro_rules | `(tactic| walk_at "b") => `(tactic| try dsimp (config := { proj := false, iota := false, eta := false, zeta := false }) only)
section
variable {P : Program} {w : World} {K : PySem.W.Frag} {mg : Str → Option Value} {base : Heap}
def sp_law_drawn (K : PySem.W.Frag) : Sp := fun vs H Q _ => ∃ (g : Addr) (N : Nat), vs = [.ref g] ∧ GenAt H g N ∧ N ≤ 10 ^ 7 ∧ ∀ H' r x y, But g H H' → GenAt H' g (N + 10000) → Rw2 H H' r x y → (x.1.natAbs ≤ 60 ∧ x.2.natAbs ≤ 60) → (y.1.natAbs ≤ 60 ∧ y.2.natAbs ≤ 60) → sgn (crs x y) → Q (.ref r) H'
theorem G_law_drawn (T : Top K mg) : FnOk P w K mg base CX0 4 T.f_law_drawn T.fd_law_drawn ["_law_purse_here"] (sp_law_drawn K) := by
  refine T.F_law_drawn.ok sc_law_drawn (fun vs H Q E h => by obtain ⟨g, N, rfl, _⟩ := h; rfl) (fun cdv A outer s H vs Q E hr h => ?_)
  obtain ⟨g, N, rfl, hG, hN, q⟩ := h
  refine ⟨_, PSs.nox (pss_cons (ps_set (i := 1) sc_law_drawn.nd rfl (by first | exact Or.inl rfl | exact Or.inr rfl) (pe_lst (pa_cons (pe_lst (pa_cons pe_int (pa_cons pe_int pa_nil))) (pa_cons (pe_lst (pa_cons pe_int (pa_cons pe_int pa_nil))) pa_nil))))
  (pss_cons (ps_for PassesOwn.never rfl (pi_range1 (by rfl) T.n_range (pa_cons (pe_call (G_law_draw T) (hr.mono (by decide)) (by rfl) T.g_law_draw T.F_law_draw.kp T.b_law_draw .nil pass0 (pa_cons (pv 0) (pa_cons pe_int pa_nil))) pa_nil)) (pg_name (i := 2) sc_law_drawn.nd rfl (by first | exact Or.inl rfl | exact Or.inr rfl))
    (pss_cons (ps_set (i := 3) sc_law_drawn.nd rfl (by first | exact Or.inl rfl | exact Or.inr rfl) (pe_call (G_law_lifted T) (hr.mono (by decide)) (by rfl) T.g_law_lifted T.F_law_lifted.kp T.b_law_lifted .nil pass0 (pa_cons (pv 1) (pa_cons (pe_call (G_law_draw T) (hr.mono (by decide)) (by rfl) T.g_law_draw T.F_law_draw.kp T.b_law_draw .nil pass0 (pa_cons (pv 0) (pa_cons pe_int pa_nil))) (pa_cons (pe_op op_sub (pe_call (G_law_draw T) (hr.mono (by decide)) (by rfl) T.g_law_draw T.F_law_draw.kp T.b_law_draw .nil pass0 (pa_cons (pv 0) (pa_cons pe_int pa_nil))) pe_int) pa_nil)))))
  (pss_one (ps_set (i := 1) sc_law_drawn.nd rfl (by first | exact Or.inl rfl | exact Or.inr rfl) (pe_ifExp (pt_cmpR op_le (pe_callB (k_max K rfl rfl) (by rfl) T.n_max (by decide +kernel) (pa_cons (pe_lc (own := [("_law_row", 4)]) (g := gName 4) (tt := tYes) (by rfl) sc_law_drawn.nd (k_piL K rfl (pv 3)) (blkOk_by (own := [("_law_row", 4)]) (N := N_law_drawn) (sc := defScope s_law_drawn) (by decide +kernel)) (fun _ _ _ _ _ => (pg_name (i := 4) sc_law_drawn.nd rfl (by first | exact Or.inl rfl | exact Or.inr rfl))) (fun _ _ _ _ _ => pts_nil) (fun _ _ _ _ _ => (pe_callB (k_max K rfl rfl) (by rfl) T.n_max (by decide +kernel) (pa_cons (pe_lc (own := [("_law_number", 5)]) (g := gName 5) (tt := tYes) (by rfl) sc_law_drawn.nd (k_piL K rfl (pv 4)) (blkOk_by (own := [("_law_number", 5)]) (N := N_law_drawn) (by kernel_rfl)) (fun _ _ _ _ _ => (pg_name (i := 5) sc_law_drawn.nd rfl (by first | exact Or.inl rfl | exact Or.inr rfl))) (fun _ _ _ _ _ => pts_nil) (fun _ _ _ _ _ => (pe_callB call_abs (by rfl) T.n_abs (by decide +kernel) (pa_cons (pv 5) pa_nil)))) pa_nil)))) pa_nil)) pe_int (nomark _)) (pv 3) (pv 1))))))
  (pss_one (ps_ret (pe_call (G_law_bent T) (hr.mono (by decide)) (by rfl) T.g_law_bent T.F_law_bent.kp T.b_law_bent .nil pass0 (pa_cons (pv 0) (pa_cons (pv 1) pa_nil))))))), ?_⟩
  have hg0 : H g ≠ none := by obtain ⟨_, _, _, h, _⟩ := hG; rw [h]; exact fun z => nomatch z
  refine ⟨(by show 2 ≤ sizeLine; decide), fun a na => ?_⟩
  generalize e0 : upd _ a _ = H1
  obtain ⟨s1, h1⟩ := newH na e0
  refine ⟨(by show 2 ≤ sizeLine; decide), fun b nb => ?_⟩
  generalize e0 : upd _ b _ = H2
  obtain ⟨s2, h2⟩ := newH nb e0
  refine ⟨(by show 2 ≤ sizeLine; decide), fun p np => ?_⟩
  generalize e0 : upd _ p _ = H3
  obtain ⟨s3, h3⟩ := newH np e0
  have s03 := s1.trans (s2.trans s3)
  dsimp only [gName]
  show tSeq (tFor _ _ _) _ _ [some (V.ref g), some (V.ref p), none, none, none, none] _
  refine ⟨_, rfl, g, _, _, rfl, hG.same s03, by omega, by decide, small_2900 (by decide), fun m H4 m0 m1 g4 b4 => ?_⟩
  refine ⟨m, rfl, by omega, by omega, ?_⟩
  have k4 : But g H H4 := fun b o nb h => b4 _ _ nb (s03 _ _ h)
  have rw0 : Rw2 H H4 p (1, 0) (0, 1) := Rw2.but ⟨a, b, h3, s3 _ _ (s2 _ _ h1), s3 _ _ h2, none_back (s1.trans s2) np, na, none_back s1 nb⟩ hg0 b4
  refine for_range (lo := 0) (n := m.toNat) (fun i σ HA => ∃ (r : Addr) (x y : Int × Int) (v2 v3 v4 v5 : Option V), σ = [some (.ref g), some (.ref r), v2, v3, v4, v5] ∧ But g H HA ∧ GenAt HA g (N + 100 + 1000 * i) ∧ Rw2 H HA r x y ∧ (x.1.natAbs ≤ 60 ∧ x.2.natAbs ≤ 60) ∧ (y.1.natAbs ≤ 60 ∧ y.2.natAbs ≤ 60) ∧ sgn (crs x y)) ⟨p, (1, 0), (0, 1), none, none, none, none, rfl, k4, g4, rw0, by decide, by decide, .inl rfl⟩ ?_ ?_
  · rintro i σ HA hi ⟨r, x, y, v2, v3, v4, v5, rfl, kA, gA, hR, bx, by_, hd⟩
    have hi8 : i < 8 := by omega
    generalize ei : V.int (0 + (i : Int)) = vi
    dsimp only [gName]
    show tSeq (tAsg _ _) _ _ [some (V.ref g), some (V.ref r), some vi, v3, v4, v5] _
    refine ⟨_, rfl, _, rfl, g, _, _, rfl, gA, by omega, by decide, small_2900 (by decide), fun to HB t0 t1 gB kB => ?_⟩
    obtain ⟨t, rfl⟩ : ∃ t : Nat, to = (t : Int) := ⟨to.toNat, by omega⟩
    refine ⟨_, rfl, g, _, _, rfl, gB, by omega, by decide, small_2900 (by decide), fun wt HC w0 w1 gC kC => ?_⟩
    have hRC := (hR.but hg0 kB).but hg0 kC
    have kAC : But g H HC := (kA.trans kB).trans kC
    refine ⟨_, _, rfl, rfl, r, t, _, x, y, rfl, hRC.rows, by omega, Nat.lt_of_le_of_lt (show (wt - 4).natAbs ≤ 60 by omega) (Nat.lt_trans p60 p200), sm_of bx p60, sm_of by_ p60, fun HD l sD hL => ?_⟩
    have hLo : Rw2 H HD l _ _ := hL.old fun z h => none_but kAC gC h
    have gD := gC.same sD
    have kD : But g H HD := fun b o nb h => sD _ _ (kAC _ _ nb h)
    have hRD := hRC.same sD
    have hdl : sgn (crs (if t = 0 then addP x (wt - 4) y else x) (if t = 0 then y else addP y (wt - 4) x)) := by
      by_cases c : t = 0
      · rw [if_pos c, if_pos c, crs_add1]; exact hd
      · rw [if_neg c, if_neg c, crs_add2]; exact hd
    generalize (if t = 0 then addP x (wt - 4) y else x) = x1 at *
    generalize (if t = 0 then y else addP y (wt - 4) x) = y1 at *
    dsimp only [gName]
    show tAsg _ _ _ [some (V.ref g), some (V.ref r), some vi, some (V.ref l), v4, v5] _
    refine asg_last (fun v H' => ∃ (r' : Addr) (x y : Int × Int), v = .ref r' ∧ Same HD H' ∧ Rw2 H H' r' x y ∧ (x.1.natAbs ≤ 60 ∧ x.2.natAbs ≤ 60) ∧ (y.1.natAbs ≤ 60 ∧ y.2.natAbs ≤ 60) ∧ sgn (crs x y)) (fun Q' hQ' => ?_) ?_
    · obtain ⟨la, lb, hl, hla, hlb, _⟩ := id hLo
      refine ⟨_, rfl, l, rfl, ⟨_, .inl (.inl hl)⟩, fun D nD => ?_⟩
      refine lc_mapL (K := K) (a := l) (xs := [.ref la, .ref lb]) [.int (max x1.1.natAbs x1.2.natAbs : Nat), .int (max y1.1.natAbs y1.2.natAbs : Nat)] nD (.inl (.inl hl)) rfl (by rw [sizeLine_eq]; show 2 < _; decide) (fun x => rfl) ?_ ?_
      · intro i v u H' hv hu s Qt qt
        obtain ⟨c, z, rfl, hc, rfl⟩ : ∃ (c : Addr) (z : Int × Int), v = .ref c ∧ H' c = some (.lst [.int z.1, .int z.2]) ∧ u = .int (max z.1.natAbs z.2.natAbs : Nat) := by
          match i, hv, hu with
          | 0, hv, hu => cases hv; cases hu; exact ⟨la, x1, rfl, s _ _ hla, rfl⟩
          | 1, hv, hu => cases hv; cases hu; exact ⟨lb, y1, rfl, s _ _ hlb, rfl⟩
        refine ⟨_, rfl, c, rfl, ⟨_, .inl (.inl hc)⟩, fun F nF => ?_⟩
        refine lc_mapL (K := K) (a := c) (xs := [.int z.1, .int z.2]) [.int (z.1.natAbs : Nat), .int (z.2.natAbs : Nat)] nF (.inl (.inl hc)) rfl (by rw [sizeLine_eq]; show 2 < _; decide) (fun x => rfl) ?_ ?_
        · intro j v u H2 hv hu s2 Qt2 qt2
          obtain ⟨m, rfl, rfl⟩ : ∃ m : Int, v = .int m ∧ u = .int (m.natAbs : Nat) := by
            match j, hv, hu with
            | 0, hv, hu => cases hv; cases hu; exact ⟨_, rfl, rfl⟩
            | 1, hv, hu => cases hv; cases hu; exact ⟨_, rfl, rfl⟩
          refine ⟨_, rfl, _, rfl, ?_⟩
          rw [show (if m < 0 then -m else m) = ((m.natAbs : Nat) : Int) by omega]
          exact qt2 _ (Same.refl _)
        · intro H2 s2 hF
          refine ⟨F, [(z.1.natAbs : Nat), (z.2.natAbs : Nat)], rfl, .inl (.inl hF), by show 0 < 2; decide, fun M hM hle => ?_⟩
          have e : M = (max z.1.natAbs z.2.natAbs : Nat) := by
            have k1 := hle _ List.mem_cons_self
            have k2 := hle _ (List.mem_cons_of_mem _ List.mem_cons_self)
            simp only [List.mem_cons, List.not_mem_nil, or_false] at hM
            omega
          rw [e]
          exact qt _ s2
      intro HE sE hD'
      refine ⟨D, [(max x1.1.natAbs x1.2.natAbs : Nat), (max y1.1.natAbs y1.2.natAbs : Nat)], rfl, .inl (.inl hD'), by show 0 < 2; decide, fun M hM hle => ⟨_, _, rfl, rfl, _, rfl, ?_⟩⟩
      have k1 := hle _ List.mem_cons_self
      have k2 := hle _ (List.mem_cons_of_mem _ List.mem_cons_self)
      by_cases c : M ≤ 60
      · rw [decide_eq_true c]
        refine iteT ⟨_, rfl, hQ' _ _ ⟨l, x1, y1, rfl, sE, hLo.same sE, by omega, by omega, hdl⟩⟩
      · rw [decide_eq_false c]
        exact iteF ⟨_, rfl, hQ' _ _ ⟨r, x, y, rfl, sE, hRD.same sE, bx, by_, hd⟩⟩
    · rintro v HE ⟨r', x', y', rfl, sE, hR', bx', by', hd'⟩
      exact ⟨r', x', y', _, _, _, _, rfl, fun b o nb h => sE _ _ (kD _ _ nb h), (gD.same sE).up (by omega), hR', bx', by', hd'⟩
  · rintro σ HA ⟨r, x, y, v2, v3, v4, v5, rfl, kA, gA, hR, bx, by_, hd⟩
    refine ⟨_, rfl, _, rfl, g, r, _, x, y, H, rfl, gA, by omega, hR, hg0, sm_of bx p60, sm_of by_ p60, fun H' r' x' y' k' g' hR' hb => ?_⟩
    obtain ⟨c1, c2⟩ := hb.bd bx by_
    exact q H' r' x' y' (kA.trans k') (g'.up (by omega)) (hR'.old fun z h => none_but kA gA h) c1 c2 (hb.det hd)
end
end My

namespace My
open PySem PySem.Spec PyProof.Rows L2 Pre
/-! ### steep rows, and kin -/
theorem pow201 {i : Nat} (h : i ≤ 10) : 201 ^ i < 2 ^ 80 := Nat.lt_of_le_of_lt (Nat.pow_le_pow_right (by decide) h) (by decide +kernel)
theorem steep_bd {i : Nat} {x y : Int × Int} {w : Int} (hx : x.1.natAbs ≤ 201 ^ i ∧ x.2.natAbs ≤ 201 ^ i) (hy : y.1.natAbs ≤ 201 ^ i ∧ y.2.natAbs ≤ 201 ^ i) (hw : w.natAbs ≤ 200) : ((addP x w y).1.natAbs ≤ 201 ^ (i + 1) ∧ (addP x w y).2.natAbs ≤ 201 ^ (i + 1)) ∧ (y.1.natAbs ≤ 201 ^ (i + 1) ∧ y.2.natAbs ≤ 201 ^ (i + 1)) := by
  have one : ∀ {a b : Int}, a.natAbs ≤ 201 ^ i → b.natAbs ≤ 201 ^ i → (a + w * b).natAbs ≤ 201 ^ i * 201 := fun {a b} ha hb => by
    have h1 : (w * b).natAbs ≤ 200 * 201 ^ i := by rw [Int.natAbs_mul]; exact Nat.mul_le_mul hw hb
    omega
  rw [Nat.pow_succ]
  have h0 := one hx.1 hy.1
  have h1 := one hx.2 hy.2
  exact ⟨⟨h0, h1⟩, by omega, by omega⟩
theorem one_in {w d : Int} (hd0 : 0 ≤ d) (hd : d < 198) (h : w ∈ [3, -3, 4, -5, 3 + d]) : 3 ≤ w.natAbs ∧ w.natAbs ≤ 200 := by
  simp only [List.mem_cons, List.not_mem_nil, or_false] at h
  omega
local macro_rules | `(tactic| walk_at "go") => `(tactic| repeat (first | (with_reducible first | refine iteT ?_ | refine iteF ?_ | refine iteNtt ?_ | refine iteNff ?_ | refine iteET (by omega) ?_ | refine iteEF (by omega) ?_ | refine iteENT (by omega) ?_ | refine iteENF (by omega) ?_ | refine iteDT (by omega) ?_ | refine iteDF (by omega) ?_ | refine iteNT (by omega) ?_ | refine iteNF (by omega) ?_) | refine ⟨_, rfl, ?_⟩ | refine ⟨_, _, rfl, rfl, ?_⟩ | refine ⟨_, _, rfl, ?_⟩ | refine ⟨rfl, ?_⟩ | refine .inl ⟨_, rfl, ?_⟩ | refine .inr ⟨_, rfl, ?_⟩))
local macro_rules | `(tactic| walk_at "b") => `(tactic| try dsimp (config := { proj := false, iota := false, eta := false, zeta := false }) only)
section
variable {P : Program} {w : World} {K : PySem.W.Frag} {mg : Str → Option Value} {base : Heap}
def sp_law_steep (K : PySem.W.Frag) : Sp := fun vs H Q _ => ∃ (g : Addr) (N : Nat), vs = [.ref g] ∧ GenAt H g N ∧ N ≤ 10 ^ 7 ∧ ∀ H' t r x y, But g H H' → GenAt H' g (N + 100000) → H' t = some (.lst [.ref r, .int (fewF x y : Nat)]) → H t = none → Rw2 H H' r x y → Sm x → Sm y → sgn (crs x y) → fewF x y ≤ 10 → Q (.ref t) H'
theorem G_law_steep (T : Top K mg) : FnOk P w K mg base CX0 4 T.f_law_steep T.fd_law_steep ["_law_purse_here"] (sp_law_steep K) := by
  refine T.F_law_steep.ok sc_law_steep (fun vs H Q E h => by obtain ⟨g, N, rfl, _⟩ := h; rfl) (fun cdv A outer s H vs Q E hr h => ?_)
  obtain ⟨g, N, rfl, hG, hN, q⟩ := h
  refine ⟨_, PSs.nox (pss_cons (ps_par3 (by rfl) sc_law_steep.nd (i := 2) (j := 3) (l := 4) rfl rfl rfl (by decide) (by decide) (by decide) rfl rfl rfl (pa_cons (pe_call (G_law_draw T) (hr.mono (by decide)) (by rfl) T.g_law_draw T.F_law_draw.kp T.b_law_draw .nil pass0 (pa_cons (pv 0) (pa_cons pe_int pa_nil))) (pa_cons (pe_call (G_law_draw T) (hr.mono (by decide)) (by rfl) T.g_law_draw T.F_law_draw.kp T.b_law_draw .nil pass0 (pa_cons (pv 0) (pa_cons pe_int pa_nil))) (pa_cons (pe_lst (pa_cons (pe_lst (pa_cons pe_int (pa_cons pe_int pa_nil))) (pa_cons (pe_lst (pa_cons pe_int (pa_cons pe_int pa_nil))) pa_nil))) pa_nil))) (by rfl))
  (pss_cons (ps_for PassesOwn.never rfl (pi_range1 (by rfl) T.n_range (pa_cons (pv 2) pa_nil)) (pg_name (i := 1) sc_law_steep.nd rfl (by first | exact Or.inl rfl | exact Or.inr rfl))
    (pss_cons (ps_set (i := 4) sc_law_steep.nd rfl (by first | exact Or.inl rfl | exact Or.inr rfl) (pe_call (G_law_lifted T) (hr.mono (by decide)) (by rfl) T.g_law_lifted T.F_law_lifted.kp T.b_law_lifted .nil pass0 (pa_cons (pv 4) (pa_cons (pv 3) (pa_cons (pe_call (G_law_one_of T) (hr.mono (by decide)) (by rfl) T.g_law_one_of T.F_law_one_of.kp T.b_law_one_of .nil pass0 (pa_cons (pv 0) (pa_cons (pe_lst (pa_cons pe_int (pa_cons (pe_un un_neg pe_int) (pa_cons pe_int (pa_cons (pe_un un_neg pe_int) (pa_cons (pe_op op_add pe_int (pe_call (G_law_draw T) (hr.mono (by decide)) (by rfl) T.g_law_draw T.F_law_draw.kp T.b_law_draw .nil pass0 (pa_cons (pv 0) (pa_cons pe_int pa_nil)))) pa_nil)))))) pa_nil))) pa_nil)))))
  (pss_one (ps_set (i := 3) sc_law_steep.nd rfl (by first | exact Or.inl rfl | exact Or.inr rfl) (pe_op op_sub pe_int (pv 3))))))
  (pss_one (ps_ret (pe_lst (pa_cons (pe_call (G_law_bent T) (hr.mono (by decide)) (by rfl) T.g_law_bent T.F_law_bent.kp T.b_law_bent .nil pass0 (pa_cons (pv 0) (pa_cons (pv 4) pa_nil))) (pa_cons (pv 2) pa_nil))))))), ?_⟩
  have hg0 : H g ≠ none := by obtain ⟨_, _, _, h, _⟩ := hG; rw [h]; exact fun z => nomatch z
  refine ⟨_, rfl, g, _, _, rfl, hG, by omega, by decide, small_2900 (by decide), fun m HA m0 m1 gA kA => ?_⟩
  refine ⟨_, rfl, g, _, _, rfl, gA, by omega, by decide, small_2900 (by decide), fun t0 HB t00 t01 gB kB => ?_⟩
  obtain ⟨s0, rfl⟩ : ∃ t : Nat, t0 = (t : Int) := ⟨t0.toNat, by omega⟩
  have kAB := kA.trans kB
  refine ⟨(by show 2 ≤ sizeLine; decide), fun a na => ?_⟩
  generalize e0 : upd _ a _ = H1
  obtain ⟨s1, h1⟩ := newH na e0
  refine ⟨(by show 2 ≤ sizeLine; decide), fun b nb => ?_⟩
  generalize e0 : upd _ b _ = H2
  obtain ⟨s2, h2⟩ := newH nb e0
  refine ⟨(by show 2 ≤ sizeLine; decide), fun p np => ?_⟩
  generalize e0 : upd _ p _ = H3
  obtain ⟨s3, h3⟩ := newH np e0
  have s03 := s1.trans (s2.trans s3)
  have k3 : But g H H3 := fun b o nb h => s03 _ _ (kAB _ _ nb h)
  have g3 := gB.same s03
  have rw0 : Rw2 H H3 p (1, 0) (0, 1) := ⟨a, b, h3, s3 _ _ (s2 _ _ h1), s3 _ _ h2, none_but kAB gB (none_back (s1.trans s2) np), none_but kAB gB na, none_but kAB gB (none_back s1 nb)⟩
  refine ⟨_, _, _, rfl, ?_⟩
  dsimp only
  show tSeq (tFor _ _ _) _ _ [some (V.ref g), none, some (V.int m), some (V.int ((s0 : Nat) : Int)), some (V.ref p)] _
  have uvx : ∃ u v : Int × Int, ((u = (1, 0) ∧ v = (0, 1)) ∨ (u = (0, 1) ∧ v = (1, 0))) ∧ ((s0 = 0 ∧ goL [] u v = ((1, 0), (0, 1))) ∨ (s0 = 1 ∧ goL [] u v = ((0, 1), (1, 0)))) := by
    have : s0 = 0 ∨ s0 = 1 := by omega
    rcases this with h | h
    · exact ⟨(1, 0), (0, 1), .inl ⟨rfl, rfl⟩, .inl ⟨h, rfl⟩⟩
    · exact ⟨(0, 1), (1, 0), .inr ⟨rfl, rfl⟩, .inr ⟨h, rfl⟩⟩
  obtain ⟨u, v, huv, hs0⟩ := uvx
  refine ⟨_, rfl, m, rfl, by omega, by omega, ?_⟩
  refine for_range (lo := 0) (n := m.toNat) (fun i σ HA => ∃ (to : Nat) (r : Addr) (x y : Int × Int) (ws : List Int) (v1 : Option V), σ = [some (.ref g), v1, some (.int m), some (.int ((to : Nat) : Int)), some (.ref r)] ∧ But g H HA ∧ GenAt HA g (N + 200 + 1000 * i) ∧ Rw2 H HA r x y ∧ (x.1.natAbs ≤ 201 ^ i ∧ x.2.natAbs ≤ 201 ^ i) ∧ (y.1.natAbs ≤ 201 ^ i ∧ y.2.natAbs ≤ 201 ^ i) ∧ sgn (crs x y) ∧ ws.length = i ∧ (∀ w ∈ ws, 3 ≤ w.natAbs) ∧ ((to = 0 ∧ goL ws u v = (x, y)) ∨ (to = 1 ∧ goL ws u v = (y, x)))) ⟨s0, p, (1, 0), (0, 1), [], none, rfl, k3, g3.up (by omega), rw0, by decide, by decide, .inl rfl, rfl, (fun w h => nomatch h), hs0⟩ ?_ ?_
  · rintro i σ HA hi ⟨to, r, x, y, ws, v1, rfl, kA, gA, hR, bx, by_, hd, hwl, hws, hgo⟩
    have hi8 : i ≤ 10 := by omega
    have p201 := pow201 hi8
    generalize ei : V.int (0 + (i : Int)) = vi
    dsimp only [gName]
    show tSeq (tAsg _ _) _ _ [some (V.ref g), some vi, some (V.int m), some (V.int ((to : Nat) : Int)), some (V.ref r)] _
    refine ⟨_, rfl, _, rfl, _, rfl, _, rfl, _, rfl, _, rfl, g, _, _, rfl, gA, by omega, by decide, small_2900 (by decide), fun d HB d0 d1 gB kB => ?_⟩
    refine ⟨_, _, rfl, rfl, (by show 5 ≤ sizeLine; decide), fun l nl => ?_⟩
    generalize e0 : upd _ l _ = HC
    obtain ⟨sC, hl⟩ := newH nl e0
    refine ⟨g, l, _, [3, -3, 4, -5, 3 + d], rfl, gB.same sC, by omega, hl, gB.ne nl, (by show 0 < 5; decide), (by show 5 ≤ 10; decide), fun HD wt hwt kD gD => ?_⟩
    obtain ⟨w3, w200⟩ := one_in d0 d1 hwt
    have kAD : But g H HD := fun b o nb h => kD _ _ nb (sC _ _ (kB _ _ nb (kA _ _ nb h)))
    have hRD := ((hR.but hg0 kB).same sC).but hg0 kD
    have hto : to < 2 := by omega
    refine ⟨r, to, wt, x, y, rfl, hRD.rows, hto, Nat.lt_of_le_of_lt w200 (by decide +kernel), sm_of bx p201, sm_of by_ p201, fun HE l' sE hL => ?_⟩
    have hLo : Rw2 H HE l' _ _ := hL.old fun z h => none_but kAD gD h
    dsimp only [gName]
    show tAsg _ _ _ [some (V.ref g), some vi, some (V.int m), some (V.int ((to : Nat) : Int)), some (V.ref l')] _
    refine ⟨_, rfl, _, _, rfl, rfl, ?_⟩
    have kE : But g H HE := fun b o nb h => sE _ _ (kAD _ _ nb h)
    have gE := gD.same sE
    have hws' : ∀ w ∈ ws ++ [wt], 3 ≤ w.natAbs := fun w hw => by
      rcases List.mem_append.mp hw with h | h
      · exact hws w h
      · rw [List.mem_singleton.mp h]; exact w3
    have hwl' : (ws ++ [wt]).length = i + 1 := by rw [List.length_append, hwl]; rfl
    rcases hgo with ⟨rfl, hgo⟩ | ⟨rfl, hgo⟩
    · rw [if_pos rfl, if_pos rfl] at hLo
      obtain ⟨c1, c2⟩ := steep_bd bx by_ w200
      refine ⟨1, l', addP x wt y, y, ws ++ [wt], _, rfl, kE, gE.up (by omega), hLo, c1, c2, by rw [crs_add1]; exact hd, hwl', hws', .inr ⟨rfl, ?_⟩⟩
      rw [goL_snoc, hgo]
      rfl
    · rw [if_neg (by decide), if_neg (by decide)] at hLo
      obtain ⟨c1, c2⟩ := steep_bd by_ bx w200
      refine ⟨0, l', x, addP y wt x, ws ++ [wt], _, rfl, kE, gE.up (by omega), hLo, c2, c1, by rw [crs_add2]; exact hd, hwl', hws', .inl ⟨rfl, ?_⟩⟩
      rw [goL_snoc, hgo]
      rfl
  · rintro σ HA ⟨to, r, x, y, ws, v1, rfl, kA, gA, hR, bx, by_, hd, hwl, hws, hgo⟩
    have p201 := pow201 (show m.toNat ≤ 10 by omega)
    have hfew : fewF x y = ws.length := by
      have := few_steep hws huv
      rcases hgo with ⟨_, hgo⟩ | ⟨_, hgo⟩
      · rw [hgo] at this; exact this
      · rw [hgo, few_swap] at this; exact this
    refine ⟨_, rfl, _, rfl, g, r, _, x, y, H, rfl, gA, by omega, hR, hg0, sm_of bx p201, sm_of by_ p201, fun H' r' x' y' k' g' hR' hb => ?_⟩
    obtain ⟨c1, c2⟩ := hb.bd bx by_
    have hf : fewF x' y' = ws.length := by rw [hb.len, hfew]
    have kk := kA.trans k'
    refine ⟨_, rfl, (by show 2 ≤ sizeLine; decide), fun t nt => ?_⟩
    generalize e0 : upd _ t _ = H4
    obtain ⟨s4, ht⟩ := newH nt e0
    have em : m = ((fewF x' y' : Nat) : Int) := by omega
    rw [em] at ht
    exact q H4 t r' x' y' (fun b o nb h => s4 _ _ (kk _ _ nb h)) ((g'.up (by omega)).same s4) ht (none_but kk g' nt) ((hR'.old fun z h => none_but kA gA h).same s4) (sm_of c1 p201) (sm_of c2 p201) (hb.det hd) (by omega)
end
end My

namespace My
open PySem PySem.Spec PyProof.Rows L2 Pre
/-! ### kin -/
def kinF (x y : Int × Int) (s : Int) : List ((Int × Int) × (Int × Int)) := [((x.1, y.1), (x.2, y.2)), ((y.2 * s, 0 - x.2 * s), (0 - y.1 * s, x.1 * s)), ((y.1, y.2), (x.1, x.2)), ((0 - x.1, 0 - x.2), (y.1, y.2)), ((x.1, 0 - x.2), (0 - y.1, y.2)), ((x.2, x.1), (y.2, y.1))]
def KinAt (H : Hp) (r : Addr) (ks : List ((Int × Int) × (Int × Int))) : Prop := ∃ as : List Addr, H r = some (.lst (as.map V.ref)) ∧ as.length = ks.length ∧ ∀ (i : Nat) (a : Addr) (q : (Int × Int) × (Int × Int)), as[i]? = some a → ks[i]? = some q → RowsIn H a [[q.1.1, q.1.2], [q.2.1, q.2.2]]
theorem rows_of {H : Hp} {p a b : Addr} {l m : List Int} (hp : H p = some (.lst [.ref a, .ref b])) (ha : H a = some (.lst (l.map V.int))) (hb : H b = some (.lst (m.map V.int))) : RowsIn H p [l, m] := by
  refine ⟨[a, b], hp, rfl, fun i c z hc hz => ?_⟩
  match i, hc, hz with
  | 0, hc, hz => cases hc; cases hz; exact ha
  | 1, hc, hz => cases hc; cases hz; exact hb
theorem kin_ok {x y : Int × Int} (hM : MatOk x y) : ∀ q ∈ kinF x y (x.1 * y.2 - x.2 * y.1), MatOk q.1 q.2 ∧ fewF q.1 q.2 = fewF x y := by
  obtain ⟨hd, ⟨b1, b2⟩, b3, b4⟩ := hM
  obtain ⟨a, b⟩ := x
  obtain ⟨c, d⟩ := y
  dsimp only at *
  have hs : a * d - b * c = 1 ∨ a * d - b * c = -1 := hd
  generalize es : a * d - b * c = s at *
  have ab : ∀ z : Int, (z * s).natAbs = z.natAbs := fun z => by rcases hs with rfl | rfl <;> omega
  have ab2 : ∀ z : Int, (0 - z * s).natAbs = z.natAbs := fun z => by rcases hs with rfl | rfl <;> omega
  have ab3 : ∀ z : Int, (0 - z).natAbs = z.natAbs := fun z => by omega
  have hdd : a * d - b * c = 1 ∨ a * d - b * c = -1 := by rw [es]; exact hs
  intro q hq
  unfold kinF at hq
  simp only [List.mem_cons, List.not_mem_nil, or_false] at hq
  have mk : ∀ p q r t : Int, (p * t - q * r = s ∨ p * t - q * r = -s) → p.natAbs < 2 ^ 80 → q.natAbs < 2 ^ 80 → r.natAbs < 2 ^ 80 → t.natAbs < 2 ^ 80 → MatOk (p, q) (r, t) := fun p q r t h h1 h2 h3 h4 => ⟨by show p * t - q * r = 1 ∨ p * t - q * r = -1; omega, ⟨h1, h2⟩, h3, h4⟩
  rcases hq with rfl | rfl | rfl | rfl | rfl | rfl
  · exact ⟨mk _ _ _ _ (.inl (by grind)) b1 b3 b2 b4, few_turn hdd⟩
  · refine ⟨mk _ _ _ _ (.inl (by rcases hs with rfl | rfl <;> grind)) (by rw [ab]; exact b4) (by rw [ab2]; exact b2) (by rw [ab2]; exact b3) (by rw [ab]; exact b1), few_back hs hdd⟩
  · exact ⟨mk _ _ _ _ (.inr (by grind)) b3 b4 b1 b2, few_swap _ _⟩
  · refine ⟨mk _ _ _ _ (.inr (by grind)) (by rw [ab3]; exact b1) (by rw [ab3]; exact b2) b3 b4, ?_⟩
    dsimp only
    rw [Int.zero_sub, Int.zero_sub]
    exact few_negx (a, b) (c, d)
  · refine ⟨mk _ _ _ _ (.inl (by grind)) b1 (by rw [ab3]; exact b2) (by rw [ab3]; exact b3) b4, ?_⟩
    dsimp only
    rw [Int.zero_sub, Int.zero_sub]
    exact few_negc (a, b) (c, d)
  · exact ⟨mk _ _ _ _ (.inr (by grind)) b2 b1 b4 b3, few_cols (a, b) (c, d)⟩
local macro_rules | `(tactic| walk_at "go") => `(tactic| repeat (first | (with_reducible first | refine iteT ?_ | refine iteF ?_ | refine iteNtt ?_ | refine iteNff ?_ | refine iteET (by omega) ?_ | refine iteEF (by omega) ?_ | refine iteENT (by omega) ?_ | refine iteENF (by omega) ?_ | refine iteDT (by omega) ?_ | refine iteDF (by omega) ?_ | refine iteNT (by omega) ?_ | refine iteNF (by omega) ?_) | refine ⟨_, rfl, ?_⟩ | refine ⟨_, _, rfl, rfl, ?_⟩ | refine ⟨_, _, rfl, ?_⟩ | refine ⟨rfl, ?_⟩ | refine .inl ⟨_, rfl, ?_⟩ | refine .inr ⟨_, rfl, ?_⟩))
local macro_rules | `(tactic| walk_at "b") => `(tactic| try dsimp (config := { proj := false, iota := false, eta := false, zeta := false }) only)
section
variable {P : Program} {w : World} {K : PySem.W.Frag} {mg : Str → Option Value} {base : Heap}
def sp_law_kin (K : PySem.W.Frag) : Sp := fun vs H Q _ => ∃ (p : Addr) (x y : Int × Int), vs = [.ref p] ∧ RowsIn H p [[x.1, x.2], [y.1, y.2]] ∧ MatOk x y ∧ ∀ H' r, Same H H' → KinAt H' r (kinF x y (x.1 * y.2 - x.2 * y.1)) → Q (.ref r) H'
theorem G_law_kin (T : Top K mg) : FnOk P w K mg base CX0 1 T.f_law_kin T.fd_law_kin ["_law_rows"] (sp_law_kin K) := by
  refine T.F_law_kin.ok sc_law_kin (fun vs H Q E h => by obtain ⟨p, x, y, rfl, _⟩ := h; rfl) (fun cdv A outer s H vs Q E hr h => ?_)
  obtain ⟨p, x, y, rfl, hR, hM, q⟩ := h
  refine ⟨_, PSs.nox (pss_cons (ps_asg (pe_ix (k_ixL K rfl) (pv 0) pe_int (fun _ _ => rfl)) (k_pgL K rfl (by rfl) (pgs_cons (pg_name (i := 3) sc_law_kin.nd rfl (by first | exact Or.inl rfl | exact Or.inr rfl)) (pgs_cons (pg_name (i := 4) sc_law_kin.nd rfl (by first | exact Or.inl rfl | exact Or.inr rfl)) pgs_nil))))
  (pss_cons (ps_asg (pe_ix (k_ixL K rfl) (pv 0) pe_int (fun _ _ => rfl)) (k_pgL K rfl (by rfl) (pgs_cons (pg_name (i := 5) sc_law_kin.nd rfl (by first | exact Or.inl rfl | exact Or.inr rfl)) (pgs_cons (pg_name (i := 6) sc_law_kin.nd rfl (by first | exact Or.inl rfl | exact Or.inr rfl)) pgs_nil))))
  (pss_cons (ps_set (i := 1) sc_law_kin.nd rfl (by first | exact Or.inl rfl | exact Or.inr rfl) (pe_op op_sub (pe_op op_mulX (pv 3) (pv 6)) (pe_op op_mulX (pv 4) (pv 5))))
  (pss_cons (ps_set (i := 2) sc_law_kin.nd rfl (by first | exact Or.inl rfl | exact Or.inr rfl) (pe_lst (pa_cons (pe_lst (pa_cons (pe_lst (pa_cons (pv 3) (pa_cons (pv 5) pa_nil))) (pa_cons (pe_lst (pa_cons (pv 4) (pa_cons (pv 6) pa_nil))) pa_nil))) (pa_cons (pe_lst (pa_cons (pe_lst (pa_cons (pe_op op_mulX (pv 6) (pv 1)) (pa_cons (pe_op op_sub pe_int (pe_op op_mulX (pv 4) (pv 1))) pa_nil))) (pa_cons (pe_lst (pa_cons (pe_op op_sub pe_int (pe_op op_mulX (pv 5) (pv 1))) (pa_cons (pe_op op_mulX (pv 3) (pv 1)) pa_nil))) pa_nil))) pa_nil))))
  (pss_one (ps_ret (pe_op op_cat (pv 2) (pe_lst (pa_cons (pe_lst (pa_cons (pe_lst (pa_cons (pv 5) (pa_cons (pv 6) pa_nil))) (pa_cons (pe_lst (pa_cons (pv 3) (pa_cons (pv 4) pa_nil))) pa_nil))) (pa_cons (pe_lst (pa_cons (pe_lst (pa_cons (pe_op op_sub pe_int (pv 3)) (pa_cons (pe_op op_sub pe_int (pv 4)) pa_nil))) (pa_cons (pe_lst (pa_cons (pv 5) (pa_cons (pv 6) pa_nil))) pa_nil))) (pa_cons (pe_lst (pa_cons (pe_lst (pa_cons (pv 3) (pa_cons (pe_op op_sub pe_int (pv 4)) pa_nil))) (pa_cons (pe_lst (pa_cons (pe_op op_sub pe_int (pv 5)) (pa_cons (pv 6) pa_nil))) pa_nil))) (pa_cons (pe_lst (pa_cons (pe_lst (pa_cons (pv 4) (pa_cons (pv 3) pa_nil))) (pa_cons (pe_lst (pa_cons (pv 6) (pa_cons (pv 5) pa_nil))) pa_nil))) pa_nil)))))))))))), ?_⟩
  obtain ⟨a, b, hp, ha, hb⟩ := rows2 hR
  obtain ⟨hd, ⟨b1, b2⟩, b3, b4⟩ := id hM
  have hs : (x.1 * y.2 - x.2 * y.1).natAbs < 2 ^ 200 := sgn_bd hd
  refine ⟨_, rfl, p, _, _, _, rfl, rfl, .inl (.inl hp), atI_nat (j := 0) rfl, a, _, rfl, .inl (.inl ha), rfl, _, _, rfl, _, _, rfl, rfl, ?_⟩
  dsimp only
  show tSeq (tAsg _ _) _ _ [some (V.ref p), none, none, some (V.int x.1), some (V.int x.2), none, none] _
  refine ⟨_, rfl, p, _, _, _, rfl, rfl, .inl (.inl hp), atI_nat (j := 1) rfl, b, _, rfl, .inl (.inl hb), rfl, _, _, rfl, _, _, rfl, rfl, ?_⟩
  dsimp only
  show tSeq (tAsg _ _) _ _ [some (V.ref p), none, none, some (V.int x.1), some (V.int x.2), some (V.int y.1), some (V.int y.2)] _
  refine ⟨_, rfl, _, rfl, _, _, rfl, rfl, cmx (up200 b1) (up200 b4), _, rfl, _, rfl, _, _, rfl, rfl, cmx (up200 b2) (up200 b3), _, _, rfl, rfl, ?_⟩
  dsimp only [gName]
  generalize es : x.1 * y.2 - x.2 * y.1 = s at *
  show tSeq (tAsg _ _) _ _ [some (V.ref p), some (V.int s), none, some (V.int x.1), some (V.int x.2), some (V.int y.1), some (V.int y.2)] _
  refine ⟨_, rfl, _, rfl, (by show 2 ≤ sizeLine; decide), fun A1 nA1 => ?_⟩
  generalize e0 : upd _ A1 _ = H1
  obtain ⟨s1, hA1⟩ := newH nA1 e0
  refine ⟨_, rfl, _, rfl, (by show 2 ≤ sizeLine; decide), fun A2 nA2 => ?_⟩
  generalize e0 : upd _ A2 _ = H2
  obtain ⟨s2, hA2⟩ := newH nA2 e0
  refine ⟨(by show 2 ≤ sizeLine; decide), fun M1 nM1 => ?_⟩
  generalize e0 : upd _ M1 _ = H3
  obtain ⟨s3, hM1⟩ := newH nM1 e0
  refine ⟨_, rfl, _, rfl, _, _, rfl, rfl, cmx (up200 b4) hs, _, rfl, _, rfl, _, _, rfl, rfl, cmx (up200 b2) hs, _, _, rfl, rfl, (by show 2 ≤ sizeLine; decide), fun A3 nA3 => ?_⟩
  generalize e0 : upd _ A3 _ = H4
  obtain ⟨s4, hA3⟩ := newH nA3 e0
  refine ⟨_, rfl, _, rfl, _, _, rfl, rfl, cmx (up200 b3) hs, _, _, rfl, rfl, _, rfl, _, rfl, _, _, rfl, rfl, cmx (up200 b1) hs, (by show 2 ≤ sizeLine; decide), fun A4 nA4 => ?_⟩
  generalize e0 : upd _ A4 _ = H5
  obtain ⟨s5, hA4⟩ := newH nA4 e0
  refine ⟨(by show 2 ≤ sizeLine; decide), fun M2 nM2 => ?_⟩
  generalize e0 : upd _ M2 _ = H6
  obtain ⟨s6, hM2⟩ := newH nM2 e0
  refine ⟨(by show 2 ≤ sizeLine; decide), fun F nF => ?_⟩
  generalize e0 : upd _ F _ = H7
  obtain ⟨s7, hF⟩ := newH nF e0
  dsimp only [gName]
  show tRet _ _ [some (V.ref p), some (V.int s), some (V.ref F), some (V.int x.1), some (V.int x.2), some (V.int y.1), some (V.int y.2)] _
  refine ⟨_, rfl, _, rfl, _, rfl, (by show 2 ≤ sizeLine; decide), fun A5 nA5 => ?_⟩
  generalize e0 : upd _ A5 _ = H8
  obtain ⟨s8, hA5⟩ := newH nA5 e0
  refine ⟨_, rfl, _, rfl, (by show 2 ≤ sizeLine; decide), fun A6 nA6 => ?_⟩
  generalize e0 : upd _ A6 _ = H9
  obtain ⟨s9, hA6⟩ := newH nA6 e0
  refine ⟨(by show 2 ≤ sizeLine; decide), fun M3 nM3 => ?_⟩
  generalize e0 : upd _ M3 _ = H10
  obtain ⟨s10, hM3⟩ := newH nM3 e0
  refine ⟨_, rfl, _, _, rfl, rfl, _, rfl, _, _, rfl, rfl, (by show 2 ≤ sizeLine; decide), fun A7 nA7 => ?_⟩
  generalize e0 : upd _ A7 _ = H11
  obtain ⟨s11, hA7⟩ := newH nA7 e0
  refine ⟨_, rfl, _, rfl, (by show 2 ≤ sizeLine; decide), fun A8 nA8 => ?_⟩
  generalize e0 : upd _ A8 _ = H12
  obtain ⟨s12, hA8⟩ := newH nA8 e0
  refine ⟨(by show 2 ≤ sizeLine; decide), fun M4 nM4 => ?_⟩
  generalize e0 : upd _ M4 _ = H13
  obtain ⟨s13, hM4⟩ := newH nM4 e0
  refine ⟨_, rfl, _, rfl, _, _, rfl, rfl, (by show 2 ≤ sizeLine; decide), fun A9 nA9 => ?_⟩
  generalize e0 : upd _ A9 _ = H14
  obtain ⟨s14, hA9⟩ := newH nA9 e0
  refine ⟨_, rfl, _, _, rfl, rfl, _, rfl, (by show 2 ≤ sizeLine; decide), fun B1 nB1 => ?_⟩
  generalize e0 : upd _ B1 _ = H15
  obtain ⟨s15, hB1⟩ := newH nB1 e0
  refine ⟨(by show 2 ≤ sizeLine; decide), fun M5 nM5 => ?_⟩
  generalize e0 : upd _ M5 _ = H16
  obtain ⟨s16, hM5⟩ := newH nM5 e0
  refine ⟨_, rfl, _, rfl, (by show 2 ≤ sizeLine; decide), fun B2 nB2 => ?_⟩
  generalize e0 : upd _ B2 _ = H17
  obtain ⟨s17, hB2⟩ := newH nB2 e0
  refine ⟨_, rfl, _, rfl, (by show 2 ≤ sizeLine; decide), fun B3 nB3 => ?_⟩
  generalize e0 : upd _ B3 _ = H18
  obtain ⟨s18, hB3⟩ := newH nB3 e0
  refine ⟨(by show 2 ≤ sizeLine; decide), fun M6 nM6 => ?_⟩
  generalize e0 : upd _ M6 _ = H19
  obtain ⟨s19, hM6⟩ := newH nM6 e0
  refine ⟨(by show 4 ≤ sizeLine; decide), fun G nG => ?_⟩
  generalize e0 : upd _ G _ = H20
  obtain ⟨s20, hG⟩ := newH nG e0
  refine ⟨F, G, _, _, rfl, rfl, (s8.trans (s9.trans (s10.trans (s11.trans (s12.trans (s13.trans (s14.trans (s15.trans (s16.trans (s17.trans (s18.trans (s19.trans (s20))))))))))))) _ _ hF, hG, (by show 6 ≤ sizeLine; decide), fun J nJ => ?_⟩
  generalize e0 : upd _ J _ = H21
  obtain ⟨s21, hJ⟩ := newH nJ e0
  refine q H21 J (s1.trans (s2.trans (s3.trans (s4.trans (s5.trans (s6.trans (s7.trans (s8.trans (s9.trans (s10.trans (s11.trans (s12.trans (s13.trans (s14.trans (s15.trans (s16.trans (s17.trans (s18.trans (s19.trans (s20.trans (s21))))))))))))))))))))) ⟨[M1, M2, M3, M4, M5, M6], hJ, rfl, fun i c k hc hk => ?_⟩
  match i, hc, hk with
  | 0, hc, hk => cases hc; cases hk; exact rows_of ((s4.trans (s5.trans (s6.trans (s7.trans (s8.trans (s9.trans (s10.trans (s11.trans (s12.trans (s13.trans (s14.trans (s15.trans (s16.trans (s17.trans (s18.trans (s19.trans (s20.trans (s21)))))))))))))))))) _ _ hM1) ((s2.trans (s3.trans (s4.trans (s5.trans (s6.trans (s7.trans (s8.trans (s9.trans (s10.trans (s11.trans (s12.trans (s13.trans (s14.trans (s15.trans (s16.trans (s17.trans (s18.trans (s19.trans (s20.trans (s21)))))))))))))))))))) _ _ hA1) ((s3.trans (s4.trans (s5.trans (s6.trans (s7.trans (s8.trans (s9.trans (s10.trans (s11.trans (s12.trans (s13.trans (s14.trans (s15.trans (s16.trans (s17.trans (s18.trans (s19.trans (s20.trans (s21))))))))))))))))))) _ _ hA2)
  | 1, hc, hk => cases hc; cases hk; exact rows_of ((s7.trans (s8.trans (s9.trans (s10.trans (s11.trans (s12.trans (s13.trans (s14.trans (s15.trans (s16.trans (s17.trans (s18.trans (s19.trans (s20.trans (s21))))))))))))))) _ _ hM2) ((s5.trans (s6.trans (s7.trans (s8.trans (s9.trans (s10.trans (s11.trans (s12.trans (s13.trans (s14.trans (s15.trans (s16.trans (s17.trans (s18.trans (s19.trans (s20.trans (s21))))))))))))))))) _ _ hA3) ((s6.trans (s7.trans (s8.trans (s9.trans (s10.trans (s11.trans (s12.trans (s13.trans (s14.trans (s15.trans (s16.trans (s17.trans (s18.trans (s19.trans (s20.trans (s21)))))))))))))))) _ _ hA4)
  | 2, hc, hk => cases hc; cases hk; exact rows_of ((s11.trans (s12.trans (s13.trans (s14.trans (s15.trans (s16.trans (s17.trans (s18.trans (s19.trans (s20.trans (s21))))))))))) _ _ hM3) ((s9.trans (s10.trans (s11.trans (s12.trans (s13.trans (s14.trans (s15.trans (s16.trans (s17.trans (s18.trans (s19.trans (s20.trans (s21))))))))))))) _ _ hA5) ((s10.trans (s11.trans (s12.trans (s13.trans (s14.trans (s15.trans (s16.trans (s17.trans (s18.trans (s19.trans (s20.trans (s21)))))))))))) _ _ hA6)
  | 3, hc, hk => cases hc; cases hk; exact rows_of ((s14.trans (s15.trans (s16.trans (s17.trans (s18.trans (s19.trans (s20.trans (s21)))))))) _ _ hM4) ((s12.trans (s13.trans (s14.trans (s15.trans (s16.trans (s17.trans (s18.trans (s19.trans (s20.trans (s21)))))))))) _ _ hA7) ((s13.trans (s14.trans (s15.trans (s16.trans (s17.trans (s18.trans (s19.trans (s20.trans (s21))))))))) _ _ hA8)
  | 4, hc, hk => cases hc; cases hk; exact rows_of ((s17.trans (s18.trans (s19.trans (s20.trans (s21))))) _ _ hM5) ((s15.trans (s16.trans (s17.trans (s18.trans (s19.trans (s20.trans (s21))))))) _ _ hA9) ((s16.trans (s17.trans (s18.trans (s19.trans (s20.trans (s21)))))) _ _ hB1)
  | 5, hc, hk => cases hc; cases hk; exact rows_of ((s20.trans (s21)) _ _ hM6) ((s18.trans (s19.trans (s20.trans (s21)))) _ _ hB2) ((s19.trans (s20.trans (s21))) _ _ hB3)
end
end My

namespace My
open PySem PySem.Spec PyProof.Rows L2 Pre
/-! ### a matrix judged -/
theorem lifts_cnt : ∀ ss : List Step, (liftsF ss).length = (ss.filter isLift).length
  | [] => rfl
  | s :: ss => by
    have ih := lifts_cnt ss
    unfold liftsF at ih ⊢
    rw [List.length_map] at ih ⊢
    rw [List.length_cons, List.range_succ_eq_map]
    have e : ((List.range ss.length).map Nat.succ).filter (fun i => ((s :: ss)[i]?.map isLift).getD false) = ((List.range ss.length).filter fun i => (ss[i]?.map isLift).getD false).map Nat.succ := by
      rw [List.filter_map]
      rfl
    by_cases c : isLift s = true
    · rw [List.filter_cons_of_pos (p := fun i => ((s :: ss)[i]?.map isLift).getD false) (a := 0) (show ((some s).map isLift).getD false = true from c), List.filter_cons_of_pos c, List.length_cons, List.length_cons, e, List.length_map, ih]
    · rw [List.filter_cons_of_neg (p := fun i => ((s :: ss)[i]?.map isLift).getD false) (a := 0) (show ¬ ((some s).map isLift).getD false = true from c), List.filter_cons_of_neg c, e, List.length_map, ih]
theorem bits_zero : ∀ {ss : List Step}, bitsS ss = 0 → ∀ s ∈ ss, shS s = 0
  | [], _, s, h => nomatch h
  | t :: ss, h, s, hs => by
    have h' : shS t + bitsS ss = 0 := h
    rcases List.mem_cons.mp hs with rfl | hs
    · omega
    · exact bits_zero (by omega) s hs
theorem mul_unit0 (x y : Int × Int) : mulV (lnM x y) [1, 0] = [x.1, y.1] := by
  show [x.1 * 1 + (x.2 * 0 + 0), y.1 * 1 + (y.2 * 0 + 0)] = _
  simp
theorem mul_unit1 (x y : Int × Int) : mulV (lnM x y) [0, 1] = [x.2, y.2] := by
  show [x.1 * 0 + (x.2 * 1 + 0), y.1 * 0 + (y.2 * 1 + 0)] = _
  simp
theorem fr_zero (x y : Int × Int) : frM 0 (lnM x y) = [[(x.1, 1), (x.2, 1)], [(y.1, 1), (y.2, 1)]] := by
  have e : (2 : Int) ^ 0 = 1 := rfl
  show [[lowF x.1 (2 ^ 0), lowF x.2 (2 ^ 0)], [lowF y.1 (2 ^ 0), lowF y.2 (2 ^ 0)]] = _
  rw [e, lowF_one, lowF_one, lowF_one, lowF_one]
local macro_rules | `(tactic| walk_at "go") => `(tactic| repeat (first | (with_reducible first | refine iteT ?_ | refine iteF ?_ | refine iteNtt ?_ | refine iteNff ?_ | refine iteET (by omega) ?_ | refine iteEF (by omega) ?_ | refine iteENT (by omega) ?_ | refine iteENF (by omega) ?_ | refine iteDT (by omega) ?_ | refine iteDF (by omega) ?_ | refine iteNT (by omega) ?_ | refine iteNF (by omega) ?_) | refine ⟨_, rfl, ?_⟩ | refine ⟨_, _, rfl, rfl, ?_⟩ | refine ⟨_, _, rfl, ?_⟩ | refine ⟨rfl, ?_⟩ | refine .inl ⟨_, rfl, ?_⟩ | refine .inr ⟨_, rfl, ?_⟩))
local macro_rules | `(tactic| walk_at "b") => `(tactic| try dsimp (config := { proj := false, iota := false, eta := false, zeta := false }) only)
section
variable {P : Program} {w : World} {K : PySem.W.Frag} {mg : Str → Option Value} {base : Heap}
def sp_law_right (K : PySem.W.Frag) : Sp := fun vs H Q _ => ∃ (p : Addr) (x y : Int × Int), vs = [.ref p, .int (fewF x y : Nat)] ∧ RowsIn H p [[x.1, x.2], [y.1, y.2]] ∧ MatOk x y ∧ fewF x y ≤ 10 ∧ ∀ H', Same H H' → Q (.bl true) H'
theorem G_law_right (T : Top K mg) : FnOk P w K mg base CX0 8 T.f_law_right T.fd_law_right ["_law_rows", "_law_due_here"] (sp_law_right K) := by
  refine T.F_law_right.ok sc_law_right (fun vs H Q E h => by obtain ⟨p, x, y, rfl, _⟩ := h; rfl) (fun cdv A outer s H vs Q E hr h => ?_)
  obtain ⟨p, x, y, rfl, hR, hM, h10, q⟩ := h
  refine ⟨_, PSs.nox (pss_cons (ps_setLc (i := 2) (own := [("_law_row", 8)]) (g := gName 8) (tt := tYes) (by rfl) sc_law_right.nd rfl rfl (sw_true rfl rfl rfl (by decide +kernel)) (k_piL K rfl (pv 0)) (blkOk_by (own := [("_law_row", 8)]) (N := N_law_right) (sc := defScope s_law_right) (by decide +kernel)) (fun _ _ _ _ _ => (pg_name (i := 8) sc_law_right.nd rfl (by first | exact Or.inl rfl | exact Or.inr rfl))) (fun _ _ _ _ _ => pts_nil) (fun _ _ _ _ _ => (pe_callTy (k_listOf K rfl) (by rfl) T.n_list (by decide +kernel) (pa_cons (pv 8) pa_nil))))
  (pss_cons (ps_par (by rfl) sc_law_right.nd (i := 6) (j := 7) rfl rfl (by decide) rfl rfl (pa_cons (pe_call (G_fewest_lifts T) (hr.mono (by decide)) (by rfl) T.g_fewest_lifts T.F_fewest_lifts.kp T.b_fewest_lifts .nil pass0 (pa_cons (pv 2) pa_nil)) (pa_cons (pe_call (G_lifts_for T) (hr.mono (by decide)) (by rfl) T.g_lifts_for T.F_lifts_for.kp T.b_lifts_for .nil pass0 (pa_cons (pv 2) pa_nil)) pa_nil)) (by rfl))
  (pss_cons (ps_if (PW.pt (pw_or (pt_cmpR op_ne (pv 6) (pv 1) (nomark _)) (pw_or (pt_not (pt_val (pe_call (G_law_whole T) (hr.mono (by decide)) (by rfl) T.g_law_whole T.F_law_whole.kp T.b_law_whole .nil pass0 (pa_cons (pv 6) pa_nil)))) (pw_or1 (pt_cmpR (k_neD K rfl hr.units) (pv 2) (pv 0) (nomark _))))))
    (pss_one (ps_ret pe_bl))
    pss_nil)
  (pss_cons (ps_if (pt_cmpR (k_neD K rfl hr.units) (pe_lc (own := [("_law_some", 11)]) (g := gName 11) (tt := tYes) (by rfl) sc_law_right.nd (k_piL K rfl (pe_call (G_law_kin T) (hr.mono (by decide)) (by rfl) T.g_law_kin T.F_law_kin.kp T.b_law_kin .nil pass0 (pa_cons (pv 0) pa_nil))) (blkOk_by (own := [("_law_some", 11)]) (N := N_law_right) (sc := defScope s_law_right) (by decide +kernel)) (fun _ _ _ _ _ => (pg_name (i := 11) sc_law_right.nd rfl (by first | exact Or.inl rfl | exact Or.inr rfl))) (fun _ _ _ _ _ => pts_nil) (fun _ _ _ _ _ => (pe_call (G_fewest_lifts T) (hr.mono (by decide)) (by rfl) T.g_fewest_lifts T.F_fewest_lifts.kp T.b_fewest_lifts .nil pass0 (pa_cons (pv 11) pa_nil)))) (pe_op op_rep (pe_lst (pa_cons (pv 1) pa_nil)) pe_int) (nomark _))
    (pss_one (ps_ret pe_bl))
    pss_nil)
  (pss_cons (ps_set (i := 3) sc_law_right.nd rfl (by first | exact Or.inl rfl | exact Or.inr rfl) (pe_meth0 (pv 7) T.cl_Mixer T.me_Mixer_steps (G_Mixer_steps T) (hr.mono (by decide)) T.b_Mixer_steps .nil pass0))
  (pss_cons (ps_setLc (i := 4) (own := [("_law_at", 9)]) (g := gName 9) (tt := tYes) (by rfl) sc_law_right.nd rfl rfl (sw_true rfl rfl rfl (by decide +kernel)) (k_piL K rfl (pe_call (G_law_lifts_of T) (hr.mono (by decide)) (by rfl) T.g_law_lifts_of T.F_law_lifts_of.kp T.b_law_lifts_of .nil pass0 (pa_cons (pv 3) pa_nil))) (blkOk_by (own := [("_law_at", 9)]) (N := N_law_right) (sc := defScope s_law_right) (by decide +kernel)) (fun _ _ _ _ _ => (pg_name (i := 9) sc_law_right.nd rfl (by first | exact Or.inl rfl | exact Or.inr rfl))) (fun _ _ _ _ _ => pts_nil) (fun _ _ _ _ _ => (pe_ix (k_ixL K rfl) (pv 3) (pv 9) (fun _ _ => rfl))))
  (pss_cons (ps_if (PW.pt (pw_or (pt_cmpR op_ne (pe_meth0 (pv 7) T.cl_Mixer T.me_Mixer_wide (G_Mixer_wide T) (hr.mono (by decide)) T.b_Mixer_wide .nil pass0) pe_int (nomark _)) (pw_or (pt_cmpR op_ne (pe_callB (k_len K rfl) (by rfl) T.n_len (by decide +kernel) (pa_cons (pv 4) pa_nil)) (pv 1) (nomark _)) (pw_or1 (pt_cmpR (k_neD K rfl hr.units) (pe_lc (own := [("_law_step", 12)]) (g := gName 12) (by rfl) sc_law_right.nd (k_piL K rfl (pv 4)) (blkOk_by (own := [("_law_step", 12)]) (N := N_law_right) (sc := defScope s_law_right) (by decide +kernel)) (fun _ _ _ _ _ => (pg_name (i := 12) sc_law_right.nd rfl (by first | exact Or.inl rfl | exact Or.inr rfl))) (fun _ _ _ _ _ => (pts_one (pt_cmpR op_ne (pe_ix (k_ixT K rfl) (pv 12) pe_int (fun _ _ => rfl)) pe_int (nomark _)))) (fun _ _ _ _ _ => (pv 12))) (pe_lst pa_nil) (nomark _))))))
    (pss_one (ps_ret pe_bl))
    pss_nil)
  (pss_cons (ps_set (i := 5) sc_law_right.nd rfl (Or.inr rfl) (pe_lc (own := [("_law_unit", 10)]) (g := gName 10) (tt := tYes) (by rfl) sc_law_right.nd (k_piL K rfl (pe_lst (pa_cons (pe_lst (pa_cons pe_int (pa_cons pe_int pa_nil))) (pa_cons (pe_lst (pa_cons pe_int (pa_cons pe_int pa_nil))) pa_nil)))) (blkOk_by (own := [("_law_unit", 10)]) (N := N_law_right) (sc := defScope s_law_right) (by decide +kernel)) (fun _ _ _ _ _ => (pg_name (i := 10) sc_law_right.nd rfl (by first | exact Or.inl rfl | exact Or.inr rfl))) (fun _ _ _ _ _ => pts_nil) (fun _ _ _ _ _ => (pe_call (G_law_played T) (hr.mono (by decide)) (by rfl) T.g_law_played T.F_law_played.kp T.b_law_played .nil pass0 (pa_cons (pv 3) (pa_cons (pv 10) pa_nil))))))
  (pss_cons (ps_if (pt_cmpR (k_neD K rfl hr.units) (pe_lc (own := [("_law_at", 9)]) (g := gName 9) (tt := tYes) (by rfl) sc_law_right.nd (pi_range1 (by rfl) T.n_range (pa_cons pe_int pa_nil)) (blkOk_by (own := [("_law_at", 9)]) (N := N_law_right) (sc := defScope s_law_right) (by decide +kernel)) (fun _ _ _ _ _ => (pg_name (i := 9) sc_law_right.nd rfl (by first | exact Or.inl rfl | exact Or.inr rfl))) (fun _ _ _ _ _ => pts_nil) (fun _ _ _ _ _ => (pe_lc (own := [("_law_k", 13)]) (g := gName 13) (tt := tYes) (by rfl) sc_law_right.nd (pi_range1 (by rfl) T.n_range (pa_cons pe_int pa_nil)) (blkOk_by (own := [("_law_k", 13)]) (N := N_law_right) (by kernel_rfl)) (fun _ _ _ _ _ => (pg_name (i := 13) sc_law_right.nd rfl (by first | exact Or.inl rfl | exact Or.inr rfl))) (fun _ _ _ _ _ => pts_nil) (fun _ _ _ _ _ => (pe_ix (k_ixL K rfl) (pe_ix (k_ixL K rfl) (pv 5) (pv 13) (fun _ _ => rfl)) (pv 9) (fun _ _ => rfl)))))) (pv 0) (nomark _))
    (pss_one (ps_ret pe_bl))
    pss_nil)
  (pss_one (ps_ret (pe_cmpR (k_eqD K rfl hr.units) (pe_call (G_matrix T) (hr.mono (by decide)) (by rfl) T.g_matrix T.F_matrix.kp T.b_matrix .nil pass0 (pa_cons (pv 7) pa_nil)) (pe_lc (own := [("_law_row", 8)]) (g := gName 8) (tt := tYes) (by rfl) sc_law_right.nd (k_piL K rfl (pv 0)) (blkOk_by (own := [("_law_row", 8)]) (N := N_law_right) (sc := defScope s_law_right) (by decide +kernel)) (fun _ _ _ _ _ => (pg_name (i := 8) sc_law_right.nd rfl (by first | exact Or.inl rfl | exact Or.inr rfl))) (fun _ _ _ _ _ => pts_nil) (fun _ _ _ _ _ => (pe_lc (own := [("_law_number", 14)]) (g := gName 14) (tt := tYes) (by rfl) sc_law_right.nd (k_piL K rfl (pv 8)) (blkOk_by (own := [("_law_number", 14)]) (N := N_law_right) (by kernel_rfl)) (fun _ _ _ _ _ => (pg_name (i := 14) sc_law_right.nd rfl (by first | exact Or.inl rfl | exact Or.inr rfl))) (fun _ _ _ _ _ => pts_nil) (fun _ _ _ _ _ => (pe_tup (pa_cons (pv 14) (pa_cons pe_int pa_nil))))))) (nomark _))))))))))))), ?_⟩
  obtain ⟨a, b, hp, ha, hb⟩ := rows2 hR
  refine ⟨_, rfl, p, rfl, ⟨_, .inl (.inl hp)⟩, fun D nD => ?_⟩
  refine lc_relL (K := K) (xs := [.ref a, .ref b]) (fun i v H' => ∃ t, v = .ref t ∧ t ≠ D ∧ H' t = some (.lst [.int ([x, y].getD i (0, 0)).1, .int ([x, y].getD i (0, 0)).2])) nD (.inl (.inl hp)) (by rw [sizeLine_eq]; show 2 < _; decide) ?_ (fun x => rfl) ?_ ?_
  · rintro i v H1 H2 o ⟨t, rfl, tD, ht⟩
    exact ⟨t, rfl, tD, o _ _ tD ht⟩
  · intro i v H' zs hv s hD Qt qt
    have ex : ∃ (c : Addr) (z : Int × Int), v = .ref c ∧ H' c = some (.lst [.int z.1, .int z.2]) ∧ [x, y].getD i (0, 0) = z := by
      match i, hv with
      | 0, hv => cases hv; exact ⟨a, x, rfl, s _ _ ha, rfl⟩
      | 1, hv => cases hv; exact ⟨b, y, rfl, s _ _ hb, rfl⟩
    obtain ⟨c, z, rfl, hc, ez⟩ := ex
    refine ⟨_, rfl, c, _, rfl, .inl (.inl (.inl hc)), fun l nl => ?_⟩
    exact qt _ _ (same_upd nl) ⟨l, rfl, (ne_of_none hD nl).symm, by rw [upd_same, ez]⟩
  intro H1 ys s1 hD hyl hyR
  have hRD : RowsIn H1 D [[x.1, x.2], [y.1, y.2]] := by
    match ys, hyl with
    | [u, v], _ =>
      obtain ⟨t1, rfl, _, h1⟩ := hyR 0 u rfl
      obtain ⟨t2, rfl, _, h2⟩ := hyR 1 v rfl
      exact rows_of hD h1 h2
  clear hyR hyl hD
  dsimp only [gName]
  show tSeq (tPar _ _ _) _ _ [some (V.ref p), some (V.int ((fewF x y : Nat) : Int)), some (V.ref D), none, none, none, none, none, none, none, none, none, none, none, none] _
  refine ⟨_, rfl, D, x, y, rfl, hRD, hM, fun H2 w0 s2 hw0 => ?_⟩
  rw [least_few hw0]
  refine ⟨_, rfl, D, x, y, rfl, hRD.same s2, hM, by omega, fun H3 m r ss s3 hMix hok hsh hlen hnum hcnt => ?_⟩
  refine ⟨_, _, rfl, ?_⟩
  dsimp only
  have s13 := s2.trans s3
  have s03 := s1.trans s13
  generalize ef : ((fewF x y : Nat) : Int) = few at *
  show tSeq (tIfS _ _ _) _ _ [some (V.ref p), some (V.int few), some (V.ref D), none, none, none, some (V.int few), some (V.ref m), none, none, none, none, none, none, none] _
  refine ⟨_, rfl, _, rfl, rfl, _, rfl, ?_⟩
  rw [show (!decide (V.int few = V.int few)) = false by rw [decide_eq_true rfl]; rfl]
  refine iteF ⟨_, rfl, _, rfl, _, rfl, iteF ⟨_, rfl, _, rfl, ?_⟩⟩
  refine ne_rows (hRD.same s13) (hR.same s03) rfl ⟨_, rfl, iteF ?_⟩
  simp only [tNext]
  show tSeq (tIfS _ _ _) _ _ [some (V.ref p), some (V.int few), some (V.ref D), none, none, none, some (V.int few), some (V.ref m), none, none, none, none, none, none, none] _
  -- kin
  have hR3 := hR.same s03
  refine ⟨_, rfl, p, x, y, rfl, hR3, hM, fun H4 k s4 hK => ?_⟩
  obtain ⟨as, hk, hal, has⟩ := hK
  have hal : as.length = 6 := hal
  refine ⟨k, rfl, ⟨_, .inl (.inl hk)⟩, fun E nE => ?_⟩
  refine lc_mapL (K := K) (a := k) (xs := as.map V.ref) ((List.replicate 6 few).map V.int) nE (.inl (.inl hk)) (by rw [List.length_map, List.length_map, List.length_replicate, hal]) (by rw [List.length_map, hal, sizeLine_eq]; decide) (fun x => rfl) ?_ ?_
  · intro i v u H' hv hu s Qt qt
    rw [List.getElem?_map] at hv hu
    obtain ⟨c, hc, rfl⟩ := Option.map_eq_some_iff.mp hv
    obtain ⟨f, hf, rfl⟩ := Option.map_eq_some_iff.mp hu
    have hf' : f = few := (List.mem_replicate.mp (List.mem_of_getElem? hf)).2
    have hi6 : i < 6 := by rw [← hal]; exact (List.getElem?_eq_some_iff.mp hc).1
    obtain ⟨z, hz⟩ : ∃ z, (kinF x y (x.1 * y.2 - x.2 * y.1))[i]? = some z := ⟨_, List.getElem?_eq_getElem hi6⟩
    obtain ⟨z1, z2⟩ := kin_ok hM z (List.mem_of_getElem? hz)
    refine ⟨_, rfl, c, z.1, z.2, rfl, (has i c z hc hz).same s, z1, fun H2 w1 s2' hw1 => ?_⟩
    rw [least_few hw1, z2, ef, ← hf']
    exact qt _ s2'
  intro H5 s5 hE
  refine ⟨_, rfl, (by show 1 ≤ sizeLine; decide), fun l nl => ?_⟩
  generalize e0 : upd _ l _ = H6
  obtain ⟨s6, hl⟩ := newH nl e0
  refine ⟨l, 6, _, rfl, rfl, hl, by decide, by decide, (by show 6 ≤ sizeLine; decide), fun l2 nl2 => ?_⟩
  generalize e0 : upd _ l2 _ = H7
  obtain ⟨s7, hl2⟩ := newH nl2 e0
  refine neD_lst (ns := List.replicate 6 few) (ms := List.replicate 6 few) (.inl (.inl (s7 _ _ (s6 _ _ hE)))) (.inl (.inl hl2)) ⟨_, rfl, ?_⟩
  rw [decide_eq_true rfl]
  refine iteF ?_
  simp only [tNext]
  have s37 := s4.trans (s5.trans (s6.trans s7))
  have hM7 := hMix.same s37
  clear hk has hE hl hl2
  show tSeq (tAsg _ _) _ _ [some (V.ref p), some (V.int few), some (V.ref D), none, none, none, some (V.int few), some (V.ref m), none, none, none, none, none, none, none] _
  -- the steps
  obtain ⟨dx, us, hm, hr0, hv⟩ := id hM7
  refine ⟨_, rfl, m, dx, _, rfl, hm, rfl, m, r, 2, ss, rfl, hM7, by omega, fun H8 q2 s8 nq hS => ?_⟩
  generalize Fl H7 H8 = N at hS
  dsimp only [gName]
  show tSeq (tAsg _ _) _ _ [some (V.ref p), some (V.int few), some (V.ref D), some (V.ref q2), none, none, some (V.int few), some (V.ref m), none, none, none, none, none, none, none] _
  refine ⟨_, rfl, N, q2, ss, rfl, hS, by omega, fun H9 l9 s9 n9 h9 => ?_⟩
  have hS9 : StepsAt N H9 q2 ss := hS.same s9
  obtain ⟨vs, hq2, hvs⟩ := id hS9
  refine ⟨l9, rfl, ⟨_, .inl (.inl h9)⟩, fun F nF => ?_⟩
  have vat : ∀ {i : Int}, i ∈ liftsF ss → ∃ (k t : Nat) (ws : List Int) (sh : Nat) (v : V), i = k ∧ ss[k]? = some (.lift t ws sh) ∧ vs[k]? = some v ∧ StepV N H9 v (.lift t ws sh) := fun {i} hi => by
    obtain ⟨k, t, ws, sh, rfl, hk⟩ := mem_liftsF hi
    have hkl := (List.getElem?_eq_some_iff.mp hk).1
    obtain ⟨s', hs', hvv⟩ := hvs.get (List.getElem?_eq_getElem (show k < vs.length by rw [hvs.len]; exact hkl))
    rw [hk] at hs'
    cases hs'
    exact ⟨k, t, ws, sh, _, rfl, hk, List.getElem?_eq_getElem _, hvv⟩
  have hll : (liftsF ss).length = fewF x y := by rw [lifts_cnt, hcnt]
  refine lc_mapL (K := K) (a := l9) (xs := (liftsF ss).map V.int) ((liftsF ss).map fun i => vs.getD i.toNat .non) nF (.inl (.inl h9)) (by rw [List.length_map, List.length_map]) (by rw [List.length_map, hll, sizeLine_eq]; omega) (fun x => rfl) ?_ ?_
  · intro j v u H' hv hu s Qt qt
    rw [List.getElem?_map] at hv hu
    obtain ⟨i, hi, rfl⟩ := Option.map_eq_some_iff.mp hv
    rw [hi] at hu
    cases hu
    obtain ⟨k, t, ws, sh, v, rfl, hk, hvk, hst⟩ := vat (List.mem_of_getElem? hi)
    refine ⟨_, rfl, _, rfl, q2, _, _, _, rfl, rfl, .inl (.inl (s _ _ hq2)), atI_nat hvk, ?_⟩
    dsimp only at qt
    rw [show vs.getD ((k : Nat) : Int).toNat .non = v by rw [Int.toNat_natCast, List.getD_eq_getElem?_getD, hvk]; rfl] at qt
    exact qt _ (Same.refl _)
  intro H10 s10 hF
  have s710 := s8.trans (s9.trans s10)
  have hS10 : StepsAt N H10 q2 ss := hS9.same s10
  have hM10 := hM7.same s710
  obtain ⟨dx2, us2, hm2, hr02, hv2⟩ := id hM10
  dsimp only [gName]
  show tSeq (tIfS _ _ _) _ _ [some (V.ref p), some (V.int few), some (V.ref D), some (V.ref q2), some (V.ref F), none, some (V.int few), some (V.ref m), none, none, none, none, none, none, none] _
  refine ⟨_, rfl, m, dx2, _, rfl, hm2, rfl, m, r, 2, ss, rfl, hM10, ?_⟩
  refine ⟨rfl, _, rfl, ?_⟩
  rw [show (!decide (V.int ((2 : Nat) : Int) = V.int 2)) = false from rfl]
  refine iteF ⟨_, rfl, F, _, rfl, .inl (.inl (.inl hF)), _, rfl, rfl, _, rfl, ?_⟩
  rw [List.length_map, hll, ef]
  rw [show (!decide (V.int few = V.int few)) = false by rw [decide_eq_true rfl]; rfl]
  refine iteF ⟨_, rfl, F, rfl, ⟨_, .inl (.inl hF)⟩, fun G nG => ?_⟩
  refine lc_selL (K := K) (a := F) (xs := (liftsF ss).map fun i => vs.getD i.toNat .non) ((liftsF ss).map fun _ => none) nG (.inl (.inl hF)) (by rw [List.length_map, List.length_map]) (by rw [List.length_map, hll, sizeLine_eq]; omega) (fun x => rfl) ?_ ?_
  · intro j v o H' hv ho s Qt qt
    rw [List.getElem?_map] at hv ho
    obtain ⟨i, hi, rfl⟩ := Option.map_eq_some_iff.mp hv
    rw [hi] at ho
    cases ho
    obtain ⟨k, t, ws, sh, v, rfl, hk, hvk, t', lw, rfl, ht, hlw, _⟩ := vat (List.mem_of_getElem? hi)
    have hsh0 : sh = 0 := bits_zero hsh _ (List.mem_of_getElem? hk)
    subst hsh0
    rw [show vs.getD ((k : Nat) : Int).toNat .non = V.ref t' by rw [Int.toNat_natCast, List.getD_eq_getElem?_getD, hvk]; rfl]
    refine ⟨_, rfl, t', _, _, _, rfl, rfl, .inl (.inl (s _ _ (s10 _ _ ht))), rfl, rfl, _, rfl, ?_⟩
    exact iteF (qt _ (Same.refl _))
  intro H11 s11 hG
  rw [fm_non0] at hG
  refine ⟨(by show 0 ≤ sizeLine; decide), fun z nz => ?_⟩
  generalize e0 : upd _ z _ = H12
  obtain ⟨s12, hz⟩ := newH nz e0
  refine neD_lst (ns := []) (ms := []) (.inl (.inl (s12 _ _ hG))) (.inl (.inl hz)) ⟨_, rfl, ?_⟩
  rw [decide_eq_true rfl]
  refine iteF ?_
  simp only [tNext]
  have s1012 := s11.trans s12
  have hS12 := hS10.same s1012
  show tSeq (tAsg _ _) _ _ [some (V.ref p), some (V.int few), some (V.ref D), some (V.ref q2), some (V.ref F), none, some (V.int few), some (V.ref m), none, none, none, none, none, none, none] _
  -- played on units
  refine ⟨(by show 2 ≤ sizeLine; decide), fun u0 nu0 => ?_⟩
  generalize e0 : upd _ u0 _ = H13
  obtain ⟨s13', hu0⟩ := newH nu0 e0
  refine ⟨(by show 2 ≤ sizeLine; decide), fun u1 nu1 => ?_⟩
  generalize e0 : upd _ u1 _ = H14
  obtain ⟨s14, hu1⟩ := newH nu1 e0
  refine ⟨(by show 2 ≤ sizeLine; decide), fun uu nuu => ?_⟩
  generalize e0 : upd _ uu _ = H15
  obtain ⟨s15, huu⟩ := newH nuu e0
  have s1215 := s13'.trans (s14.trans s15)
  have hS15 := hS12.same s1215
  have hu0' := s15 _ _ (s14 _ _ hu0)
  have hu1' := s15 _ _ hu1
  refine ⟨uu, rfl, ⟨_, .inl (.inl huu)⟩, fun E2 nE2 => ?_⟩
  refine lc_relL (K := K) (xs := [.ref u0, .ref u1]) (fun i v H' => ∃ t, v = .ref t ∧ t ≠ E2 ∧ H' t = some (.lst ((([[x.1, y.1], [x.2, y.2]] : List (List Int)).getD i []).map V.int))) nE2 (.inl (.inl huu)) (by rw [sizeLine_eq]; show 2 < _; decide) ?_ (fun x => rfl) ?_ ?_
  · rintro i v H1 H2 o ⟨t, rfl, tD, ht⟩
    exact ⟨t, rfl, tD, o _ _ tD ht⟩
  · intro i v H' zs hv s hE2 Qt qt
    have ex : ∃ (c : Addr) (z : List Int), v = .ref c ∧ H' c = some (.lst (z.map V.int)) ∧ z.length = 2 ∧ (∀ e ∈ z, e.natAbs < 2 ^ 1) ∧ ([[x.1, y.1], [x.2, y.2]] : List (List Int)).getD i [] = mulV (lnM x y) z := by
      match i, hv with
      | 0, hv => cases hv; exact ⟨u0, [1, 0], rfl, s _ _ hu0', rfl, by decide, (mul_unit0 x y).symm⟩
      | 1, hv => cases hv; exact ⟨u1, [0, 1], rfl, s _ _ hu1', rfl, by decide, (mul_unit1 x y).symm⟩
    obtain ⟨c, z, rfl, hc, hzl, hzb, ez⟩ := ex
    refine ⟨_, rfl, _, rfl, N, q2, c, ss, z, rfl, hS15.same s, hc, by rw [hzl]; exact hok, by omega, by omega, hzb, fun H2 t2 s2' nt2 ht2 => ?_⟩
    rw [play_num hok hsh hzl, hnum] at ht2
    exact qt _ _ s2' ⟨t2, rfl, (ne_of_none hE2 nt2).symm, by rw [ez]; exact ht2⟩
  intro H16 ys2 s16 hE2 hyl2 hyR2
  obtain ⟨t1, t2, rfl, ht1, ht2⟩ : ∃ t1 t2, ys2 = [.ref t1, .ref t2] ∧ H16 t1 = some (.lst [.int x.1, .int y.1]) ∧ H16 t2 = some (.lst [.int x.2, .int y.2]) := by
    match ys2, hyl2 with
    | [u, v], _ =>
      obtain ⟨t1, rfl, _, h1⟩ := hyR2 0 u rfl
      obtain ⟨t2, rfl, _, h2⟩ := hyR2 1 v rfl
      exact ⟨t1, t2, rfl, h1, h2⟩
  clear hyR2 hyl2
  dsimp only [gName]
  show tSeq (tIfS _ _ _) _ _ [some (V.ref p), some (V.int few), some (V.ref D), some (V.ref q2), some (V.ref F), some (V.ref E2), some (V.int few), some (V.ref m), none, none, none, none, none, none, none] _
  refine ⟨_, rfl, by decide, by decide, fun G2 nG2 => ?_⟩
  refine lc_relR (lo := 0) (n := 2) (fun i v H' => ∃ t, v = .ref t ∧ t ≠ G2 ∧ H' t = some (.lst [.int ([x, y].getD i (0, 0)).1, .int ([x, y].getD i (0, 0)).2])) nG2 (by rw [sizeLine_eq]; decide) ?_ (fun x => rfl) ?_ ?_
  · rintro i v H1 H2 o ⟨t, rfl, tD, ht⟩
    exact ⟨t, rfl, tD, o _ _ tD ht⟩
  · intro i H' zs hi s hG2 Qt qt
    rw [Int.zero_add]
    obtain ⟨z, ez, hz0, hz1⟩ : ∃ z : Int × Int, [x, y].getD i (0, 0) = z ∧ [V.int x.1, .int y.1][i]? = some (.int z.1) ∧ [V.int x.2, .int y.2][i]? = some (.int z.2) := by
      match i, hi with
      | 0, _ => exact ⟨x, rfl, rfl, rfl⟩
      | 1, _ => exact ⟨y, rfl, rfl, rfl⟩
    rw [ez] at qt
    refine ⟨_, rfl, by decide, by decide, fun G3 nG3 => ?_⟩
    refine lc_mapR (lo := 0) (n := 2) [.int z.1, .int z.2] nG3 rfl (by rw [sizeLine_eq]; decide) (fun x => rfl) ?_ ?_
    · intro k u H2 hk hu s2' Qt2 qt2
      rw [Int.zero_add]
      have hE3 := s2' _ _ (s _ _ hE2)
      match k, hu with
      | 0, hu =>
        cases hu
        exact ⟨_, rfl, _, rfl, E2, _, _, _, rfl, rfl, .inl (.inl hE3), atI_nat (j := 0) rfl, _, rfl, t1, _, _, _, rfl, rfl, .inl (.inl (s2' _ _ (s _ _ ht1))), atI_nat hz0, qt2 _ (Same.refl _)⟩
      | 1, hu =>
        cases hu
        exact ⟨_, rfl, _, rfl, E2, _, _, _, rfl, rfl, .inl (.inl hE3), atI_nat (j := 1) rfl, _, rfl, t2, _, _, _, rfl, rfl, .inl (.inl (s2' _ _ (s _ _ ht2))), atI_nat hz1, qt2 _ (Same.refl _)⟩
    · intro H2 s2' hG3
      exact qt _ _ s2' ⟨G3, rfl, (ne_of_none hG2 nG3).symm, hG3⟩
  intro H17 ys3 s17 hG2 hyl3 hyR3
  have s717 := s710.trans (s1012.trans (s1215.trans (s16.trans s17)))
  have s017 := s03.trans (s37.trans s717)
  have hRG : RowsIn H17 G2 [[x.1, x.2], [y.1, y.2]] := by
    match ys3, hyl3 with
    | [u, v], _ =>
      obtain ⟨t1, rfl, _, h1⟩ := hyR3 0 u rfl
      obtain ⟨t2, rfl, _, h2⟩ := hyR3 1 v rfl
      exact rows_of hG2 h1 h2
  clear hyR3 hyl3
  refine ⟨_, rfl, ?_⟩
  refine ne_rows hRG (hR.same s017) rfl ⟨_, rfl, iteF ?_⟩
  simp only [tNext]
  show tRet _ _ [some (V.ref p), some (V.int few), some (V.ref D), some (V.ref q2), some (V.ref F), some (V.ref E2), some (V.int few), some (V.ref m), none, none, none, none, none, none, none] _
  -- its matrix
  refine ⟨_, rfl, m, r, 2, ss, rfl, hM7.same s717, hok, by decide, by decide, by omega, by omega, fun H18 D2 s18 hFr => ?_⟩
  rw [hsh, hnum, fr_zero] at hFr
  have hp18 := s18 _ _ (s017 _ _ hp)
  have ha18 := s18 _ _ (s017 _ _ ha)
  have hb18 := s18 _ _ (s017 _ _ hb)
  refine ⟨_, rfl, p, rfl, ⟨_, .inl (.inl hp18)⟩, fun D3 nD3 => ?_⟩
  refine lc_matL (K := K) (xs := [.ref a, .ref b]) [[(x.1, 1), (x.2, 1)], [(y.1, 1), (y.2, 1)]] nD3 (.inl (.inl hp18)) rfl (by rw [sizeLine_eq]; show 2 < _; decide) (fun x => rfl) ?_ ?_
  · intro i v rr H' hv hr s Qt qt
    obtain ⟨c, z, rfl, hc, rfl⟩ : ∃ (c : Addr) (z : Int × Int), v = .ref c ∧ H' c = some (.lst [.int z.1, .int z.2]) ∧ rr = [(z.1, 1), (z.2, 1)] := by
      match i, hv, hr with
      | 0, hv, hr => cases hv; cases hr; exact ⟨a, x, rfl, s _ _ ha18, rfl⟩
      | 1, hv, hr => cases hv; cases hr; exact ⟨b, y, rfl, s _ _ hb18, rfl⟩
    refine ⟨_, rfl, c, rfl, ⟨_, .inl (.inl hc)⟩, fun D4 nD4 => ?_⟩
    refine lc_pairsL (K := K) (xs := [.int z.1, .int z.2]) [(z.1, 1), (z.2, 1)] nD4 (.inl (.inl hc)) rfl (by rw [sizeLine_eq]; show 2 < _; decide) (fun x => rfl) ?_ ?_
    · intro k y' p' H2 hy hp' s2' Qt2 qt2
      obtain ⟨m', rfl, rfl⟩ : ∃ m' : Int, y' = .int m' ∧ p' = (m', 1) := by
        match k, hy, hp' with
        | 0, hy, hp' => cases hy; cases hp'; exact ⟨_, rfl, rfl⟩
        | 1, hy, hp' => cases hy; cases hp'; exact ⟨_, rfl, rfl⟩
      exact ⟨_, rfl, (by show 2 ≤ sizeLine; decide), fun t nt => qt2 t _ (same_upd nt) upd_same⟩
    · intro H3 s3' hF3
      exact qt D4 H3 s3' hF3
  intro H19 s19 hF19
  refine d_eq (hFr.same s19).dt hF19.dt (mat_shaped _) (mat_shaped _) ?_
  rw [SeqAt.eqv_refl _ (Bool.and_eq_true_iff.mp (mat_shaped _)).1]
  exact q _ (s017.trans (s18.trans s19))
end
end My

namespace My
open PySem PySem.Spec PyProof.Rows L2 Pre
/-! ### the law -/
def knownL : List ((Int × Int) × (Int × Int)) := [((0, 1), (1, 0)), ((1, 3), (0, 1)), ((2, 1), (1, 1)), ((5, 2), (2, 1)), ((3, 4), (2, 3)), ((-1, 0), (0, 1))]
theorem known_ok : ∀ (i : Nat) (q : (Int × Int) × (Int × Int)) (f : Int), knownL[i]? = some q → ([0, 1, 2, 2, 3, 0] : List Int)[i]? = some f → MatOk q.1 q.2 ∧ ((fewF q.1 q.2 : Nat) : Int) = f := fun i q f h1 h2 => by
  have mk : ∀ a b c d : Int, (a * d - b * c = 1 ∨ a * d - b * c = -1) → a.natAbs ≤ 60 → b.natAbs ≤ 60 → c.natAbs ≤ 60 → d.natAbs ≤ 60 → MatOk (a, b) (c, d) := fun a b c d h h1 h2 h3 h4 => ⟨h, sm_of ⟨h1, h2⟩ p60, sm_of ⟨h3, h4⟩ p60⟩
  match i, h1, h2 with
  | 0, h1, h2 => cases h1; cases h2; exact ⟨mk _ _ _ _ (by decide) (by decide) (by decide) (by decide) (by decide), by decide +kernel⟩
  | 1, h1, h2 => cases h1; cases h2; exact ⟨mk _ _ _ _ (by decide) (by decide) (by decide) (by decide) (by decide), by decide +kernel⟩
  | 2, h1, h2 => cases h1; cases h2; exact ⟨mk _ _ _ _ (by decide) (by decide) (by decide) (by decide) (by decide), by decide +kernel⟩
  | 3, h1, h2 => cases h1; cases h2; exact ⟨mk _ _ _ _ (by decide) (by decide) (by decide) (by decide) (by decide), by decide +kernel⟩
  | 4, h1, h2 => cases h1; cases h2; exact ⟨mk _ _ _ _ (by decide) (by decide) (by decide) (by decide) (by decide), by decide +kernel⟩
  | 5, h1, h2 => cases h1; cases h2; exact ⟨mk _ _ _ _ (by decide) (by decide) (by decide) (by decide) (by decide), by decide +kernel⟩
theorem big_few : fewF (1000000000000000, 1000000000000001) (999999999999999, 1000000000000000) = 3 := by decide +kernel
theorem big_ok : MatOk (1000000000000000, 1000000000000001) (999999999999999, 1000000000000000) := ⟨by decide, ⟨by decide +kernel, by decide +kernel⟩, by decide +kernel, by decide +kernel⟩
theorem few_small {x y : Int × Int} (h : x.2.natAbs ≤ 60) : fewF x y ≤ 10 := by
  unfold fewF
  split
  · omega
  · have := lenL_log 6 x.2.natAbs x.1 (by omega)
    omega
local macro_rules | `(tactic| walk_at "go") => `(tactic| repeat (first | (with_reducible first | refine iteT ?_ | refine iteF ?_ | refine iteNtt ?_ | refine iteNff ?_ | refine iteET (by omega) ?_ | refine iteEF (by omega) ?_ | refine iteENT (by omega) ?_ | refine iteENF (by omega) ?_ | refine iteDT (by omega) ?_ | refine iteDF (by omega) ?_ | refine iteNT (by omega) ?_ | refine iteNF (by omega) ?_) | refine ⟨_, rfl, ?_⟩ | refine ⟨_, _, rfl, rfl, ?_⟩ | refine ⟨_, _, rfl, ?_⟩ | refine ⟨rfl, ?_⟩ | refine .inl ⟨_, rfl, ?_⟩ | refine .inr ⟨_, rfl, ?_⟩))
local macro_rules | `(tactic| walk_at "b") => `(tactic| try dsimp (config := { proj := false, iota := false, eta := false, zeta := false }) only)
section
variable {P : Program} {w : World} {K : PySem.W.Frag} {mg : Str → Option Value} {base : Heap}
def sp_law (K : PySem.W.Frag) : Sp := fun vs H Q _ => ∃ (a : Addr) (ns : List Int), vs = [.ref a] ∧ SqL K H a (ns.map V.int) ∧ ns.length ≤ 63 ∧ ∀ H', Q (.bl true) H'
theorem G_law (T : Top K mg) : FnOk P w K mg base CX0 9 T.f_law T.fd_law ["_law_script"] (sp_law K) := by
  refine T.F_law.ok sc_law (fun vs H Q E h => by obtain ⟨a, ns, rfl, _⟩ := h; rfl) (fun cdv A outer s H vs Q E hr h => ?_)
  obtain ⟨a, ns, rfl, hS, hl, q⟩ := h
  refine ⟨_, PSs.nox (pss_cons (ps_set (i := 1) sc_law.nd rfl (by first | exact Or.inl rfl | exact Or.inr rfl) (pe_call (G_law_table T) (hr.mono (by decide)) (by rfl) T.g_law_table T.F_law_table.kp T.b_law_table .nil pass0 (pa_cons pe_int pa_nil)))
  (pss_cons (ps_for PassesOwn.never rfl (pi_range1 (by rfl) T.n_range (pa_cons pe_int pa_nil)) (pg_name (i := 2) sc_law.nd rfl (by first | exact Or.inl rfl | exact Or.inr rfl))
    (pss_cons (ps_set (i := 4) sc_law.nd rfl (by first | exact Or.inl rfl | exact Or.inr rfl) (pe_call (G_law_purse T) (hr.mono (by decide)) (by rfl) T.g_law_purse T.F_law_purse.kp T.b_law_purse .nil pass0 (pa_cons (pv 0) (pa_cons (pv 2) pa_nil))))
  (pss_cons (ps_set (i := 5) sc_law.nd rfl (by first | exact Or.inl rfl | exact Or.inr rfl) (pe_call (G_law_drawn T) (hr.mono (by decide)) (by rfl) T.g_law_drawn T.F_law_drawn.kp T.b_law_drawn .nil pass0 (pa_cons (pv 4) pa_nil)))
  (pss_cons (ps_if (pt_not (pt_val (pe_call (G_law_right T) (hr.mono (by decide)) (by rfl) T.g_law_right T.F_law_right.kp T.b_law_right .nil pass0 (pa_cons (pv 5) (pa_cons (pe_call (G_law_due T) (hr.mono (by decide)) (by rfl) T.g_law_due T.F_law_due.kp T.b_law_due .nil pass0 (pa_cons (pv 1) (pa_cons (pv 5) pa_nil))) pa_nil)))))
    (pss_one (ps_ret pe_bl))
    pss_nil)
  (pss_cons (ps_asg (pe_call (G_law_steep T) (hr.mono (by decide)) (by rfl) T.g_law_steep T.F_law_steep.kp T.b_law_steep .nil pass0 (pa_cons (pv 4) pa_nil)) (k_pgL K rfl (by rfl) (pgs_cons (pg_name (i := 5) sc_law.nd rfl (by first | exact Or.inl rfl | exact Or.inr rfl)) (pgs_cons (pg_name (i := 6) sc_law.nd rfl (by first | exact Or.inl rfl | exact Or.inr rfl)) pgs_nil))))
  (pss_one (ps_if (pt_not (pt_val (pe_call (G_law_right T) (hr.mono (by decide)) (by rfl) T.g_law_right T.F_law_right.kp T.b_law_right .nil pass0 (pa_cons (pv 5) (pa_cons (pv 6) pa_nil)))))
    (pss_one (ps_ret pe_bl))
    pss_nil)))))))
  (pss_cons (ps_set (i := 3) sc_law.nd rfl (by first | exact Or.inl rfl | exact Or.inr rfl) (pe_lst (pa_cons (pe_lst (pa_cons (pe_lst (pa_cons pe_int (pa_cons pe_int pa_nil))) (pa_cons (pe_lst (pa_cons pe_int (pa_cons pe_int pa_nil))) pa_nil))) (pa_cons (pe_lst (pa_cons (pe_lst (pa_cons pe_int (pa_cons pe_int pa_nil))) (pa_cons (pe_lst (pa_cons pe_int (pa_cons pe_int pa_nil))) pa_nil))) (pa_cons (pe_lst (pa_cons (pe_lst (pa_cons pe_int (pa_cons pe_int pa_nil))) (pa_cons (pe_lst (pa_cons pe_int (pa_cons pe_int pa_nil))) pa_nil))) (pa_cons (pe_lst (pa_cons (pe_lst (pa_cons pe_int (pa_cons pe_int pa_nil))) (pa_cons (pe_lst (pa_cons pe_int (pa_cons pe_int pa_nil))) pa_nil))) (pa_cons (pe_lst (pa_cons (pe_lst (pa_cons pe_int (pa_cons pe_int pa_nil))) (pa_cons (pe_lst (pa_cons pe_int (pa_cons pe_int pa_nil))) pa_nil))) (pa_cons (pe_lst (pa_cons (pe_lst (pa_cons (pe_un un_neg pe_int) (pa_cons pe_int pa_nil))) (pa_cons (pe_lst (pa_cons pe_int (pa_cons pe_int pa_nil))) pa_nil))) pa_nil))))))))
  (pss_cons (ps_if (pt_cmpR (k_neD K rfl hr.units) (pe_lc (own := [("_law_rows", 5)]) (g := gName 5) (tt := tYes) (by rfl) sc_law.nd (k_piL K rfl (pv 3)) (blkOk_by (own := [("_law_rows", 5)]) (N := N_law) (sc := defScope s_law) (by decide +kernel)) (fun _ _ _ _ _ => (pg_name (i := 5) sc_law.nd rfl (by first | exact Or.inl rfl | exact Or.inr rfl))) (fun _ _ _ _ _ => pts_nil) (fun _ _ _ _ _ => (pe_call (G_fewest_lifts T) (hr.mono (by decide)) (by rfl) T.g_fewest_lifts T.F_fewest_lifts.kp T.b_fewest_lifts .nil pass0 (pa_cons (pv 5) pa_nil)))) (pe_lst (pa_cons pe_int (pa_cons pe_int (pa_cons pe_int (pa_cons pe_int (pa_cons pe_int (pa_cons pe_int pa_nil))))))) (nomark _))
    (pss_one (ps_ret pe_bl))
    pss_nil)
  (pss_one (ps_ret (pe_cmpR op_eq (pe_call (G_fewest_lifts T) (hr.mono (by decide)) (by rfl) T.g_fewest_lifts T.F_fewest_lifts.kp T.b_fewest_lifts .nil pass0 (pa_cons (pe_lst (pa_cons (pe_lst (pa_cons (pe_op op_powW pe_int pe_int) (pa_cons (pe_op op_add (pe_op op_powW pe_int pe_int) pe_int) pa_nil))) (pa_cons (pe_lst (pa_cons (pe_op op_sub (pe_op op_powW pe_int pe_int) pe_int) (pa_cons (pe_op op_powW pe_int pe_int) pa_nil))) pa_nil))) pa_nil)) pe_int (nomark _)))))))), ?_⟩
  refine ⟨rfl, fun H1 f tb s1 hF hT => ?_⟩
  dsimp only [gName]
  show tSeq (tFor _ _ _) _ _ [some (V.ref a), some (V.ref f), none, none, none, none, none] _
  refine ⟨2, rfl, by decide, by decide, ?_⟩
  refine for_range (lo := 0) (n := 2) (fun i σ HA => ∃ (v2 v4 v5 v6 : Option V), σ = [some (.ref a), some (.ref f), v2, none, v4, v5, v6] ∧ Same H1 HA) ⟨none, none, none, none, rfl, Same.refl _⟩ ?_ ?_
  · rintro i σ HA hi ⟨v2, v4, v5, v6, rfl, sA⟩
    rw [Int.zero_add]
    dsimp only [gName]
    show tSeq (tAsg _ _) _ _ [some (V.ref a), some (V.ref f), some (V.int ((i : Nat) : Int)), none, v4, v5, v6] _
    refine ⟨_, rfl, _, rfl, a, ns, i, rfl, (s1.trans sA).seq hS, fun HB g sB ng gB => ?_⟩
    have sAB := sA.trans sB
    dsimp only [gName]
    show tSeq (tAsg _ _) _ _ [some (V.ref a), some (V.ref f), some (V.int ((i : Nat) : Int)), none, some (V.ref g), v5, v6] _
    refine ⟨_, rfl, g, _, rfl, gB, by omega, fun HC r x y kC gC hR bx by_ hd => ?_⟩
    have ng1 : H1 g = none := none_back sA ng
    have sC : Same H1 HC := fun b o h => kC _ _ (ne_of_none h ng1) (sAB _ _ h)
    dsimp only [gName]
    show tSeq (tIfS _ _ _) _ _ [some (V.ref a), some (V.ref f), some (V.int ((i : Nat) : Int)), none, some (V.ref g), some (V.ref r), v6] _
    refine ⟨_, rfl, _, rfl, _, rfl, f, r, tb, x, y, rfl, hF.same sC, hT, hR.rows, bx.1, bx.2, by_.1, by_.2, hd, fun HD sD => ?_⟩
    refine ⟨r, x, y, rfl, hR.rows.same sD, ⟨hd, sm_of bx p60, sm_of by_ p60⟩, few_small bx.2, fun HE sE => ⟨_, rfl, iteF ?_⟩⟩
    simp only [tNext]
    have sDE := sD.trans sE
    show tSeq (tAsg _ _) _ _ [some (V.ref a), some (V.ref f), some (V.int ((i : Nat) : Int)), none, some (V.ref g), some (V.ref r), v6] _
    refine ⟨_, rfl, g, _, rfl, gC.same sDE, by omega, fun HF t r2 x2 y2 kF gF ht nt hR2 b1 b2 hd2 h10 => ?_⟩
    have sF : Same H1 HF := fun b o h => kF _ _ (ne_of_none h ng1) (sDE _ _ (sC _ _ h))
    refine ⟨t, _, rfl, .inl (.inl ht), rfl, _, _, rfl, _, _, rfl, rfl, ?_⟩
    dsimp only
    show tIfS _ _ _ _ [some (V.ref a), some (V.ref f), some (V.int ((i : Nat) : Int)), none, some (V.ref g), some (V.ref r2), some (V.int ((fewF x2 y2 : Nat) : Int))] _
    refine ⟨_, rfl, _, rfl, r2, x2, y2, rfl, hR2.rows, ⟨hd2, b1, b2⟩, h10, fun HG sG => ⟨_, rfl, iteF ?_⟩⟩
    exact ⟨_, _, _, _, rfl, sF.trans sG⟩
  rintro σ H2 ⟨v2, v4, v5, v6, rfl, s2⟩
  dsimp only
  show tSeq (tAsg _ _) _ _ [some (V.ref a), some (V.ref f), v2, none, v4, v5, v6] _
  refine ⟨(by show 2 ≤ sizeLine; decide), fun a0 na0 => ?_⟩
  generalize e0 : upd _ a0 _ = H3
  obtain ⟨s3, ha0⟩ := newH na0 e0
  refine ⟨(by show 2 ≤ sizeLine; decide), fun b0 nb0 => ?_⟩
  generalize e0 : upd _ b0 _ = H4
  obtain ⟨s4, hb0⟩ := newH nb0 e0
  refine ⟨(by show 2 ≤ sizeLine; decide), fun m0 nm0 => ?_⟩
  generalize e0 : upd _ m0 _ = H5
  obtain ⟨s5, hm0⟩ := newH nm0 e0
  refine ⟨(by show 2 ≤ sizeLine; decide), fun a1 na1 => ?_⟩
  generalize e0 : upd _ a1 _ = H6
  obtain ⟨s6, ha1⟩ := newH na1 e0
  refine ⟨(by show 2 ≤ sizeLine; decide), fun b1 nb1 => ?_⟩
  generalize e0 : upd _ b1 _ = H7
  obtain ⟨s7, hb1⟩ := newH nb1 e0
  refine ⟨(by show 2 ≤ sizeLine; decide), fun m1 nm1 => ?_⟩
  generalize e0 : upd _ m1 _ = H8
  obtain ⟨s8, hm1⟩ := newH nm1 e0
  refine ⟨(by show 2 ≤ sizeLine; decide), fun a2 na2 => ?_⟩
  generalize e0 : upd _ a2 _ = H9
  obtain ⟨s9, ha2⟩ := newH na2 e0
  refine ⟨(by show 2 ≤ sizeLine; decide), fun b2 nb2 => ?_⟩
  generalize e0 : upd _ b2 _ = H10
  obtain ⟨s10, hb2⟩ := newH nb2 e0
  refine ⟨(by show 2 ≤ sizeLine; decide), fun m2 nm2 => ?_⟩
  generalize e0 : upd _ m2 _ = H11
  obtain ⟨s11, hm2⟩ := newH nm2 e0
  refine ⟨(by show 2 ≤ sizeLine; decide), fun a3 na3 => ?_⟩
  generalize e0 : upd _ a3 _ = H12
  obtain ⟨s12, ha3⟩ := newH na3 e0
  refine ⟨(by show 2 ≤ sizeLine; decide), fun b3 nb3 => ?_⟩
  generalize e0 : upd _ b3 _ = H13
  obtain ⟨s13, hb3⟩ := newH nb3 e0
  refine ⟨(by show 2 ≤ sizeLine; decide), fun m3 nm3 => ?_⟩
  generalize e0 : upd _ m3 _ = H14
  obtain ⟨s14, hm3⟩ := newH nm3 e0
  refine ⟨(by show 2 ≤ sizeLine; decide), fun a4 na4 => ?_⟩
  generalize e0 : upd _ a4 _ = H15
  obtain ⟨s15, ha4⟩ := newH na4 e0
  refine ⟨(by show 2 ≤ sizeLine; decide), fun b4 nb4 => ?_⟩
  generalize e0 : upd _ b4 _ = H16
  obtain ⟨s16, hb4⟩ := newH nb4 e0
  refine ⟨(by show 2 ≤ sizeLine; decide), fun m4 nm4 => ?_⟩
  generalize e0 : upd _ m4 _ = H17
  obtain ⟨s17, hm4⟩ := newH nm4 e0
  refine ⟨_, rfl, (by show 2 ≤ sizeLine; decide), fun a5 na5 => ?_⟩
  generalize e0 : upd _ a5 _ = H18
  obtain ⟨s18, ha5⟩ := newH na5 e0
  refine ⟨(by show 2 ≤ sizeLine; decide), fun b5 nb5 => ?_⟩
  generalize e0 : upd _ b5 _ = H19
  obtain ⟨s19, hb5⟩ := newH nb5 e0
  refine ⟨(by show 2 ≤ sizeLine; decide), fun m5 nm5 => ?_⟩
  generalize e0 : upd _ m5 _ = H20
  obtain ⟨s20, hm5⟩ := newH nm5 e0
  refine ⟨(by show 6 ≤ sizeLine; decide), fun L nL => ?_⟩
  generalize e0 : upd _ L _ = H21
  obtain ⟨s21, hL⟩ := newH nL e0
  have hk : ∀ (i : Nat) (c : Addr) (q : (Int × Int) × (Int × Int)), [m0, m1, m2, m3, m4, m5][i]? = some c → knownL[i]? = some q → RowsIn H21 c [[q.1.1, q.1.2], [q.2.1, q.2.2]] := fun i c q hc hq => by
    match i, hc, hq with
    | 0, hc, hq => cases hc; cases hq; exact rows_of ((s6.trans (s7.trans (s8.trans (s9.trans (s10.trans (s11.trans (s12.trans (s13.trans (s14.trans (s15.trans (s16.trans (s17.trans (s18.trans (s19.trans (s20.trans (s21)))))))))))))))) _ _ hm0) ((s4.trans (s5.trans (s6.trans (s7.trans (s8.trans (s9.trans (s10.trans (s11.trans (s12.trans (s13.trans (s14.trans (s15.trans (s16.trans (s17.trans (s18.trans (s19.trans (s20.trans (s21)))))))))))))))))) _ _ ha0) ((s5.trans (s6.trans (s7.trans (s8.trans (s9.trans (s10.trans (s11.trans (s12.trans (s13.trans (s14.trans (s15.trans (s16.trans (s17.trans (s18.trans (s19.trans (s20.trans (s21))))))))))))))))) _ _ hb0)
    | 1, hc, hq => cases hc; cases hq; exact rows_of ((s9.trans (s10.trans (s11.trans (s12.trans (s13.trans (s14.trans (s15.trans (s16.trans (s17.trans (s18.trans (s19.trans (s20.trans (s21))))))))))))) _ _ hm1) ((s7.trans (s8.trans (s9.trans (s10.trans (s11.trans (s12.trans (s13.trans (s14.trans (s15.trans (s16.trans (s17.trans (s18.trans (s19.trans (s20.trans (s21))))))))))))))) _ _ ha1) ((s8.trans (s9.trans (s10.trans (s11.trans (s12.trans (s13.trans (s14.trans (s15.trans (s16.trans (s17.trans (s18.trans (s19.trans (s20.trans (s21)))))))))))))) _ _ hb1)
    | 2, hc, hq => cases hc; cases hq; exact rows_of ((s12.trans (s13.trans (s14.trans (s15.trans (s16.trans (s17.trans (s18.trans (s19.trans (s20.trans (s21)))))))))) _ _ hm2) ((s10.trans (s11.trans (s12.trans (s13.trans (s14.trans (s15.trans (s16.trans (s17.trans (s18.trans (s19.trans (s20.trans (s21)))))))))))) _ _ ha2) ((s11.trans (s12.trans (s13.trans (s14.trans (s15.trans (s16.trans (s17.trans (s18.trans (s19.trans (s20.trans (s21))))))))))) _ _ hb2)
    | 3, hc, hq => cases hc; cases hq; exact rows_of ((s15.trans (s16.trans (s17.trans (s18.trans (s19.trans (s20.trans (s21))))))) _ _ hm3) ((s13.trans (s14.trans (s15.trans (s16.trans (s17.trans (s18.trans (s19.trans (s20.trans (s21))))))))) _ _ ha3) ((s14.trans (s15.trans (s16.trans (s17.trans (s18.trans (s19.trans (s20.trans (s21)))))))) _ _ hb3)
    | 4, hc, hq => cases hc; cases hq; exact rows_of ((s18.trans (s19.trans (s20.trans (s21)))) _ _ hm4) ((s16.trans (s17.trans (s18.trans (s19.trans (s20.trans (s21)))))) _ _ ha4) ((s17.trans (s18.trans (s19.trans (s20.trans (s21))))) _ _ hb4)
    | 5, hc, hq => cases hc; cases hq; exact rows_of ((s21) _ _ hm5) ((s19.trans (s20.trans (s21))) _ _ ha5) ((s20.trans (s21)) _ _ hb5)
  clear ha0 hb0 hm0 ha1 hb1 hm1 ha2 hb2 hm2 ha3 hb3 hm3 ha4 hb4 hm4 ha5 hb5 hm5
  dsimp only [gName]
  show tSeq (tIfS _ _ _) _ _ [some (V.ref a), some (V.ref f), v2, some (V.ref L), v4, v5, v6] _
  refine ⟨_, rfl, L, rfl, ⟨_, .inl (.inl hL)⟩, fun D nD => ?_⟩
  refine lc_mapL (K := K) (a := L) (xs := ([m0, m1, m2, m3, m4, m5] : List Addr).map V.ref) (([0, 1, 2, 2, 3, 0] : List Int).map V.int) nD (.inl (.inl hL)) rfl (by rw [sizeLine_eq]; show 6 < _; decide) (fun x => rfl) ?_ ?_
  · intro i v u H' hv hu s Qt qt
    rw [List.getElem?_map] at hv hu
    obtain ⟨c, hc, rfl⟩ := Option.map_eq_some_iff.mp hv
    obtain ⟨z, hz, rfl⟩ := Option.map_eq_some_iff.mp hu
    have hi6 : i < 6 := (List.getElem?_eq_some_iff.mp hc).1
    obtain ⟨q', hq⟩ : ∃ q', knownL[i]? = some q' := ⟨_, List.getElem?_eq_getElem hi6⟩
    obtain ⟨z1, z2⟩ := known_ok i q' z hq hz
    refine ⟨_, rfl, c, q'.1, q'.2, rfl, (hk i c q' hc hq).same s, z1, fun H2 w1 s2' hw1 => ?_⟩
    rw [least_few hw1, z2]
    exact qt _ s2'
  intro HX sX hD
  refine ⟨(by show 6 ≤ sizeLine; decide), fun l nl => ?_⟩
  generalize e0 : upd _ l _ = HY
  obtain ⟨sY, hl'⟩ := newH nl e0
  refine neD_lst (ns := [0, 1, 2, 2, 3, 0]) (ms := [0, 1, 2, 2, 3, 0]) (.inl (.inl (sY _ _ hD))) (.inl (.inl hl')) ⟨_, rfl, ?_⟩
  rw [decide_eq_true rfl]
  refine iteF ?_
  simp only [tNext]
  show tRet _ _ [some (V.ref a), some (V.ref f), v2, some (V.ref L), v4, v5, v6] _
  have e15 : (10 : Int) ^ (15 : Int).toNat = 1000000000000000 := by decide +kernel
  have cp : CPowW 10 15 := ⟨by decide, by decide +kernel⟩
  refine ⟨_, _, rfl, rfl, cp, _, _, rfl, rfl, cp, _, _, rfl, rfl, (by show 2 ≤ sizeLine; decide), fun c1 nc1 => ?_⟩
  generalize e0 : upd _ c1 _ = HP
  obtain ⟨sP, hc1⟩ := newH nc1 e0
  refine ⟨_, _, rfl, rfl, cp, _, _, rfl, rfl, _, _, rfl, rfl, cp, (by show 2 ≤ sizeLine; decide), fun c2 nc2 => ?_⟩
  generalize e0 : upd _ c2 _ = HQ
  obtain ⟨sQ, hc2⟩ := newH nc2 e0
  refine ⟨(by show 2 ≤ sizeLine; decide), fun c3 nc3 => ?_⟩
  generalize e0 : upd _ c3 _ = HR
  obtain ⟨sR, hc3⟩ := newH nc3 e0
  dsimp only at hc1 hc2
  rw [e15] at hc1 hc2
  refine ⟨c3, (1000000000000000, 1000000000000001), (999999999999999, 1000000000000000), rfl, rows_of hc3 (sR _ _ (sQ _ _ hc1)) (sR _ _ hc2), big_ok, fun HS w1 sS hw1 => ?_⟩
  rw [least_few hw1, big_few]
  exact ⟨rfl, q _⟩
end
end My

open PySem PySem.W PySem.Calls PyProof.Rows
set_option maxRecDepth 100000 in
set_option maxHeartbeats 0 in
theorem PySem.Challenge.cw_wholesound_k38_whole_fewest_lifts_holds : PySem.Challenge.rw_wholesound_k38_whole_fewest_lifts.Holds := by
  w_on; o_law
  refine HandSHeadRun.head_any (r := OpenLaw.row PySem.Challenge.rw_wholesound_k38_whole_fewest_lifts) (q := view (OpenLaw.row PySem.Challenge.rw_wholesound_k38_whole_fewest_lifts).prog [53]) (H := My.hk) (ob := My.ob) (M := 8000) (loose := My.loose) (d := HandSHeadRun.topDef (OpenLaw.row PySem.Challenge.rw_wholesound_k38_whole_fewest_lifts).prog 53) (kwd := []) My.ob_eq
    (by kernel_rfl) (fun s => by kernel_rfl) My.run (by kernel_rfl) (by kernel_rfl) (by kernel_rfl) (by rfl) (by first | assumption | decide +kernel) (by decide +kernel) ⟨rfl, rfl, rfl, rfl, rfl, by decide +kernel⟩ ?hw ?hc
  case hw => w_witness2
  case hc =>
    refine L2.walk_ofE (l := PySem.Challenge.rw_wholesound_k38_whole_fewest_lifts) (n := 63) (k := 9) (x := "_law_script") (CX := L2.CX0) rfl (by decide) (by kernel_rfl) ⟨rfl, by decide, by decide⟩ ?F (fun _ _ _ _ z => z)
    intro w mg fa h Y G hmg0
    obtain ⟨K, KX, c⟩ := Y
    have hmg : mg ("law" : PySem.Str) = some (.ref fa) := by
      have e : (HandSHeadRun.topDef (OpenLaw.row PySem.Challenge.rw_wholesound_k38_whole_fewest_lifts).prog 53).name = ("law" : PySem.Str) := by kernel_rfl
      rw [← e]
      exact hmg0
    have T : My.Top K mg := My.top_mk KX G c
    have e := hmg.symm.trans T.g_law
    cases e
    have b := L2.FunD.bindsA (ps := ["_law_script"]) T.F_law fun _ _ _ _ _ _ us hl => match us, hl with | [_], _ => rfl
    exact ⟨K, T.fd_law, My.sp_law K, KX, fun s v => b s [v] rfl, fun H a ns hl _ hS => ⟨a, ns, rfl, hS, hl, fun _ => rfl⟩, fun base _ _ => My.G_law T⟩


