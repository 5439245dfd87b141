import PyProof.Rows.All
import Wide.All
import OpenK.AllK
import Wide.FinOn
import KE.KStateDown
import Lean
import HandS.ForMost
import HandS.Exc
import HandS.Flow
import HandS.DictComp
import HandS.Style
import HandS.Wide
import HandS.WideBits
import HandS.IsInst
import HandS.Codes
import HandS.Walk
import HandS.Words
import HandS.WordsExc
import HandS.Defaults
import HandS.Head0
import HandS.Head1
import HandS.Head2
import HandS.HeadEnd
import HandS.HeadHook1
import HandS.HeadHook2
import HandS.SortInts
import PyProof.Rows.SortShellAny
import PyProof.InstNe
import KE.DataMinMax
import KE.SortData
import KE.IntBitsLaws
import KE.BitLaws
import HandS.Deep
import HandS.SetKeys
import PyProof.Rows.StrMul
import HandS.TupLe
import HandS.Property
import HandS.Conv
import HandS.NoneIn
import HandS.SetFor
import HandS.Strs
import HandS.Sort
import KE.GoesZip
import KE.GoesMore
import HandS.Zip
import PyProof.CallType
import PyProof.ZipIter
import PyProof.TupleIter
import PyProof.Rows.CallKwBuiltin
import HandS.Star
import PySem.Challenge.RW_wholesound_k37_undone_joined_and_tidied
set_option Elab.async false
set_option linter.all false
set_option maxRecDepth 100000
set_option maxHeartbeats 4000000
set_option exponentiation.threshold 100000
namespace Pre
open PySem PySem.Spec PyProof.Rows L2
/-! ### heaps -/
theorem same_upd {H : Hp} {p : Addr} {o : HO} (h : H p = none) : Same H (upd H p o) := fun b x e => by
  rw [upd_ne (ne_of_none e h)]
  exact e
/-- a fresh thing that is then changed is no change of what was -/
theorem same_over {H H' : Hp} {p : Addr} {o : HO} (n : H p = none) (s : Same H H') : Same H (upd H' p o) := fun b x e => by
  rw [upd_ne (ne_of_none e n)]
  exact s b x e
theorem Same.tup {K : PySem.W.Frag} {H H' : Hp} {a : Addr} {xs : List V} (e : Same H H') (h : SqT K H a xs) : SqT K H' a xs := by
  rcases h with (h | ⟨o, h⟩) | h
  · exact .inl (.inl (e _ _ h))
  · exact .inl (.inr ⟨o, e _ _ h⟩)
  · exact .inr h
mutual
theorem dp_same {K : PySem.W.Frag} {H H' : Hp} (s : Same H H') : ∀ (d : PyData) (v : V), Dp K H v d → Dp K H' v d
  | .none, _, h => by cases h; exact .non
  | .bool _, _, h => by cases h; exact .bl _
  | .int _, _, h => by cases h; exact .int _
  | .str _, _, h => by cases h; exact .str _
  | .list ds, _, h => by cases h with | lst a b => exact .lst (s.seq a) (dps_same s ds _ b)
  | .tuple ds, _, h => by cases h with | tup a b => exact .tup (Same.tup s a) (dps_same s ds _ b)
  | .dict _, _, h => nomatch h
theorem dps_same {K : PySem.W.Frag} {H H' : Hp} (s : Same H H') : ∀ (ds : List PyData) (vs : List V), DpAll K H vs ds → DpAll K H' vs ds
  | [], _, h => by cases h; exact .nil
  | d :: ds, _, h => by cases h with | cons a b => exact .cons (dp_same s d _ a) (dps_same s ds _ b)
end
theorem dp_ints {K : PySem.W.Frag} {H : Hp} : ∀ ns : List Int, DpAll K H (ns.map V.int) (ns.map PyData.int)
  | [] => .nil
  | n :: r => .cons (.int n) (dp_ints r)
theorem eqv_ints : ∀ ns ms : List Int, PyData.eqvAll (ns.map PyData.int) (ms.map PyData.int) = decide (ns = ms)
  | [], [] => rfl
  | [], _ :: _ => rfl
  | _ :: _, [] => rfl
  | n :: r, m :: q => by
    show (PyData.eqv (.int n) (.int m) && PyData.eqvAll (r.map PyData.int) (q.map PyData.int)) = decide (n :: r = m :: q)
    rw [eqv_ints r q]
    show ((n == m) && decide (r = q)) = decide (n :: r = m :: q)
    by_cases h : n = m
    · subst h; simp
    · simp [h]
theorem lay_ints : ∀ ns : List Int, PyData.canLayAll0 (ns.map PyData.int) = true
  | [] => rfl
  | n :: r => by
    show (PyData.canLay0 (.int n) && PyData.canLayAll0 (r.map PyData.int)) = true
    rw [lay_ints r]
    rfl
theorem depth_ints : ∀ ns : List Int, PyData.depthAll (ns.map PyData.int) = 0
  | [] => by simp [PyData.depthAll]
  | n :: r => by
    show PyData.depthAll (.int n :: r.map PyData.int) = 0
    rw [PyData.depthAll, depth_ints r]
    simp [PyData.depth]
theorem shaped_ints (ns : List Int) : SeqAt.shaped (.list (ns.map PyData.int)) = true := by
  unfold SeqAt.shaped
  rw [PyData.canLay0, lay_ints, PyData.depth, depth_ints]
  rfl
theorem shaped_tup (ns : List Int) : SeqAt.shaped (.tuple (ns.map PyData.int)) = true := by
  unfold SeqAt.shaped
  rw [PyData.canLay0, lay_ints, PyData.depth, depth_ints]
  rfl
/-! ### comparisons of lists and tuples of whole numbers that are told alike -/
theorem ne_tup {K : PySem.W.Frag} {H : Hp} {a b : Addr} {ns : List Int} {Q : V → Hp → Prop} (ha : SqT K H a (ns.map V.int)) (hb : SqT K H b (ns.map V.int)) (q : Q (.bl false) H) : rNeD K (.ref a) (.ref b) H Q := by
  refine ⟨.tuple (ns.map PyData.int), .tuple (ns.map PyData.int), .tup ha (dp_ints ns), .tup hb (dp_ints ns), shaped_tup ns, shaped_tup ns, ?_⟩
  rw [PyData.eqv, eqv_ints, decide_eq_true rfl]
  exact q
theorem eq_tup {K : PySem.W.Frag} {H : Hp} {a b : Addr} {ns : List Int} {Q : V → Hp → Prop} (ha : SqT K H a (ns.map V.int)) (hb : SqT K H b (ns.map V.int)) (q : Q (.bl true) H) : rEqD K (.ref a) (.ref b) H Q := by
  refine ⟨.tuple (ns.map PyData.int), .tuple (ns.map PyData.int), .tup ha (dp_ints ns), .tup hb (dp_ints ns), shaped_tup ns, shaped_tup ns, ?_⟩
  rw [PyData.eqv, eqv_ints, decide_eq_true rfl]
  exact q
/-- lists of whole numbers, compared -/
theorem eqD_lst {K : PySem.W.Frag} {H : Hp} {a b : Addr} {ns ms : List Int} {Q : V → Hp → Prop} (ha : SqL K H a (ns.map V.int)) (hb : SqL K H b (ms.map V.int)) (q : Q (.bl (decide (ns = ms))) H) : rEqD K (.ref a) (.ref b) H Q := by
  refine ⟨.list (ns.map PyData.int), .list (ms.map PyData.int), .lst ha (dp_ints ns), .lst hb (dp_ints ms), shaped_ints ns, shaped_ints ms, ?_⟩
  rw [PyData.eqv, eqv_ints]
  exact q
theorem neD_lst {K : PySem.W.Frag} {H : Hp} {a b : Addr} {ns ms : List Int} {Q : V → Hp → Prop} (ha : SqL K H a (ns.map V.int)) (hb : SqL K H b (ms.map V.int)) (q : Q (.bl (!decide (ns = ms))) H) : rNeD K (.ref a) (.ref b) H Q := by
  refine ⟨.list (ns.map PyData.int), .list (ms.map PyData.int), .lst ha (dp_ints ns), .lst hb (dp_ints ms), shaped_ints ns, shaped_ints ms, ?_⟩
  rw [PyData.eqv, eqv_ints]
  exact q
theorem ne_lst {K : PySem.W.Frag} {H : Hp} {a b : Addr} {ns : List Int} {Q : V → Hp → Prop} (ha : SqL K H a (ns.map V.int)) (hb : SqL K H b (ns.map V.int)) (q : Q (.bl false) H) : rNeD K (.ref a) (.ref b) H Q :=
  neD_lst ha hb (by rw [decide_eq_true rfl]; exact q)
theorem eq_lst {K : PySem.W.Frag} {H : Hp} {a b : Addr} {ns : List Int} {Q : V → Hp → Prop} (ha : SqL K H a (ns.map V.int)) (hb : SqL K H b (ns.map V.int)) (q : Q (.bl true) H) : rEqD K (.ref a) (.ref b) H Q :=
  eqD_lst ha hb (by rw [decide_eq_true rfl]; exact q)
/-! ### powers -/
def CPowW (i j : Int) : Prop := 0 ≤ j ∧ (Builtin.Int.intBits i : Int) * j ≤ 2 ^ 27
theorem op_powW {X : Cx} : OpR X (binaryOp .Pow) (rI CPowW fun i j => .int (i ^ j.toNat)) := opI fun _ _ _ _ _ _ _ hc q => pow_int hc.1 hc.2 q
/-! ### comprehensions whose parts leave what is tracked as it is: sel tells of each item what comes of it -/
theorem take_fm {α : Type} {l : List (Option α)} {i : Nat} {o : Option α} (h : l[i]? = some o) : (l.take (i + 1)).filterMap id = (l.take i).filterMap id ++ o.toList := by
  rw [List.take_add_one, h, List.filterMap_append]
  cases o <;> rfl
theorem fm_len {α : Type} (l : List (Option α)) (i : Nat) : ((l.take i).filterMap id).length ≤ l.length :=
  Nat.le_trans (List.length_filterMap_le _ _) (by rw [List.length_take]; omega)
theorem lc_selL {K : PySem.W.Frag} {a : Addr} {xs : List V} {j : Nat} {tt : TT} {te : TE} {vs : List Nat} {σ : L2.St} {H1 : Hp} {D : Addr} {Qd : Hp → Prop} (sel : List (Option V)) (nD : H1 D = none) (hS : SqL K H1 a xs) (hlen : sel.length = xs.length) (hz : xs.length < sizeLine)
    (hw : ∀ x, wipe ((wipe σ vs).set j (some x)) vs = wipe σ vs)
    (hs : ∀ (i : Nat) (x : V) (o : Option V) (H' : Hp), xs[i]? = some x → sel[i]? = some o → Same H1 H' → ∀ Qt : Option V → Hp → Prop, (∀ H'', Same H' H'' → Qt o H'') →
      tt ((wipe σ vs).set j (some x)) H' fun b H3 => if b = true then te ((wipe σ vs).set j (some x)) H3 fun y H4 => Qt (some y) H4 else Qt none H3)
    (hd : ∀ H', Same H1 H' → H' D = some (.lst (sel.filterMap id)) → Qd H') :
    ∃ W : Nat → Nat → Hp → Prop, (∃ m, W 0 m (upd H1 D (.lst []))) ∧ ∀ i m H, W i m H →
      ((Itl K a).stop i H ∧ Qd H) ∨ ((Itl K a).go i H ∧ ∃ Nx : Hp → Prop, (∀ H', Nx H' → ∃ m', m' < m ∧ W (i + 1) m' H') ∧ ∀ x H', (Itl K a).yld i H x H' → gName j x (wipe σ vs) H' fun σ2 H2 => wipe σ2 vs = wipe σ vs ∧ tt σ2 H2 fun b H3 =>
        if b = true then te σ2 H3 fun y H4 => ∃ acc, H4 D = some (.lst acc) ∧ acc.length < sizeLine ∧ Nx (upd H4 D (.lst (acc ++ [y]))) else Nx H3) := by
  refine lc_list (K := K) (a := a) (xs := xs) (fun i H => Same H1 H ∧ H D = some (.lst ((sel.take i).filterMap id))) ⟨same_upd nD, upd_same⟩ (fun i H _ p => p.1.seq hS) ?_ ?_
  · rintro i x H hx ⟨s, hD⟩
    refine ⟨hw x, ?_⟩
    have hi : i < sel.length := by rw [hlen]; exact (List.getElem?_eq_some_iff.mp hx).1
    have ho : sel[i]? = some sel[i] := List.getElem?_eq_getElem hi
    have hl : ((sel.take i).filterMap id).length < sizeLine := Nat.lt_of_le_of_lt (fm_len sel i) (by omega)
    refine hs i x sel[i] H hx ho s (fun o H4 => match o with
      | some y => ∃ acc, H4 D = some (.lst acc) ∧ acc.length < sizeLine ∧ (Same H1 (upd H4 D (.lst (acc ++ [y]))) ∧ (upd H4 D (.lst (acc ++ [y]))) D = some (.lst ((sel.take (i + 1)).filterMap id)))
      | none => Same H1 H4 ∧ H4 D = some (.lst ((sel.take (i + 1)).filterMap id))) fun H4 s4 => ?_
    generalize sel[i] = o at ho ⊢
    cases o with
    | some y =>
      refine ⟨_, s4 _ _ hD, hl, same_over nD (s.trans s4), ?_⟩
      rw [upd_same, take_fm ho]
      rfl
    | none =>
      refine ⟨s.trans s4, ?_⟩
      rw [take_fm ho, s4 _ _ hD]
      simp
  · rintro H ⟨s, hD⟩
    refine hd H s ?_
    rw [hD, ← hlen, List.take_length]
theorem lc_selR {lo : Int} {n : Nat} {j : Nat} {tt : TT} {te : TE} {vs : List Nat} {σ : L2.St} {H1 : Hp} {D : Addr} {Qd : Hp → Prop} (sel : List (Option V)) (nD : H1 D = none) (hlen : sel.length = n) (hz : n < sizeLine)
    (hw : ∀ x, wipe ((wipe σ vs).set j (some x)) vs = wipe σ vs)
    (hs : ∀ (i : Nat) (o : Option V) (H' : Hp), i < n → sel[i]? = some o → Same H1 H' → ∀ Qt : Option V → Hp → Prop, (∀ H'', Same H' H'' → Qt o H'') →
      tt ((wipe σ vs).set j (some (.int (lo + (i : Int))))) H' fun b H3 => if b = true then te ((wipe σ vs).set j (some (.int (lo + (i : Int))))) H3 fun y H4 => Qt (some y) H4 else Qt none H3)
    (hd : ∀ H', Same H1 H' → H' D = some (.lst (sel.filterMap id)) → Qd H') :
    ∃ W : Nat → Nat → Hp → Prop, (∃ m, W 0 m (upd H1 D (.lst []))) ∧ ∀ i m H, W i m H →
      ((Itr lo n).stop i H ∧ Qd H) ∨ ((Itr lo n).go i H ∧ ∃ Nx : Hp → Prop, (∀ H', Nx H' → ∃ m', m' < m ∧ W (i + 1) m' H') ∧ ∀ x H', (Itr lo n).yld i H x H' → gName j x (wipe σ vs) H' fun σ2 H2 => wipe σ2 vs = wipe σ vs ∧ tt σ2 H2 fun b H3 =>
        if b = true then te σ2 H3 fun y H4 => ∃ acc, H4 D = some (.lst acc) ∧ acc.length < sizeLine ∧ Nx (upd H4 D (.lst (acc ++ [y]))) else Nx H3) := by
  refine lc_range (lo := lo) (n := n) (fun i H => Same H1 H ∧ H D = some (.lst ((sel.take i).filterMap id))) ⟨same_upd nD, upd_same⟩ ?_ ?_
  · rintro i H hi' ⟨s, hD⟩
    refine ⟨hw _, ?_⟩
    have hi : i < sel.length := by rw [hlen]; exact hi'
    have ho : sel[i]? = some sel[i] := List.getElem?_eq_getElem hi
    have hl : ((sel.take i).filterMap id).length < sizeLine := Nat.lt_of_le_of_lt (fm_len sel i) (by omega)
    refine hs i sel[i] H hi' ho s (fun o H4 => match o with
      | some y => ∃ acc, H4 D = some (.lst acc) ∧ acc.length < sizeLine ∧ (Same H1 (upd H4 D (.lst (acc ++ [y]))) ∧ (upd H4 D (.lst (acc ++ [y]))) D = some (.lst ((sel.take (i + 1)).filterMap id)))
      | none => Same H1 H4 ∧ H4 D = some (.lst ((sel.take (i + 1)).filterMap id))) fun H4 s4 => ?_
    generalize sel[i] = o at ho ⊢
    cases o with
    | some y =>
      refine ⟨_, s4 _ _ hD, hl, same_over nD (s.trans s4), ?_⟩
      rw [upd_same, take_fm ho]
      rfl
    | none =>
      refine ⟨s.trans s4, ?_⟩
      rw [take_fm ho, s4 _ _ hD]
      simp
  · rintro H ⟨s, hD⟩
    refine hd H s ?_
    rw [hD, ← hlen, List.take_length]
theorem fm_some {α : Type} (ys : List α) : (ys.map some).filterMap id = ys := by
  rw [List.filterMap_map]
  show List.filterMap (fun y => some y) ys = ys
  exact List.filterMap_some
/-- no test: ys tells what comes of each item -/
theorem lc_mapL {K : PySem.W.Frag} {a : Addr} {xs : List V} {j : Nat} {te : TE} {vs : List Nat} {σ : L2.St} {H1 : Hp} {D : Addr} {Qd : Hp → Prop} (ys : List V) (nD : H1 D = none) (hS : SqL K H1 a xs) (hlen : ys.length = xs.length) (hz : xs.length < sizeLine)
    (hw : ∀ x, wipe ((wipe σ vs).set j (some x)) vs = wipe σ vs)
    (hs : ∀ (i : Nat) (x y : V) (H' : Hp), xs[i]? = some x → ys[i]? = some y → Same H1 H' → ∀ Qt : V → Hp → Prop, (∀ H'', Same H' H'' → Qt y H'') → te ((wipe σ vs).set j (some x)) H' Qt)
    (hd : ∀ H', Same H1 H' → H' D = some (.lst ys) → Qd H') :
    ∃ W : Nat → Nat → Hp → Prop, (∃ m, W 0 m (upd H1 D (.lst []))) ∧ ∀ i m H, W i m H →
      ((Itl K a).stop i H ∧ Qd H) ∨ ((Itl K a).go i H ∧ ∃ Nx : Hp → Prop, (∀ H', Nx H' → ∃ m', m' < m ∧ W (i + 1) m' H') ∧ ∀ x H', (Itl K a).yld i H x H' → gName j x (wipe σ vs) H' fun σ2 H2 => wipe σ2 vs = wipe σ vs ∧ tYes σ2 H2 fun b H3 =>
        if b = true then te σ2 H3 fun y H4 => ∃ acc, H4 D = some (.lst acc) ∧ acc.length < sizeLine ∧ Nx (upd H4 D (.lst (acc ++ [y]))) else Nx H3) := by
  refine lc_selL (K := K) (a := a) (xs := xs) (tt := tYes) (ys.map some) nD hS (by rw [List.length_map]; exact hlen) hz hw ?_ ?_
  · intro i x o H' hx ho s Qt qt
    rw [List.getElem?_map] at ho
    obtain ⟨y, hy, rfl⟩ := Option.map_eq_some_iff.mp ho
    show if true = true then te ((wipe σ vs).set j (some x)) H' (fun y H4 => Qt (some y) H4) else Qt none H'
    exact iteT (hs i x y H' hx hy s (fun y H4 => Qt (some y) H4) qt)
  · intro H' s hD
    rw [fm_some] at hD
    exact hd H' s hD
theorem lc_mapR {lo : Int} {n : Nat} {j : Nat} {te : TE} {vs : List Nat} {σ : L2.St} {H1 : Hp} {D : Addr} {Qd : Hp → Prop} (ys : List V) (nD : H1 D = none) (hlen : ys.length = n) (hz : n < sizeLine)
    (hw : ∀ x, wipe ((wipe σ vs).set j (some x)) vs = wipe σ vs)
    (hs : ∀ (i : Nat) (y : V) (H' : Hp), i < n → ys[i]? = some y → Same H1 H' → ∀ Qt : V → Hp → Prop, (∀ H'', Same H' H'' → Qt y H'') → te ((wipe σ vs).set j (some (.int (lo + (i : Int))))) H' Qt)
    (hd : ∀ H', Same H1 H' → H' D = some (.lst ys) → Qd H') :
    ∃ W : Nat → Nat → Hp → Prop, (∃ m, W 0 m (upd H1 D (.lst []))) ∧ ∀ i m H, W i m H →
      ((Itr lo n).stop i H ∧ Qd H) ∨ ((Itr lo n).go i H ∧ ∃ Nx : Hp → Prop, (∀ H', Nx H' → ∃ m', m' < m ∧ W (i + 1) m' H') ∧ ∀ x H', (Itr lo n).yld i H x H' → gName j x (wipe σ vs) H' fun σ2 H2 => wipe σ2 vs = wipe σ vs ∧ tYes σ2 H2 fun b H3 =>
        if b = true then te σ2 H3 fun y H4 => ∃ acc, H4 D = some (.lst acc) ∧ acc.length < sizeLine ∧ Nx (upd H4 D (.lst (acc ++ [y]))) else Nx H3) := by
  refine lc_selR (lo := lo) (n := n) (tt := tYes) (ys.map some) nD (by rw [List.length_map]; exact hlen) hz hw ?_ ?_
  · intro i o H' hi ho s Qt qt
    rw [List.getElem?_map] at ho
    obtain ⟨y, hy, rfl⟩ := Option.map_eq_some_iff.mp ho
    show if true = true then te ((wipe σ vs).set j (some (.int (lo + (i : Int))))) H' (fun y H4 => Qt (some y) H4) else Qt none H'
    exact iteT (hs i y H' hi hy s (fun y H4 => Qt (some y) H4) qt)
  · intro H' s hD
    rw [fm_some] at hD
    exact hd H' s hD
/-- an item of a list of whole numbers -/
theorem int_at {ns : List Int} {i : Nat} {x : V} (h : (ns.map V.int)[i]? = some x) : ∃ n, ns[i]? = some n ∧ x = .int n := by
  rw [List.getElem?_map] at h
  obtain ⟨n, hn, e⟩ := Option.map_eq_some_iff.mp h
  exact ⟨n, hn, e.symm⟩
/-! ### rules with the written part named (within a comprehension Lean doesn't find it) -/
section
variable {X : Cx}
theorem k_len (K : PySem.W.Frag) (h : X.K = K) : CallR X (.builtin "len") (fun xs H Q => ∃ p ys, xs = [.ref p] ∧ (SqL K H p ys ∨ SqT K H p ys) ∧ Q (.int ys.length) H) := by subst h; exact call_len_seq
theorem k_sum (K : PySem.W.Frag) (h : X.K = K) (hc : X.calm = true) : CallR X (.builtin "sum") (rSum K) := by subst h; exact cr_sum hc
theorem k_max (K : PySem.W.Frag) (h : X.K = K) (hc : X.calm = true) : CallR X (.builtin "max") (rMax K) := by subst h; exact cr_max hc
theorem k_min (K : PySem.W.Frag) (h : X.K = K) (hc : X.calm = true) : CallR X (.builtin "min") (rMin K) := by subst h; exact cr_min hc
theorem k_isi (K : PySem.W.Frag) (h : X.K = K) : CallR X (.builtin "isinstance") (rIsi K) := by subst h; exact call_isi
theorem k_listOf (K : PySem.W.Frag) (h : X.K = K) : CallR X (.type "list") (fun xs H Q => ∃ p ys, xs = [.ref p] ∧ (SqL K H p ys ∨ SqT K H p ys) ∧ ∀ l, H l = none → Q (.ref l) (upd H l (.lst ys))) := by subst h; exact call_list_of
theorem k_tupleOf (K : PySem.W.Frag) (h : X.K = K) : CallR X (.type "tuple") (fun xs H Q => ∃ p ys, xs = [.ref p] ∧ ((SqL K H p ys ∧ ∀ l, H l = none → Q (.ref l) (upd H l (.tup ys))) ∨ (SqT K H p ys ∧ Q (.ref p) H))) := by subst h; exact call_tuple_of
theorem k_ixL (K : PySem.W.Frag) (h : X.K = K) : IxR X (rIxL K) := by subst h; exact ix_list
theorem k_ixT (K : PySem.W.Frag) (h : X.K = K) : IxR X (rIxT K) := by subst h; exact ix_tup
theorem k_slL (K : PySem.W.Frag) (h : X.K = K) : SlR X (rSlL K) := by subst h; exact sl_list
theorem k_slT (K : PySem.W.Frag) (h : X.K = K) : SlR X (rSlT K) := by subst h; exact sl_tup
theorem k_eqD (K : PySem.W.Frag) (h : X.K = K) (hu : X.A.units + 64 < cLine) : OpR X (compareOp .Eq) (rEqD K) := by subst h; exact op_eqD hu
theorem k_neD (K : PySem.W.Frag) (h : X.K = K) (hu : X.A.units + 64 < cLine) : OpR X (compareOp .NotEq) (rNeD K) := by subst h; exact op_neD hu
theorem k_in (K : PySem.W.Frag) (h : X.K = K) : OpR X (compareOp .In) (rIn K false) := by subst h; exact op_in_seq
theorem k_notIn (K : PySem.W.Frag) (h : X.K = K) : OpR X (compareOp .NotIn) (rIn K true) := by subst h; exact op_notIn_seq
theorem k_piL (K : PySem.W.Frag) (h : X.K = K) {tg l : Expr} {tl : TE} (hl : PE X l tl) : PI X tg l (iList K tl) := by subst h; exact pi_list hl
theorem k_piT (K : PySem.W.Frag) (h : X.K = K) {tg l : Expr} {tl : TE} (hl : PE X l tl) : PI X tg l (iTup K tl) := by subst h; exact pi_tup hl
theorem k_piE (K : PySem.W.Frag) (h : X.K = K) {e : Expr} {ta : TA} {p pos tpos : Pos} {elts : List Expr} {kk : Nat} (hg : Gl X "enumerate") (hm : X.mg "enumerate" = none) (ha : PA X [e] ta) (hs : starEach [e] X.env = [(false, eval e X.env)] := by rfl) : PI X (.Tuple elts kk tpos) (.Call (.Name "enumerate" p) [e] [] pos) (iEnum K ta) := by subst h; exact pi_enum hg hm ha hs
theorem k_pgT (K : PySem.W.Frag) (h : X.K = K) {es : List Expr} {k : Nat} {t : TGs} {n : Nat} {pos : Pos} (hc : X.calm = true) (hp : PGs X es t) (hn : (assignEach es X.env).length = n := by rfl) (hst : (assignEach es X.env).findIdx? (·.1) = none := by rfl) : PG X (.Tuple es k pos) (gTup K n t) := by subst h; exact pg_tup hc hp hn hst
theorem k_pgL (K : PySem.W.Frag) (h : X.K = K) {es : List Expr} {k : Nat} {t : TGs} {n : Nat} {pos : Pos} (hc : X.calm = true) (hp : PGs X es t) (hn : (assignEach es X.env).length = n := by rfl) (hst : (assignEach es X.env).findIdx? (·.1) = none := by rfl) : PG X (.Tuple es k pos) (gUnl K n t) := by subst h; exact pg_unl hc hp hn hst
theorem k_fld (K : PySem.W.Frag) (h : X.K = K) {e : Expr} {f : Str} {pos : Pos} {ta : TE} (he : PE X e ta) (hb : attributeBase e f X.env (eval e X.env) = eval e X.env) : PE X (.Attribute e f pos) (tFld K ta f) := by subst h; exact pe_fld he hb
theorem k_index (K : PySem.W.Frag) (h : X.K = K) : MtR X "list.index" (rIndex K) := by subst h; exact mt_index
end
/-! ### small things -/
theorem fresh {H : Hp} {p : Addr} (o : HO) (np : H p = none) : ∃ H', upd H p o = H' ∧ Same H H' ∧ H' p = some o := ⟨_, rfl, same_upd np, upd_same⟩
theorem cut_take (xs : List V) (k : Nat) : cutV xs none (some (k : Int)) = xs.take k := by
  unfold cutV
  rw [HT.sIx_nat, HT.sIx_none, List.drop_zero, Nat.sub_zero]
  rcases Nat.le_total k xs.length with h | h
  · rw [Nat.min_eq_left h]
  · rw [Nat.min_eq_right h, List.take_of_length_le h, List.take_length]
theorem cut_drop (xs : List V) (k : Nat) : cutV xs (some (k : Int)) none = xs.drop k := by
  unfold cutV
  rw [HT.sIx_nat, HT.sIx_none]
  rcases Nat.le_total k xs.length with h | h
  · rw [Nat.min_eq_left h, List.take_of_length_le (by rw [List.length_drop]; exact Nat.le_refl _)]
  · rw [Nat.min_eq_right h, List.drop_length, List.drop_of_length_le h, List.take_nil]
theorem rep_ints (k : Nat) (ks : List Int) : (List.replicate k (ks.map V.int)).flatten = ((List.replicate k ks).flatten).map V.int := by
  rw [List.map_flatten, List.map_replicate]
theorem rep_len {α : Type} (k : Nat) (ks : List α) : ((List.replicate k ks).flatten).length = k * ks.length := by
  induction k with
  | zero => simp
  | succ k ih => rw [List.replicate_succ, List.flatten_cons, List.length_append, ih, Nat.succ_mul]; omega
theorem rep_mem {α : Type} {k : Nat} {ks : List α} {x : α} (h : x ∈ (List.replicate k ks).flatten) : x ∈ ks := by
  obtain ⟨l, hl, hx⟩ := List.mem_flatten.mp h
  rw [(List.mem_replicate.mp hl).2] at hx
  exact hx
/-! ### comprehensions that make new things: R tells what is known of the i-th; D is no part of it -/
def Off (D : Addr) (H H' : Hp) : Prop := ∀ b o, b ≠ D → H b = some o → H' b = some o
def RelPv (R : Nat → V → Hp → Prop) (H1 : Hp) (D : Addr) (i : Nat) (H : Hp) : Prop := ∃ ys : List V, Same H1 H ∧ H D = some (.lst ys) ∧ ys.length = i ∧ ∀ (k : Nat) (y : V), ys[k]? = some y → R k y H
theorem lc_relR {lo : Int} {n : Nat} {j : Nat} {te : TE} {vs : List Nat} {σ : L2.St} {H1 : Hp} {D : Addr} {Qd : Hp → Prop} (R : Nat → V → Hp → Prop) (nD : H1 D = none) (hz : n < sizeLine)
    (mono : ∀ i y H H', Off D H H' → R i y H → R i y H')
    (hw : ∀ x, wipe ((wipe σ vs).set j (some x)) vs = wipe σ vs)
    (hs : ∀ (i : Nat) (H' : Hp) (xs : List V), i < n → Same H1 H' → H' D = some (.lst xs) → ∀ Qt : V → Hp → Prop, (∀ y H'', Same H' H'' → R i y H'' → Qt y H'') → te ((wipe σ vs).set j (some (.int (lo + (i : Int))))) H' Qt)
    (hd : ∀ H' ys, Same H1 H' → H' D = some (.lst ys) → ys.length = n → (∀ (i : Nat) (y : V), ys[i]? = some y → R i y H') → Qd H') :
    ∃ W : Nat → Nat → Hp → Prop, (∃ m, W 0 m (upd H1 D (.lst []))) ∧ ∀ i m H, W i m H →
      ((Itr lo n).stop i H ∧ Qd H) ∨ ((Itr lo n).go i H ∧ ∃ Nx : Hp → Prop, (∀ H', Nx H' → ∃ m', m' < m ∧ W (i + 1) m' H') ∧ ∀ x H', (Itr lo n).yld i H x H' → gName j x (wipe σ vs) H' fun σ2 H2 => wipe σ2 vs = wipe σ vs ∧ tYes σ2 H2 fun b H3 =>
        if b = true then te σ2 H3 fun y H4 => ∃ acc, H4 D = some (.lst acc) ∧ acc.length < sizeLine ∧ Nx (upd H4 D (.lst (acc ++ [y]))) else Nx H3) := by
  refine lc_range (lo := lo) (n := n) (RelPv R H1 D) ⟨[], same_upd nD, upd_same, rfl, fun k y h => by simp at h⟩ ?_ ?_
  · rintro i H hi ⟨ys, s, hD, hl, hR⟩
    refine ⟨hw _, ?_⟩
    show if true = true then te ((wipe σ vs).set j (some (.int (lo + (i : Int))))) H (fun y H4 => ∃ acc, H4 D = some (.lst acc) ∧ acc.length < sizeLine ∧ RelPv R H1 D (i + 1) (upd H4 D (.lst (acc ++ [y])))) else RelPv R H1 D (i + 1) H
    refine iteT (hs i H ys hi s hD _ fun y H4 s4 r4 => ?_)
    refine ⟨ys, s4 _ _ hD, by omega, ys ++ [y], same_over nD (s.trans s4), upd_same, by rw [List.length_append, hl]; rfl, fun k z hz => ?_⟩
    have off : Off D H4 (upd H4 D (.lst (ys ++ [y]))) := fun b o nb h => by rw [upd_ne nb]; exact h
    by_cases hk : k < ys.length
    · rw [List.getElem?_append_left hk] at hz
      exact mono k z H _ (fun b o nb h => off b o nb (s4 b o h)) (hR k z hz)
    · rw [List.getElem?_append_right (by omega)] at hz
      have hk2 : k - ys.length = 0 := by
        have h2 := (List.getElem?_eq_some_iff.mp hz).1
        rw [List.length_singleton] at h2
        omega
      rw [hk2] at hz
      cases hz
      have ek : k = i := by omega
      rw [ek]
      exact mono i y H4 _ off r4
  · rintro H ⟨ys, s, hD, hl, hR⟩
    exact hd H ys s hD hl hR
/-! ### ways that are told by whole numbers -/
theorem iteDT {p A B : Prop} [Decidable p] (hp : p) (h : A) : if decide p = true then A else B := by rw [decide_eq_true hp]; exact iteT h
theorem iteDF {p A B : Prop} [Decidable p] (hp : ¬ p) (h : B) : if decide p = true then A else B := by rw [decide_eq_false hp]; exact iteF h
theorem iteNT {p A B : Prop} [Decidable p] (hp : ¬ p) (h : A) : if (!decide p) = true then A else B := by rw [decide_eq_false hp]; exact iteT h
theorem iteNF {p A B : Prop} [Decidable p] (hp : p) (h : B) : if (!decide p) = true then A else B := by rw [decide_eq_true hp]; exact iteF h
theorem iteET {a b : Int} {A B : Prop} [Decidable (V.int a = V.int b)] (hp : a = b) (h : A) : if decide (V.int a = V.int b) = true then A else B := iteDT (congrArg V.int hp) h
theorem iteEF {a b : Int} {A B : Prop} [Decidable (V.int a = V.int b)] (hp : ¬ a = b) (h : B) : if decide (V.int a = V.int b) = true then A else B := iteDF (fun z => hp (V.int.inj z)) h
theorem iteENT {a b : Int} {A B : Prop} [Decidable (V.int a = V.int b)] (hp : ¬ a = b) (h : A) : if (!decide (V.int a = V.int b)) = true then A else B := iteNT (fun z => hp (V.int.inj z)) h
theorem iteENF {a b : Int} {A B : Prop} [Decidable (V.int a = V.int b)] (hp : a = b) (h : B) : if (!decide (V.int a = V.int b)) = true then A else B := iteNF (congrArg V.int hp) h
theorem iteNtt {A B : Prop} (h : B) : if (!true) = true then A else B := h
theorem iteNff {A B : Prop} (h : A) : if (!false) = true then A else B := h
/-- 1 or 0 of a comparison -/
theorem int_if {p : Prop} [Decidable p] : (if decide p = true then (1 : Int) else 0) = if p then 1 else 0 := by by_cases h : p <;> simp [h]
end Pre

namespace My
open PySem PySem.Spec PyProof.Rows L2 Pre
/-! ### == and != of instances by their class's own __eq__ -/
/-- != of a class with own __eq__, without own __ne__ -/
theorem own_ne {prog : Program} {w : World} {A : Around} {E : Value → Shared → Prop} {s : Shared} {K : PySem.W.Frag} {x C f : Addr} {ox : Obj} {od : Option Obj} {b tb : Value} {Q : Value → Shared → Prop} (room : A.units + 1 < cLine) (kin : K.In s.heap)
    (inst : PySem.W.InstAt s.heap x ox C od) (tyb : PySem.W.Looks (model prog w) s.heap (typeOf b) tb) (nf : PySem.W.notFirst K C tb = true) (hne : PySem.W.findIn K (.ref C) "__ne__" = some (some (.builtin "object.__ne__")))
    (heq : PySem.W.findIn K (.ref C) "__eq__" = some (some (.ref f))) (isf : PySem.W.isFn K (.ref f) = true) (hob : PySem.W.subIn K (.ref C) (.type "object") = some true)
    (h : wpAny (model prog w) A.in1 (call (.ref f) [.ref x, b]) (fun v s' => ∃ r, v = .bool r ∧ Q (.bool (!r)) s') E s) : wpAny (model prog w) A (richCompare .NotEq (.ref x) b) Q E s := by
  have body : wpAny (model prog w) A.in1 (Builtin.«object.__ne__» ⟨[.ref x, b], []⟩) (fun fin s' => ∃ r, fin = .done (.ret (.bool r)) ∧ Q (.bool r) s') E s := by
    unfold Builtin.«object.__ne__»
    refine wpAny_bind (wpAny_of_eq (a := ((Value.ref x : Value), [b])) (by first | rfl | (simp only [slotArgs]; rfl)) ?_)
    refine wpAny_bind (wpAny_cRoomFor (show A.in1.units < cLine from room) ?_)
    refine wpAny_bind (PySem.W.ifBound_K kin inst heq isf (wpAny_mono h (fun v s' hv => ?_) fun _ _ e => e))
    obtain ⟨r, rfl, q⟩ := hv
    refine wpAny_bind (wpAny_truthy_bool ?_)
    exact wpAny_pure ⟨!r, rfl, q⟩
  have one : wpAny (model prog w) A (tryCompare (.ref x) "__ne__" b) (fun o s' => ∃ v, o = some v ∧ Q v s') E s := by
    have called : wpAny (model prog w) A (call (.builtin "object.__ne__") ([.ref x] ++ [b]) >>= fun v => pure (some v)) (fun o s' => ∃ v r, o = some v ∧ v = .bool r ∧ Q v s') E s := by
      refine wpAny_bind (wpAny_call (codeAny_call_builtin PySem.F.cmp_object.ne.plain PySem.F.cmpEntry_ne (PySem.W.check_slot PySem.F.cmpKind_ne PySem.F.cmpSplit_ne (inst.type.andThen (PySem.W.looks_subIn kin hob)) (PySem.F.cmpArgs_ne _ _) ?_)))
      refine wpAny_mono body (fun fin s' hf => ?_) fun _ _ e => e
      obtain ⟨r, rfl, q⟩ := hf
      exact wpAny_pure ⟨_, r, rfl, rfl, q⟩
    have inner : wpAny (model prog w) A (callSpecialIfBound? (.ref x) "__ne__" [b]) (fun o s' => ∃ v r, o = some v ∧ v = .bool r ∧ Q v s') E s := by
      simp only [callSpecialIfBound?, bindSpecialIfBound?]
      refine wpAny_holding (wpAny_bind (wpAny_bind (wpAny_bind (inst.type.here ((PySem.W.looks_findIn kin hne).here ?_)))))
      refine wpAny_bind (wpAny_askSetting (wpAny_ite ?_))
      rw [PySem.F.cmp_object.ne.bind]
      split
      · exact wpAny_bind (wpAny_pure (wpAny_pure called))
      · exact wpAny_tryCatch (wpAny_bind (wpAny_pure (wpAny_pure called)))
    unfold tryCompare
    refine wpAny_bind (wpAny_mono inner (fun o s' ho => ?_) fun _ _ e => e)
    obtain ⟨v, r, rfl, rfl, q⟩ := ho
    exact wpAny_pure ⟨_, rfl, q⟩
  unfold richCompare
  simp only [oneThing_ref]
  refine wpAny_holding (wpAny_bind (wpAny_cRoomFor (by omega) ?_))
  refine wpAny_bind (inst.type.here (wpAny_bind (tyb.here ?_)))
  have last : wpAny (model prog w) A (tryCompare (.ref x) "__ne__" b) (fun o s' => ∃ v, o = some v ∧ Q v s') E s := one
  split
  · rename_i q
    have e : PySem.W.subIn K tb (.ref C) = some false := by
      rcases Bool.or_eq_true_iff.mp nf with e | e
      · rw [beq_iff_eq.mp e] at q; simp at q
      · exact beq_iff_eq.mp e
    refine wpAny_bind ((PySem.W.looks_subIn kin e).here ?_)
    simp only [Bool.false_eq_true, if_false]
    refine wpAny_bind (wpAny_mono last (fun o s' z => ?_) fun _ _ e => e)
    obtain ⟨v, rfl, hq⟩ := z
    exact wpAny_pure hq
  · refine wpAny_bind (wpAny_pure ?_)
    simp only [Bool.false_eq_true, if_false]
    refine wpAny_bind (wpAny_mono last (fun o s' z => ?_) fun _ _ e => e)
    obtain ⟨v, rfl, hq⟩ := z
    exact wpAny_pure hq
/-- what is asked of a class with own __eq__ -/
structure EqC (K : PySem.W.Frag) (C f : Addr) : Prop where
  eq : PySem.W.findIn K (.ref C) "__eq__" = some (some (.ref f))
  fn : PySem.W.isFn K (.ref f) = true
  ne : PySem.W.findIn K (.ref C) "__ne__" = some (some (.builtin "object.__ne__"))
  ob : PySem.W.subIn K (.ref C) (.type "object") = some true
  li : PySem.W.subIn K (.type "list") (.ref C) = some false
  ki : PySem.W.kitOne K (.type "list") (.ref C) = some false
  tu : PySem.W.subIn K (.type "tuple") (.ref C) = some false
  kt : PySem.W.kitOne K (.type "tuple") (.ref C) = some false
/-- what stands right of ==: an instance of the same class, a list or a tuple -/
def Rhs (K : PySem.W.Frag) (H : Hp) (C : Addr) (y : V) : Prop := ∃ b, y = .ref b ∧ ((∃ dy gs, H b = some (.ins C dy gs)) ∨ (∃ xs, SqL K H b xs) ∨ ∃ xs, SqT K H b xs)
section
variable {X : Cx} {CX : CXT} {k : Nat} {f C : Addr} {fd : FuncData} {ps : List Str} {sp : Sp} {E : XK}
theorem rhs_ty {pins : List (Addr × Obj)} {σ : L2.St} {H : Hp} {s : Shared} {y : V} {u : Value} (I : Inv X pins σ H s) (c : EqC X.K C f) (h : Rhs X.K H C y) (r : RelV y u) : ∃ tb, PySem.W.Looks (model X.prog X.w) s.heap (typeOf u) tb ∧ PySem.W.notFirst X.K C tb = true := by
  obtain ⟨b, rfl, h⟩ := h
  cases r
  rcases h with ⟨dy, gs, hb⟩ | ⟨xs, hb⟩ | ⟨xs, hb⟩
  · obtain ⟨mB, J, _⟩ := ins_get I.hok hb
    obtain ⟨od, J, _⟩ := J.look
    exact ⟨_, J.type, by simp [PySem.W.notFirst]⟩
  · obtain ⟨us, _, ⟨o, n, ho, hc, _⟩, _⟩ := I.list hb
    refine ⟨.type "list", fun A Q E s' k q => wpAny_typeOf_ref (k _ _ ho) (by rw [hc]; exact q), ?_⟩
    simp only [PySem.W.notFirst, c.li]
    simp
  · obtain ⟨us, _, ⟨o, ho, hc, _⟩, _⟩ := I.tuple hb
    refine ⟨.type "tuple", fun A Q E s' k q => wpAny_typeOf_ref (k _ _ ho) (by rw [hc]; exact q), ?_⟩
    simp only [PySem.W.notFirst, c.tu]
    simp
theorem run_eq {A : Around} {pins : List (Addr × Obj)} {σ : L2.St} {H : Hp} {s : Shared} {Q : VK} {x y : V} {a : Addr} {u : Value} (F : FnOk X.prog X.w X.K X.mg X.base CX k f fd ps sp) (hr : Room k A) (fr : A.frames = X.A.frames) (hb : Binds X.K fd ps [])
    (hx : Passes CX X E) (I : Inv X pins σ H s) (ry : RelV y u) (h : sp [.ref a, y] H Q E) : wpAny (model X.prog X.w) A (call (.ref f) [.ref a, u]) (EP X pins σ Q) X.xe s := by
  have rr : Vals [V.ref a, y] [Value.ref a, u] := .cons rfl (.cons ry .nil)
  have e := I.env0
  have e0 : Env0 X.prog X.w X.K X.mg X.base A X.stack s H := ⟨by rw [fr]; exact e.frames, e.mod, e.bs, e.bsz, e.funs, e.frf, e.hok, e.bare⟩
  have bn := hb s [.ref a, u] I.kIn (by have := F.len _ _ _ _ h; simpa using this)
  rw [List.append_nil] at bn
  refine wpAny_call (codeAny_mono (F.run A X.stack s H ⟨[.ref a, u], []⟩ [.ref a, u] [.ref a, y] Q E hr e0 bn rr h) fun z s2 hz => ?_)
  match z, hz with
  | .error e, hz => exact hx pins σ H s e s2 I hz
  | .ok (.ret v), hz => exact I.after hz
def rOwn (K : PySem.W.Frag) (C : Addr) (sp : Sp) (E : XK) (no : Bool) : R2 := fun x y H Q => ∃ (a dx : Addr) (fs : List (Str × V)), x = .ref a ∧ H a = some (.ins C dx fs) ∧ Rhs K H C y ∧ sp [x, y] H (fun v H' => ∃ b, v = .bl b ∧ Q (.bl (b != no)) H') E
theorem op_own_eq (c : EqC X.K C f) (F : FnOk X.prog X.w X.K X.mg X.base CX k f fd ps sp) (hr : Room (k + 1) X.A) (hb : Binds X.K fd ps []) (hx : Passes CX X E) : OpR X (compareOp .Eq) (rOwn X.K C sp E false) := by
  intro pins s σ H x y v u Q I rx ry h
  obtain ⟨a, dx, fs, rfl, ha, hy, h⟩ := h
  cases rx
  obtain ⟨tb, lb, nf⟩ := rhs_ty I c hy ry
  obtain ⟨mA, J, _⟩ := ins_get I.hok ha
  obtain ⟨od, J, _⟩ := J.look
  obtain ⟨m, hF⟩ := I.fr
  refine PySem.W.cmp_K (op := .Eq) hr.units0 hF I.ok.mod.kin J lb nf c.eq c.fn (wpAny_mono (run_eq (x := .ref a) F (hr.mono (by omega)) rfl hb hx I ry h) (fun v s2 hv => ?_) fun _ _ z => z)
  obtain ⟨z, H2, I2, r2, b, rfl, q⟩ := hv
  cases r2
  refine ⟨.bl b, H2, I2, rfl, ?_⟩
  have e : (b != false) = b := by cases b <;> rfl
  rw [e] at q
  exact q
theorem op_own_ne (c : EqC X.K C f) (F : FnOk X.prog X.w X.K X.mg X.base CX k f fd ps sp) (hr : Room (k + 1) X.A) (hb : Binds X.K fd ps []) (hx : Passes CX X E) : OpR X (compareOp .NotEq) (rOwn X.K C sp E true) := by
  intro pins s σ H x y v u Q I rx ry h
  obtain ⟨a, dx, fs, rfl, ha, hy, h⟩ := h
  cases rx
  obtain ⟨tb, lb, nf⟩ := rhs_ty I c hy ry
  obtain ⟨mA, J, _⟩ := ins_get I.hok ha
  obtain ⟨od, J, _⟩ := J.look
  refine own_ne (by have := hr.units; omega) I.kIn J lb nf c.ne c.eq c.fn c.ob (wpAny_mono (run_eq (x := .ref a) F hr.in1 rfl hb hx I ry h) (fun v s2 hv => ?_) fun _ _ z => z)
  obtain ⟨z, H2, I2, r2, b, rfl, q⟩ := hv
  cases r2
  refine ⟨b, rfl, .bl (!b), H2, I2, rfl, ?_⟩
  have e : (b != true) = !b := by cases b <;> rfl
  rw [e] at q
  exact q
end
end My

namespace My
open PySem PySem.Spec PyProof.Rows L2
theorem nil_binds {K : PySem.W.Frag} {fd : FuncData} {ps : List Str} (h : ∃ ds, Vals [] ds ∧ Binds K fd ps ds) : Binds K fd ps [] := by
  obtain ⟨ds, v, b⟩ := h
  cases v
  exact b
def top (i : Nat) : Stmt := PySem.Challenge.pw_wholesound_k37_undone_joined_and_tidied.main.body.getD i (.Pass ⟨0, 0, 0, 0⟩)
abbrev s_is_whole : Stmt := top 9
abbrev N_is_whole : List Str := ["value"]
theorem sc_is_whole : FnScope N_is_whole ["value"] (defScope s_is_whole) := ⟨rfl, rfl, rfl, by decide +kernel, rfl, by decide +kernel, by decide +kernel⟩
abbrev s_is_between : Stmt := top 10
abbrev N_is_between : List Str := ["value", "low", "high"]
theorem sc_is_between : FnScope N_is_between ["value", "low", "high"] (defScope s_is_between) := ⟨rfl, rfl, rfl, by decide +kernel, rfl, by decide +kernel, by decide +kernel⟩
abbrev s_are_wholes : Stmt := top 11
abbrev N_are_wholes : List Str := ["value", "item"]
theorem sc_are_wholes : FnScope N_are_wholes ["value"] (defScope s_are_wholes) := ⟨rfl, rfl, rfl, by decide +kernel, rfl, by decide +kernel, by decide +kernel⟩
abbrev s_check_number : Stmt := top 12
abbrev N_check_number : List Str := ["number", "low", "high"]
theorem sc_check_number : FnScope N_check_number ["number", "low", "high"] (defScope s_check_number) := ⟨rfl, rfl, rfl, by decide +kernel, rfl, by decide +kernel, by decide +kernel⟩
abbrev s_is_lift : Stmt := top 15
abbrev N_is_lift : List Str := ["value", "wide"]
theorem sc_is_lift : FnScope N_is_lift ["value", "wide"] (defScope s_is_lift) := ⟨rfl, rfl, rfl, by decide +kernel, rfl, by decide +kernel, by decide +kernel⟩
abbrev s_is_step : Stmt := top 16
abbrev N_is_step : List Str := ["value", "wide", "at"]
theorem sc_is_step : FnScope N_is_step ["value", "wide"] (defScope s_is_step) := ⟨rfl, rfl, rfl, by decide +kernel, rfl, by decide +kernel, by decide +kernel⟩
abbrev s_closed : Stmt := top 17
abbrev N_closed : List Str := ["step"]
theorem sc_closed : FnScope N_closed ["step"] (defScope s_closed) := ⟨rfl, rfl, rfl, by decide +kernel, rfl, by decide +kernel, by decide +kernel⟩
abbrev s_opened : Stmt := top 18
abbrev N_opened : List Str := ["row"]
theorem sc_opened : FnScope N_opened ["row"] (defScope s_opened) := ⟨rfl, rfl, rfl, by decide +kernel, rfl, by decide +kernel, by decide +kernel⟩
abbrev s_check_mixer : Stmt := top 20
abbrev N_check_mixer : List Str := ["mixer"]
theorem sc_check_mixer : FnScope N_check_mixer ["mixer"] (defScope s_check_mixer) := ⟨rfl, rfl, rfl, by decide +kernel, rfl, by decide +kernel, by decide +kernel⟩
abbrev s_check_both : Stmt := top 21
abbrev N_check_both : List Str := ["one", "other"]
theorem sc_check_both : FnScope N_check_both ["one", "other"] (defScope s_check_both) := ⟨rfl, rfl, rfl, by decide +kernel, rfl, by decide +kernel, by decide +kernel⟩
abbrev s_check_moment : Stmt := top 22
abbrev N_check_moment : List Str := ["mixer", "samples"]
theorem sc_check_moment : FnScope N_check_moment ["mixer", "samples"] (defScope s_check_moment) := ⟨rfl, rfl, rfl, by decide +kernel, rfl, by decide +kernel, by decide +kernel⟩
abbrev s_summed : Stmt := top 23
abbrev N_summed : List Str := ["weights", "numbers", "weight", "number"]
theorem sc_summed : FnScope N_summed ["weights", "numbers"] (defScope s_summed) := ⟨rfl, rfl, rfl, by decide +kernel, rfl, by decide +kernel, by decide +kernel⟩
abbrev s_stepped : Stmt := top 24
abbrev N_stepped : List Str := ["row", "numbers", "way", "found"]
theorem sc_stepped : FnScope N_stepped ["row", "numbers", "way"] (defScope s_stepped) := ⟨rfl, rfl, rfl, by decide +kernel, rfl, by decide +kernel, by decide +kernel⟩
abbrev s_played : Stmt := top 25
abbrev N_played : List Str := ["rows", "numbers", "found", "row"]
theorem sc_played : FnScope N_played ["rows", "numbers"] (defScope s_played) := ⟨rfl, rfl, rfl, by decide +kernel, rfl, by decide +kernel, by decide +kernel⟩
abbrev s_mixed : Stmt := top 26
abbrev N_mixed : List Str := ["mixer", "samples"]
theorem sc_mixed : FnScope N_mixed ["mixer", "samples"] (defScope s_mixed) := ⟨rfl, rfl, rfl, by decide +kernel, rfl, by decide +kernel, by decide +kernel⟩
abbrev s_unmixed : Stmt := top 27
abbrev N_unmixed : List Str := ["mixer", "samples", "found", "row"]
theorem sc_unmixed : FnScope N_unmixed ["mixer", "samples"] (defScope s_unmixed) := ⟨rfl, rfl, rfl, by decide +kernel, rfl, by decide +kernel, by decide +kernel⟩
abbrev s_shifts_of : Stmt := top 28
abbrev N_shifts_of : List Str := ["rows", "row"]
theorem sc_shifts_of : FnScope N_shifts_of ["rows"] (defScope s_shifts_of) := ⟨rfl, rfl, rfl, by decide +kernel, rfl, by decide +kernel, by decide +kernel⟩
abbrev s_numbers_of : Stmt := top 29
abbrev N_numbers_of : List Str := ["rows", "wide", "found", "row", "one", "more", "other", "at", "line", "number"]
theorem sc_numbers_of : FnScope N_numbers_of ["rows", "wide"] (defScope s_numbers_of) := ⟨rfl, rfl, rfl, by decide +kernel, rfl, by decide +kernel, by decide +kernel⟩
abbrev s_made : Stmt := top 30
abbrev N_made : List Str := ["wide", "rows", "row"]
theorem sc_made : FnScope N_made ["wide", "rows"] (defScope s_made) := ⟨rfl, rfl, rfl, by decide +kernel, rfl, by decide +kernel, by decide +kernel⟩
abbrev s_back_rows : Stmt := top 31
abbrev N_back_rows : List Str := ["row", "weight"]
theorem sc_back_rows : FnScope N_back_rows ["row"] (defScope s_back_rows) := ⟨rfl, rfl, rfl, by decide +kernel, rfl, by decide +kernel, by decide +kernel⟩
abbrev s_undoing : Stmt := top 32
abbrev N_undoing : List Str := ["mixer", "found", "row"]
theorem sc_undoing : FnScope N_undoing ["mixer"] (defScope s_undoing) := ⟨rfl, rfl, rfl, by decide +kernel, rfl, by decide +kernel, by decide +kernel⟩
abbrev s_joined_mixers : Stmt := top 33
abbrev N_joined_mixers : List Str := ["one", "other"]
theorem sc_joined_mixers : FnScope N_joined_mixers ["one", "other"] (defScope s_joined_mixers) := ⟨rfl, rfl, rfl, by decide +kernel, rfl, by decide +kernel, by decide +kernel⟩
abbrev s_paired : Stmt := top 34
abbrev N_paired : List Str := ["row", "behind", "shift", "weights", "weight", "other"]
theorem sc_paired : FnScope N_paired ["row", "behind"] (defScope s_paired) := ⟨rfl, rfl, rfl, by decide +kernel, rfl, by decide +kernel, by decide +kernel⟩
abbrev s_tidied : Stmt := top 35
abbrev N_tidied : List Str := ["rows", "at", "row", "both", "halved", "weight"]
theorem sc_tidied : FnScope N_tidied ["rows"] (defScope s_tidied) := ⟨rfl, rfl, rfl, by decide +kernel, rfl, by decide +kernel, by decide +kernel⟩
abbrev s_tidy : Stmt := top 36
abbrev N_tidy : List Str := ["mixer", "rows", "later"]
theorem sc_tidy : FnScope N_tidy ["mixer"] (defScope s_tidy) := ⟨rfl, rfl, rfl, by decide +kernel, rfl, by decide +kernel, by decide +kernel⟩
abbrev s_every_rest : Stmt := top 38
abbrev N_every_rest : List Str := ["wide", "bits", "found", "turn", "row", "number"]
theorem sc_every_rest : FnScope N_every_rest ["wide", "bits"] (defScope s_every_rest) := ⟨rfl, rfl, rfl, by decide +kernel, rfl, by decide +kernel, by decide +kernel⟩
abbrev s_are_alike : Stmt := top 39
abbrev N_are_alike : List Str := ["one", "other", "lines", "rows", "others", "wide", "bits", "more", "line", "number", "row"]
theorem sc_are_alike : FnScope N_are_alike ["one", "other"] (defScope s_are_alike) := ⟨rfl, rfl, rfl, by decide +kernel, rfl, by decide +kernel, by decide +kernel⟩
abbrev s_same_mix : Stmt := top 40
abbrev N_same_mix : List Str := ["one", "other"]
theorem sc_same_mix : FnScope N_same_mix ["one", "other"] (defScope s_same_mix) := ⟨rfl, rfl, rfl, by decide +kernel, rfl, by decide +kernel, by decide +kernel⟩
abbrev s_commute : Stmt := top 41
abbrev N_commute : List Str := ["one", "other"]
theorem sc_commute : FnScope N_commute ["one", "other"] (defScope s_commute) := ⟨rfl, rfl, rfl, by decide +kernel, rfl, by decide +kernel, by decide +kernel⟩
abbrev s_law_purse : Stmt := top 43
abbrev N_law_purse : List Str := ["_law_script", "_law_at", "_law_cell"]
theorem sc_law_purse : FnScope N_law_purse ["_law_script", "_law_at"] (defScope s_law_purse) := ⟨rfl, rfl, rfl, by decide +kernel, rfl, by decide +kernel, by decide +kernel⟩
abbrev s_law_draw : Stmt := top 44
abbrev N_law_draw : List Str := ["_law_purse_here", "_law_many", "_law_number_here", "_law_digit"]
theorem sc_law_draw : FnScope N_law_draw ["_law_purse_here", "_law_many"] (defScope s_law_draw) := ⟨rfl, rfl, rfl, by decide +kernel, rfl, by decide +kernel, by decide +kernel⟩
abbrev s_law_number : Stmt := top 45
abbrev N_law_number : List Str := ["_law_purse_here", "_law_broad", "_law_number_here", "_law_turn"]
theorem sc_law_number : FnScope N_law_number ["_law_purse_here"] (defScope s_law_number) := ⟨rfl, rfl, rfl, by decide +kernel, rfl, by decide +kernel, by decide +kernel⟩
abbrev s_law_weight : Stmt := top 46
abbrev N_law_weight : List Str := ["_law_purse_here", "_law_small"]
theorem sc_law_weight : FnScope N_law_weight ["_law_purse_here"] (defScope s_law_weight) := ⟨rfl, rfl, rfl, by decide +kernel, rfl, by decide +kernel, by decide +kernel⟩
abbrev s_law_lift : Stmt := top 47
abbrev N_law_lift : List Str := ["_law_purse_here", "_law_broad", "_law_most", "_law_weights", "_law_to", "_law_shift", "_law_way"]
theorem sc_law_lift : FnScope N_law_lift ["_law_purse_here", "_law_broad", "_law_most"] (defScope s_law_lift) := ⟨rfl, rfl, rfl, by decide +kernel, rfl, by decide +kernel, by decide +kernel⟩
abbrev s_law_steps : Stmt := top 48
abbrev N_law_steps : List Str := ["_law_purse_here", "_law_broad", "_law_many", "_law_bits_here", "_law_turn", "_law_found", "_law_left", "_law_way", "_law_step"]
theorem sc_law_steps : FnScope N_law_steps ["_law_purse_here", "_law_broad", "_law_many", "_law_bits_here"] (defScope s_law_steps) := ⟨rfl, rfl, rfl, by decide +kernel, rfl, by decide +kernel, by decide +kernel⟩
abbrev s_law_copied : Stmt := top 49
abbrev N_law_copied : List Str := ["_law_steps_here", "_law_step"]
theorem sc_law_copied : FnScope N_law_copied ["_law_steps_here"] (defScope s_law_copied) := ⟨rfl, rfl, rfl, by decide +kernel, rfl, by decide +kernel, by decide +kernel⟩
abbrev s_law_stepped : Stmt := top 50
abbrev N_law_stepped : List Str := ["_law_step", "_law_row", "_law_way", "_law_found", "_law_total", "_law_at"]
theorem sc_law_stepped : FnScope N_law_stepped ["_law_step", "_law_row", "_law_way"] (defScope s_law_stepped) := ⟨rfl, rfl, rfl, by decide +kernel, rfl, by decide +kernel, by decide +kernel⟩
abbrev s_law_played : Stmt := top 51
abbrev N_law_played : List Str := ["_law_steps_here", "_law_row", "_law_found", "_law_step"]
theorem sc_law_played : FnScope N_law_played ["_law_steps_here", "_law_row"] (defScope s_law_played) := ⟨rfl, rfl, rfl, by decide +kernel, rfl, by decide +kernel, by decide +kernel⟩
abbrev s_law_bits : Stmt := top 52
abbrev N_law_bits : List Str := ["_law_steps_here", "_law_step"]
theorem sc_law_bits : FnScope N_law_bits ["_law_steps_here"] (defScope s_law_bits) := ⟨rfl, rfl, rfl, by decide +kernel, rfl, by decide +kernel, by decide +kernel⟩
abbrev s_law_lists : Stmt := top 53
abbrev N_law_lists : List Str := ["_law_broad", "_law_low", "_law_high", "_law_found", "_law_turn", "_law_longer", "_law_row", "_law_number_here"]
theorem sc_law_lists : FnScope N_law_lists ["_law_broad", "_law_low", "_law_high"] (defScope s_law_lists) := ⟨rfl, rfl, rfl, by decide +kernel, rfl, by decide +kernel, by decide +kernel⟩
abbrev s_law_lifts_of : Stmt := top 54
abbrev N_law_lifts_of : List Str := ["_law_steps_here", "_law_at"]
theorem sc_law_lifts_of : FnScope N_law_lifts_of ["_law_steps_here"] (defScope s_law_lifts_of) := ⟨rfl, rfl, rfl, by decide +kernel, rfl, by decide +kernel, by decide +kernel⟩
abbrev s_law_undone : Stmt := top 55
abbrev N_law_undone : List Str := ["_law_steps_here", "_law_found", "_law_step", "_law_weight_here"]
theorem sc_law_undone : FnScope N_law_undone ["_law_steps_here"] (defScope s_law_undone) := ⟨rfl, rfl, rfl, by decide +kernel, rfl, by decide +kernel, by decide +kernel⟩
abbrev s_law_pair : Stmt := top 56
abbrev N_law_pair : List Str := ["_law_step", "_law_later", "_law_shift", "_law_weights", "_law_k"]
theorem sc_law_pair : FnScope N_law_pair ["_law_step", "_law_later"] (defScope s_law_pair) := ⟨rfl, rfl, rfl, by decide +kernel, rfl, by decide +kernel, by decide +kernel⟩
abbrev s_law_shorter : Stmt := top 57
abbrev N_law_shorter : List Str := ["_law_steps_here", "_law_at", "_law_step", "_law_pair_here", "_law_less", "_law_weight_here"]
theorem sc_law_shorter : FnScope N_law_shorter ["_law_steps_here"] (defScope s_law_shorter) := ⟨rfl, rfl, rfl, by decide +kernel, rfl, by decide +kernel, by decide +kernel⟩
abbrev s_law_tidied : Stmt := top 58
abbrev N_law_tidied : List Str := ["_law_steps_here", "_law_found", "_law_later"]
theorem sc_law_tidied : FnScope N_law_tidied ["_law_steps_here"] (defScope s_law_tidied) := ⟨rfl, rfl, rfl, by decide +kernel, rfl, by decide +kernel, by decide +kernel⟩
abbrev s_law_filled : Stmt := top 59
abbrev N_law_filled : List Str := ["_law_purse_here", "_law_steps_here", "_law_wide", "_law_found", "_law_turn", "_law_more", "_law_at", "_law_way", "_law_spot", "_law_lifts", "_law_k"]
theorem sc_law_filled : FnScope N_law_filled ["_law_purse_here", "_law_steps_here", "_law_wide"] (defScope s_law_filled) := ⟨rfl, rfl, rfl, by decide +kernel, rfl, by decide +kernel, by decide +kernel⟩
abbrev s_law_mixes_right : Stmt := top 60
abbrev N_law_mixes_right : List Str := ["_law_purse_here", "_law_mixer", "_law_other", "_law_back", "_law_both", "_law_wide", "_law_turn", "_law_row", "_law_out", "_law_way"]
theorem sc_law_mixes_right : FnScope N_law_mixes_right ["_law_purse_here", "_law_mixer", "_law_other", "_law_back", "_law_both", "_law_wide"] (defScope s_law_mixes_right) := ⟨rfl, rfl, rfl, by decide +kernel, rfl, by decide +kernel, by decide +kernel⟩
abbrev s_law : Stmt := top 61
abbrev N_law : List Str := ["_law_script", "_law_at", "_law_side", "_law_due", "_law_loose", "_law_halves", "_law_purse_here", "_law_wide", "_law_bits_here", "_law_steps_here", "_law_more", "_law_few", "_law_mixer", "_law_other", "_law_back", "_law_both", "_law_short", "_law_rows", "_law_told", "_law_ways", "_law_most", "_law_one", "_law_row"]
theorem sc_law : FnScope N_law ["_law_script"] (defScope s_law) := ⟨rfl, rfl, rfl, by decide +kernel, rfl, by decide +kernel, by decide +kernel⟩
abbrev s_Mixer___init__ : Stmt := inClass (top 19) 0
abbrev N_Mixer___init__ : List Str := ["self", "wide", "steps", "item"]
theorem sc_Mixer___init__ : FnScope N_Mixer___init__ ["self", "wide", "steps"] (defScope s_Mixer___init__) := ⟨rfl, rfl, rfl, by decide +kernel, rfl, by decide +kernel, by decide +kernel⟩
abbrev s_Mixer_wide : Stmt := inClass (top 19) 1
abbrev N_Mixer_wide : List Str := ["self"]
theorem sc_Mixer_wide : FnScope N_Mixer_wide ["self"] (defScope s_Mixer_wide) := ⟨rfl, rfl, rfl, by decide +kernel, rfl, by decide +kernel, by decide +kernel⟩
abbrev s_Mixer_steps : Stmt := inClass (top 19) 2
abbrev N_Mixer_steps : List Str := ["self", "row"]
theorem sc_Mixer_steps : FnScope N_Mixer_steps ["self"] (defScope s_Mixer_steps) := ⟨rfl, rfl, rfl, by decide +kernel, rfl, by decide +kernel, by decide +kernel⟩
abbrev s_Mixer___eq__ : Stmt := inClass (top 19) 3
abbrev N_Mixer___eq__ : List Str := ["self", "other"]
theorem sc_Mixer___eq__ : FnScope N_Mixer___eq__ ["self", "other"] (defScope s_Mixer___eq__) := ⟨rfl, rfl, rfl, by decide +kernel, rfl, by decide +kernel, by decide +kernel⟩
/-- what the top has left -/
structure Top (K : PySem.W.Frag) (mg : Str → Option Value) where
  C_Mixer : Addr
  gc_Mixer : mg "Mixer" = some (.ref C_Mixer)
  cl_Mixer : Cls K C_Mixer
  ic_Mixer : C8.InsC K C_Mixer
  f_Mixer___eq__ : Addr
  ec_Mixer : EqC K C_Mixer f_Mixer___eq__
  na_Mixer_many : NoAttr K C_Mixer "many"
  na_Mixer_rows : NoAttr K C_Mixer "rows"
  f_is_whole : Addr
  fd_is_whole : FuncData
  F_is_whole : FunD K "is_whole" "is_whole" (defArgs s_is_whole) (defBody s_is_whole) (defScope s_is_whole) [] [] f_is_whole fd_is_whole
  b_is_whole : Binds K fd_is_whole ["value"] []
  g_is_whole : mg "is_whole" = some (.ref f_is_whole)
  f_is_between : Addr
  fd_is_between : FuncData
  F_is_between : FunD K "is_between" "is_between" (defArgs s_is_between) (defBody s_is_between) (defScope s_is_between) [] [] f_is_between fd_is_between
  b_is_between : Binds K fd_is_between ["value", "low", "high"] []
  g_is_between : mg "is_between" = some (.ref f_is_between)
  f_are_wholes : Addr
  fd_are_wholes : FuncData
  F_are_wholes : FunD K "are_wholes" "are_wholes" (defArgs s_are_wholes) (defBody s_are_wholes) (defScope s_are_wholes) [] [] f_are_wholes fd_are_wholes
  b_are_wholes : Binds K fd_are_wholes ["value"] []
  g_are_wholes : mg "are_wholes" = some (.ref f_are_wholes)
  f_check_number : Addr
  fd_check_number : FuncData
  F_check_number : FunD K "check_number" "check_number" (defArgs s_check_number) (defBody s_check_number) (defScope s_check_number) [] [] f_check_number fd_check_number
  b_check_number : Binds K fd_check_number ["number", "low", "high"] []
  g_check_number : mg "check_number" = some (.ref f_check_number)
  f_is_lift : Addr
  fd_is_lift : FuncData
  F_is_lift : FunD K "is_lift" "is_lift" (defArgs s_is_lift) (defBody s_is_lift) (defScope s_is_lift) [] [] f_is_lift fd_is_lift
  b_is_lift : Binds K fd_is_lift ["value", "wide"] []
  g_is_lift : mg "is_lift" = some (.ref f_is_lift)
  f_is_step : Addr
  fd_is_step : FuncData
  F_is_step : FunD K "is_step" "is_step" (defArgs s_is_step) (defBody s_is_step) (defScope s_is_step) [] [] f_is_step fd_is_step
  b_is_step : Binds K fd_is_step ["value", "wide"] []
  g_is_step : mg "is_step" = some (.ref f_is_step)
  f_closed : Addr
  fd_closed : FuncData
  F_closed : FunD K "closed" "closed" (defArgs s_closed) (defBody s_closed) (defScope s_closed) [] [] f_closed fd_closed
  b_closed : Binds K fd_closed ["step"] []
  g_closed : mg "closed" = some (.ref f_closed)
  f_opened : Addr
  fd_opened : FuncData
  F_opened : FunD K "opened" "opened" (defArgs s_opened) (defBody s_opened) (defScope s_opened) [] [] f_opened fd_opened
  b_opened : Binds K fd_opened ["row"] []
  g_opened : mg "opened" = some (.ref f_opened)
  f_check_mixer : Addr
  fd_check_mixer : FuncData
  F_check_mixer : FunD K "check_mixer" "check_mixer" (defArgs s_check_mixer) (defBody s_check_mixer) (defScope s_check_mixer) [] [] f_check_mixer fd_check_mixer
  b_check_mixer : Binds K fd_check_mixer ["mixer"] []
  g_check_mixer : mg "check_mixer" = some (.ref f_check_mixer)
  f_check_both : Addr
  fd_check_both : FuncData
  F_check_both : FunD K "check_both" "check_both" (defArgs s_check_both) (defBody s_check_both) (defScope s_check_both) [] [] f_check_both fd_check_both
  b_check_both : Binds K fd_check_both ["one", "other"] []
  g_check_both : mg "check_both" = some (.ref f_check_both)
  f_check_moment : Addr
  fd_check_moment : FuncData
  F_check_moment : FunD K "check_moment" "check_moment" (defArgs s_check_moment) (defBody s_check_moment) (defScope s_check_moment) [] [] f_check_moment fd_check_moment
  b_check_moment : Binds K fd_check_moment ["mixer", "samples"] []
  g_check_moment : mg "check_moment" = some (.ref f_check_moment)
  f_summed : Addr
  fd_summed : FuncData
  F_summed : FunD K "summed" "summed" (defArgs s_summed) (defBody s_summed) (defScope s_summed) [] [] f_summed fd_summed
  b_summed : Binds K fd_summed ["weights", "numbers"] []
  g_summed : mg "summed" = some (.ref f_summed)
  f_stepped : Addr
  fd_stepped : FuncData
  F_stepped : FunD K "stepped" "stepped" (defArgs s_stepped) (defBody s_stepped) (defScope s_stepped) [.int 1] [] f_stepped fd_stepped
  b_stepped : Binds K fd_stepped ["row", "numbers", "way"] []
  g_stepped : mg "stepped" = some (.ref f_stepped)
  e0_stepped : List Value
  v0_stepped : Vals [.int 1] e0_stepped
  b0_stepped : Binds K fd_stepped ["row", "numbers", "way"] e0_stepped
  f_played : Addr
  fd_played : FuncData
  F_played : FunD K "played" "played" (defArgs s_played) (defBody s_played) (defScope s_played) [] [] f_played fd_played
  b_played : Binds K fd_played ["rows", "numbers"] []
  g_played : mg "played" = some (.ref f_played)
  f_mixed : Addr
  fd_mixed : FuncData
  F_mixed : FunD K "mixed" "mixed" (defArgs s_mixed) (defBody s_mixed) (defScope s_mixed) [] [] f_mixed fd_mixed
  b_mixed : Binds K fd_mixed ["mixer", "samples"] []
  g_mixed : mg "mixed" = some (.ref f_mixed)
  f_unmixed : Addr
  fd_unmixed : FuncData
  F_unmixed : FunD K "unmixed" "unmixed" (defArgs s_unmixed) (defBody s_unmixed) (defScope s_unmixed) [] [] f_unmixed fd_unmixed
  b_unmixed : Binds K fd_unmixed ["mixer", "samples"] []
  g_unmixed : mg "unmixed" = some (.ref f_unmixed)
  f_shifts_of : Addr
  fd_shifts_of : FuncData
  F_shifts_of : FunD K "shifts_of" "shifts_of" (defArgs s_shifts_of) (defBody s_shifts_of) (defScope s_shifts_of) [] [] f_shifts_of fd_shifts_of
  b_shifts_of : Binds K fd_shifts_of ["rows"] []
  g_shifts_of : mg "shifts_of" = some (.ref f_shifts_of)
  f_numbers_of : Addr
  fd_numbers_of : FuncData
  F_numbers_of : FunD K "numbers_of" "numbers_of" (defArgs s_numbers_of) (defBody s_numbers_of) (defScope s_numbers_of) [] [] f_numbers_of fd_numbers_of
  b_numbers_of : Binds K fd_numbers_of ["rows", "wide"] []
  g_numbers_of : mg "numbers_of" = some (.ref f_numbers_of)
  f_made : Addr
  fd_made : FuncData
  F_made : FunD K "made" "made" (defArgs s_made) (defBody s_made) (defScope s_made) [] [] f_made fd_made
  b_made : Binds K fd_made ["wide", "rows"] []
  g_made : mg "made" = some (.ref f_made)
  f_back_rows : Addr
  fd_back_rows : FuncData
  F_back_rows : FunD K "back_rows" "back_rows" (defArgs s_back_rows) (defBody s_back_rows) (defScope s_back_rows) [] [] f_back_rows fd_back_rows
  b_back_rows : Binds K fd_back_rows ["row"] []
  g_back_rows : mg "back_rows" = some (.ref f_back_rows)
  f_undoing : Addr
  fd_undoing : FuncData
  F_undoing : FunD K "undoing" "undoing" (defArgs s_undoing) (defBody s_undoing) (defScope s_undoing) [] [] f_undoing fd_undoing
  b_undoing : Binds K fd_undoing ["mixer"] []
  g_undoing : mg "undoing" = some (.ref f_undoing)
  f_joined_mixers : Addr
  fd_joined_mixers : FuncData
  F_joined_mixers : FunD K "joined_mixers" "joined_mixers" (defArgs s_joined_mixers) (defBody s_joined_mixers) (defScope s_joined_mixers) [] [] f_joined_mixers fd_joined_mixers
  b_joined_mixers : Binds K fd_joined_mixers ["one", "other"] []
  g_joined_mixers : mg "joined_mixers" = some (.ref f_joined_mixers)
  f_paired : Addr
  fd_paired : FuncData
  F_paired : FunD K "paired" "paired" (defArgs s_paired) (defBody s_paired) (defScope s_paired) [] [] f_paired fd_paired
  b_paired : Binds K fd_paired ["row", "behind"] []
  g_paired : mg "paired" = some (.ref f_paired)
  f_tidied : Addr
  fd_tidied : FuncData
  F_tidied : FunD K "tidied" "tidied" (defArgs s_tidied) (defBody s_tidied) (defScope s_tidied) [] [] f_tidied fd_tidied
  b_tidied : Binds K fd_tidied ["rows"] []
  g_tidied : mg "tidied" = some (.ref f_tidied)
  f_tidy : Addr
  fd_tidy : FuncData
  F_tidy : FunD K "tidy" "tidy" (defArgs s_tidy) (defBody s_tidy) (defScope s_tidy) [] [] f_tidy fd_tidy
  b_tidy : Binds K fd_tidy ["mixer"] []
  g_tidy : mg "tidy" = some (.ref f_tidy)
  f_every_rest : Addr
  fd_every_rest : FuncData
  F_every_rest : FunD K "every_rest" "every_rest" (defArgs s_every_rest) (defBody s_every_rest) (defScope s_every_rest) [] [] f_every_rest fd_every_rest
  b_every_rest : Binds K fd_every_rest ["wide", "bits"] []
  g_every_rest : mg "every_rest" = some (.ref f_every_rest)
  f_are_alike : Addr
  fd_are_alike : FuncData
  F_are_alike : FunD K "are_alike" "are_alike" (defArgs s_are_alike) (defBody s_are_alike) (defScope s_are_alike) [] [] f_are_alike fd_are_alike
  b_are_alike : Binds K fd_are_alike ["one", "other"] []
  g_are_alike : mg "are_alike" = some (.ref f_are_alike)
  f_same_mix : Addr
  fd_same_mix : FuncData
  F_same_mix : FunD K "same_mix" "same_mix" (defArgs s_same_mix) (defBody s_same_mix) (defScope s_same_mix) [] [] f_same_mix fd_same_mix
  b_same_mix : Binds K fd_same_mix ["one", "other"] []
  g_same_mix : mg "same_mix" = some (.ref f_same_mix)
  f_commute : Addr
  fd_commute : FuncData
  F_commute : FunD K "commute" "commute" (defArgs s_commute) (defBody s_commute) (defScope s_commute) [] [] f_commute fd_commute
  b_commute : Binds K fd_commute ["one", "other"] []
  g_commute : mg "commute" = some (.ref f_commute)
  f_law_purse : Addr
  fd_law_purse : FuncData
  F_law_purse : FunD K "_law_purse" "_law_purse" (defArgs s_law_purse) (defBody s_law_purse) (defScope s_law_purse) [] [] f_law_purse fd_law_purse
  b_law_purse : Binds K fd_law_purse ["_law_script", "_law_at"] []
  g_law_purse : mg "_law_purse" = some (.ref f_law_purse)
  f_law_draw : Addr
  fd_law_draw : FuncData
  F_law_draw : FunD K "_law_draw" "_law_draw" (defArgs s_law_draw) (defBody s_law_draw) (defScope s_law_draw) [] [] f_law_draw fd_law_draw
  b_law_draw : Binds K fd_law_draw ["_law_purse_here", "_law_many"] []
  g_law_draw : mg "_law_draw" = some (.ref f_law_draw)
  f_law_number : Addr
  fd_law_number : FuncData
  F_law_number : FunD K "_law_number" "_law_number" (defArgs s_law_number) (defBody s_law_number) (defScope s_law_number) [] [] f_law_number fd_law_number
  b_law_number : Binds K fd_law_number ["_law_purse_here"] []
  g_law_number : mg "_law_number" = some (.ref f_law_number)
  f_law_weight : Addr
  fd_law_weight : FuncData
  F_law_weight : FunD K "_law_weight" "_law_weight" (defArgs s_law_weight) (defBody s_law_weight) (defScope s_law_weight) [] [] f_law_weight fd_law_weight
  b_law_weight : Binds K fd_law_weight ["_law_purse_here"] []
  g_law_weight : mg "_law_weight" = some (.ref f_law_weight)
  f_law_lift : Addr
  fd_law_lift : FuncData
  F_law_lift : FunD K "_law_lift" "_law_lift" (defArgs s_law_lift) (defBody s_law_lift) (defScope s_law_lift) [] [] f_law_lift fd_law_lift
  b_law_lift : Binds K fd_law_lift ["_law_purse_here", "_law_broad", "_law_most"] []
  g_law_lift : mg "_law_lift" = some (.ref f_law_lift)
  f_law_steps : Addr
  fd_law_steps : FuncData
  F_law_steps : FunD K "_law_steps" "_law_steps" (defArgs s_law_steps) (defBody s_law_steps) (defScope s_law_steps) [] [] f_law_steps fd_law_steps
  b_law_steps : Binds K fd_law_steps ["_law_purse_here", "_law_broad", "_law_many", "_law_bits_here"] []
  g_law_steps : mg "_law_steps" = some (.ref f_law_steps)
  f_law_copied : Addr
  fd_law_copied : FuncData
  F_law_copied : FunD K "_law_copied" "_law_copied" (defArgs s_law_copied) (defBody s_law_copied) (defScope s_law_copied) [] [] f_law_copied fd_law_copied
  b_law_copied : Binds K fd_law_copied ["_law_steps_here"] []
  g_law_copied : mg "_law_copied" = some (.ref f_law_copied)
  f_law_stepped : Addr
  fd_law_stepped : FuncData
  F_law_stepped : FunD K "_law_stepped" "_law_stepped" (defArgs s_law_stepped) (defBody s_law_stepped) (defScope s_law_stepped) [] [] f_law_stepped fd_law_stepped
  b_law_stepped : Binds K fd_law_stepped ["_law_step", "_law_row", "_law_way"] []
  g_law_stepped : mg "_law_stepped" = some (.ref f_law_stepped)
  f_law_played : Addr
  fd_law_played : FuncData
  F_law_played : FunD K "_law_played" "_law_played" (defArgs s_law_played) (defBody s_law_played) (defScope s_law_played) [] [] f_law_played fd_law_played
  b_law_played : Binds K fd_law_played ["_law_steps_here", "_law_row"] []
  g_law_played : mg "_law_played" = some (.ref f_law_played)
  f_law_bits : Addr
  fd_law_bits : FuncData
  F_law_bits : FunD K "_law_bits" "_law_bits" (defArgs s_law_bits) (defBody s_law_bits) (defScope s_law_bits) [] [] f_law_bits fd_law_bits
  b_law_bits : Binds K fd_law_bits ["_law_steps_here"] []
  g_law_bits : mg "_law_bits" = some (.ref f_law_bits)
  f_law_lists : Addr
  fd_law_lists : FuncData
  F_law_lists : FunD K "_law_lists" "_law_lists" (defArgs s_law_lists) (defBody s_law_lists) (defScope s_law_lists) [] [] f_law_lists fd_law_lists
  b_law_lists : Binds K fd_law_lists ["_law_broad", "_law_low", "_law_high"] []
  g_law_lists : mg "_law_lists" = some (.ref f_law_lists)
  f_law_lifts_of : Addr
  fd_law_lifts_of : FuncData
  F_law_lifts_of : FunD K "_law_lifts_of" "_law_lifts_of" (defArgs s_law_lifts_of) (defBody s_law_lifts_of) (defScope s_law_lifts_of) [] [] f_law_lifts_of fd_law_lifts_of
  b_law_lifts_of : Binds K fd_law_lifts_of ["_law_steps_here"] []
  g_law_lifts_of : mg "_law_lifts_of" = some (.ref f_law_lifts_of)
  f_law_undone : Addr
  fd_law_undone : FuncData
  F_law_undone : FunD K "_law_undone" "_law_undone" (defArgs s_law_undone) (defBody s_law_undone) (defScope s_law_undone) [] [] f_law_undone fd_law_undone
  b_law_undone : Binds K fd_law_undone ["_law_steps_here"] []
  g_law_undone : mg "_law_undone" = some (.ref f_law_undone)
  f_law_pair : Addr
  fd_law_pair : FuncData
  F_law_pair : FunD K "_law_pair" "_law_pair" (defArgs s_law_pair) (defBody s_law_pair) (defScope s_law_pair) [] [] f_law_pair fd_law_pair
  b_law_pair : Binds K fd_law_pair ["_law_step", "_law_later"] []
  g_law_pair : mg "_law_pair" = some (.ref f_law_pair)
  f_law_shorter : Addr
  fd_law_shorter : FuncData
  F_law_shorter : FunD K "_law_shorter" "_law_shorter" (defArgs s_law_shorter) (defBody s_law_shorter) (defScope s_law_shorter) [] [] f_law_shorter fd_law_shorter
  b_law_shorter : Binds K fd_law_shorter ["_law_steps_here"] []
  g_law_shorter : mg "_law_shorter" = some (.ref f_law_shorter)
  f_law_tidied : Addr
  fd_law_tidied : FuncData
  F_law_tidied : FunD K "_law_tidied" "_law_tidied" (defArgs s_law_tidied) (defBody s_law_tidied) (defScope s_law_tidied) [] [] f_law_tidied fd_law_tidied
  b_law_tidied : Binds K fd_law_tidied ["_law_steps_here"] []
  g_law_tidied : mg "_law_tidied" = some (.ref f_law_tidied)
  f_law_filled : Addr
  fd_law_filled : FuncData
  F_law_filled : FunD K "_law_filled" "_law_filled" (defArgs s_law_filled) (defBody s_law_filled) (defScope s_law_filled) [] [] f_law_filled fd_law_filled
  b_law_filled : Binds K fd_law_filled ["_law_purse_here", "_law_steps_here", "_law_wide"] []
  g_law_filled : mg "_law_filled" = some (.ref f_law_filled)
  f_law_mixes_right : Addr
  fd_law_mixes_right : FuncData
  F_law_mixes_right : FunD K "_law_mixes_right" "_law_mixes_right" (defArgs s_law_mixes_right) (defBody s_law_mixes_right) (defScope s_law_mixes_right) [] [] f_law_mixes_right fd_law_mixes_right
  b_law_mixes_right : Binds K fd_law_mixes_right ["_law_purse_here", "_law_mixer", "_law_other", "_law_back", "_law_both", "_law_wide"] []
  g_law_mixes_right : mg "_law_mixes_right" = some (.ref f_law_mixes_right)
  f_law : Addr
  fd_law : FuncData
  F_law : FunD K "law" "law" (defArgs s_law) (defBody s_law) (defScope s_law) [] [] f_law fd_law
  b_law : Binds K fd_law ["_law_script"] []
  g_law : mg "law" = some (.ref f_law)
  f_Mixer___init__ : Addr
  fd_Mixer___init__ : FuncData
  F_Mixer___init__ : FunD K "__init__" "Mixer.__init__" (defArgs s_Mixer___init__) (defBody s_Mixer___init__) (defScope s_Mixer___init__) [] [] f_Mixer___init__ fd_Mixer___init__
  b_Mixer___init__ : Binds K fd_Mixer___init__ ["self", "wide", "steps"] []
  me_Mixer___init__ : Meth K C_Mixer "__init__" f_Mixer___init__
  mk_Mixer : Mk K C_Mixer f_Mixer___init__
  f_Mixer_wide : Addr
  fd_Mixer_wide : FuncData
  F_Mixer_wide : FunD K "wide" "Mixer.wide" (defArgs s_Mixer_wide) (defBody s_Mixer_wide) (defScope s_Mixer_wide) [] [] f_Mixer_wide fd_Mixer_wide
  b_Mixer_wide : Binds K fd_Mixer_wide ["self"] []
  me_Mixer_wide : Meth K C_Mixer "wide" f_Mixer_wide
  f_Mixer_steps : Addr
  fd_Mixer_steps : FuncData
  F_Mixer_steps : FunD K "steps" "Mixer.steps" (defArgs s_Mixer_steps) (defBody s_Mixer_steps) (defScope s_Mixer_steps) [] [] f_Mixer_steps fd_Mixer_steps
  b_Mixer_steps : Binds K fd_Mixer_steps ["self"] []
  me_Mixer_steps : Meth K C_Mixer "steps" f_Mixer_steps
  fd_Mixer___eq__ : FuncData
  F_Mixer___eq__ : FunD K "__eq__" "Mixer.__eq__" (defArgs s_Mixer___eq__) (defBody s_Mixer___eq__) (defScope s_Mixer___eq__) [] [] f_Mixer___eq__ fd_Mixer___eq__
  b_Mixer___eq__ : Binds K fd_Mixer___eq__ ["self", "other"] []
  me_Mixer___eq__ : Meth K C_Mixer "__eq__" f_Mixer___eq__
  n_len : mg "len" = none
  n_sum : mg "sum" = none
  n_max : mg "max" = none
  n_min : mg "min" = none
  n_int : mg "int" = none
  n_bool : mg "bool" = none
  n_list : mg "list" = none
  n_tuple : mg "tuple" = none
  n_range : mg "range" = none
  n_isinstance : mg "isinstance" = none
  n_enumerate : mg "enumerate" = none
  n_zip : mg "zip" = none
  n_sorted : mg "sorted" = none
  n_all : mg "all" = none
  n_any : mg "any" = none
  t_MOST_WAYS : Tok
  m_MOST_WAYS : mg "MOST_WAYS" = some (.int 4 t_MOST_WAYS)
def d_is_whole : He.DefD := ⟨("is_whole", none), "is_whole", "is_whole", defArgs s_is_whole, defBody s_is_whole, defScope s_is_whole, [], []⟩
def d_is_between : He.DefD := ⟨("is_between", none), "is_between", "is_between", defArgs s_is_between, defBody s_is_between, defScope s_is_between, [], []⟩
def d_are_wholes : He.DefD := ⟨("are_wholes", none), "are_wholes", "are_wholes", defArgs s_are_wholes, defBody s_are_wholes, defScope s_are_wholes, [], []⟩
def d_check_number : He.DefD := ⟨("check_number", none), "check_number", "check_number", defArgs s_check_number, defBody s_check_number, defScope s_check_number, [], []⟩
def d_is_lift : He.DefD := ⟨("is_lift", none), "is_lift", "is_lift", defArgs s_is_lift, defBody s_is_lift, defScope s_is_lift, [], []⟩
def d_is_step : He.DefD := ⟨("is_step", none), "is_step", "is_step", defArgs s_is_step, defBody s_is_step, defScope s_is_step, [], []⟩
def d_closed : He.DefD := ⟨("closed", none), "closed", "closed", defArgs s_closed, defBody s_closed, defScope s_closed, [], []⟩
def d_opened : He.DefD := ⟨("opened", none), "opened", "opened", defArgs s_opened, defBody s_opened, defScope s_opened, [], []⟩
def d_check_mixer : He.DefD := ⟨("check_mixer", none), "check_mixer", "check_mixer", defArgs s_check_mixer, defBody s_check_mixer, defScope s_check_mixer, [], []⟩
def d_check_both : He.DefD := ⟨("check_both", none), "check_both", "check_both", defArgs s_check_both, defBody s_check_both, defScope s_check_both, [], []⟩
def d_check_moment : He.DefD := ⟨("check_moment", none), "check_moment", "check_moment", defArgs s_check_moment, defBody s_check_moment, defScope s_check_moment, [], []⟩
def d_summed : He.DefD := ⟨("summed", none), "summed", "summed", defArgs s_summed, defBody s_summed, defScope s_summed, [], []⟩
def d_stepped : He.DefD := ⟨("stepped", none), "stepped", "stepped", defArgs s_stepped, defBody s_stepped, defScope s_stepped, [.int 1], []⟩
def d_played : He.DefD := ⟨("played", none), "played", "played", defArgs s_played, defBody s_played, defScope s_played, [], []⟩
def d_mixed : He.DefD := ⟨("mixed", none), "mixed", "mixed", defArgs s_mixed, defBody s_mixed, defScope s_mixed, [], []⟩
def d_unmixed : He.DefD := ⟨("unmixed", none), "unmixed", "unmixed", defArgs s_unmixed, defBody s_unmixed, defScope s_unmixed, [], []⟩
def d_shifts_of : He.DefD := ⟨("shifts_of", none), "shifts_of", "shifts_of", defArgs s_shifts_of, defBody s_shifts_of, defScope s_shifts_of, [], []⟩
def d_numbers_of : He.DefD := ⟨("numbers_of", none), "numbers_of", "numbers_of", defArgs s_numbers_of, defBody s_numbers_of, defScope s_numbers_of, [], []⟩
def d_made : He.DefD := ⟨("made", none), "made", "made", defArgs s_made, defBody s_made, defScope s_made, [], []⟩
def d_back_rows : He.DefD := ⟨("back_rows", none), "back_rows", "back_rows", defArgs s_back_rows, defBody s_back_rows, defScope s_back_rows, [], []⟩
def d_undoing : He.DefD := ⟨("undoing", none), "undoing", "undoing", defArgs s_undoing, defBody s_undoing, defScope s_undoing, [], []⟩
def d_joined_mixers : He.DefD := ⟨("joined_mixers", none), "joined_mixers", "joined_mixers", defArgs s_joined_mixers, defBody s_joined_mixers, defScope s_joined_mixers, [], []⟩
def d_paired : He.DefD := ⟨("paired", none), "paired", "paired", defArgs s_paired, defBody s_paired, defScope s_paired, [], []⟩
def d_tidied : He.DefD := ⟨("tidied", none), "tidied", "tidied", defArgs s_tidied, defBody s_tidied, defScope s_tidied, [], []⟩
def d_tidy : He.DefD := ⟨("tidy", none), "tidy", "tidy", defArgs s_tidy, defBody s_tidy, defScope s_tidy, [], []⟩
def d_every_rest : He.DefD := ⟨("every_rest", none), "every_rest", "every_rest", defArgs s_every_rest, defBody s_every_rest, defScope s_every_rest, [], []⟩
def d_are_alike : He.DefD := ⟨("are_alike", none), "are_alike", "are_alike", defArgs s_are_alike, defBody s_are_alike, defScope s_are_alike, [], []⟩
def d_same_mix : He.DefD := ⟨("same_mix", none), "same_mix", "same_mix", defArgs s_same_mix, defBody s_same_mix, defScope s_same_mix, [], []⟩
def d_commute : He.DefD := ⟨("commute", none), "commute", "commute", defArgs s_commute, defBody s_commute, defScope s_commute, [], []⟩
def d_law_purse : He.DefD := ⟨("_law_purse", none), "_law_purse", "_law_purse", defArgs s_law_purse, defBody s_law_purse, defScope s_law_purse, [], []⟩
def d_law_draw : He.DefD := ⟨("_law_draw", none), "_law_draw", "_law_draw", defArgs s_law_draw, defBody s_law_draw, defScope s_law_draw, [], []⟩
def d_law_number : He.DefD := ⟨("_law_number", none), "_law_number", "_law_number", defArgs s_law_number, defBody s_law_number, defScope s_law_number, [], []⟩
def d_law_weight : He.DefD := ⟨("_law_weight", none), "_law_weight", "_law_weight", defArgs s_law_weight, defBody s_law_weight, defScope s_law_weight, [], []⟩
def d_law_lift : He.DefD := ⟨("_law_lift", none), "_law_lift", "_law_lift", defArgs s_law_lift, defBody s_law_lift, defScope s_law_lift, [], []⟩
def d_law_steps : He.DefD := ⟨("_law_steps", none), "_law_steps", "_law_steps", defArgs s_law_steps, defBody s_law_steps, defScope s_law_steps, [], []⟩
def d_law_copied : He.DefD := ⟨("_law_copied", none), "_law_copied", "_law_copied", defArgs s_law_copied, defBody s_law_copied, defScope s_law_copied, [], []⟩
def d_law_stepped : He.DefD := ⟨("_law_stepped", none), "_law_stepped", "_law_stepped", defArgs s_law_stepped, defBody s_law_stepped, defScope s_law_stepped, [], []⟩
def d_law_played : He.DefD := ⟨("_law_played", none), "_law_played", "_law_played", defArgs s_law_played, defBody s_law_played, defScope s_law_played, [], []⟩
def d_law_bits : He.DefD := ⟨("_law_bits", none), "_law_bits", "_law_bits", defArgs s_law_bits, defBody s_law_bits, defScope s_law_bits, [], []⟩
def d_law_lists : He.DefD := ⟨("_law_lists", none), "_law_lists", "_law_lists", defArgs s_law_lists, defBody s_law_lists, defScope s_law_lists, [], []⟩
def d_law_lifts_of : He.DefD := ⟨("_law_lifts_of", none), "_law_lifts_of", "_law_lifts_of", defArgs s_law_lifts_of, defBody s_law_lifts_of, defScope s_law_lifts_of, [], []⟩
def d_law_undone : He.DefD := ⟨("_law_undone", none), "_law_undone", "_law_undone", defArgs s_law_undone, defBody s_law_undone, defScope s_law_undone, [], []⟩
def d_law_pair : He.DefD := ⟨("_law_pair", none), "_law_pair", "_law_pair", defArgs s_law_pair, defBody s_law_pair, defScope s_law_pair, [], []⟩
def d_law_shorter : He.DefD := ⟨("_law_shorter", none), "_law_shorter", "_law_shorter", defArgs s_law_shorter, defBody s_law_shorter, defScope s_law_shorter, [], []⟩
def d_law_tidied : He.DefD := ⟨("_law_tidied", none), "_law_tidied", "_law_tidied", defArgs s_law_tidied, defBody s_law_tidied, defScope s_law_tidied, [], []⟩
def d_law_filled : He.DefD := ⟨("_law_filled", none), "_law_filled", "_law_filled", defArgs s_law_filled, defBody s_law_filled, defScope s_law_filled, [], []⟩
def d_law_mixes_right : He.DefD := ⟨("_law_mixes_right", none), "_law_mixes_right", "_law_mixes_right", defArgs s_law_mixes_right, defBody s_law_mixes_right, defScope s_law_mixes_right, [], []⟩
def d_law : He.DefD := ⟨("law", none), "law", "law", defArgs s_law, defBody s_law, defScope s_law, [], []⟩
def d_Mixer___init__ : He.DefD := ⟨("Mixer", some "__init__"), "__init__", "Mixer.__init__", defArgs s_Mixer___init__, defBody s_Mixer___init__, defScope s_Mixer___init__, [], []⟩
def d_Mixer_wide : He.DefD := ⟨("Mixer", some "wide"), "wide", "Mixer.wide", defArgs s_Mixer_wide, defBody s_Mixer_wide, defScope s_Mixer_wide, [], []⟩
def d_Mixer_steps : He.DefD := ⟨("Mixer", some "steps"), "steps", "Mixer.steps", defArgs s_Mixer_steps, defBody s_Mixer_steps, defScope s_Mixer_steps, [], []⟩
def d_Mixer___eq__ : He.DefD := ⟨("Mixer", some "__eq__"), "__eq__", "Mixer.__eq__", defArgs s_Mixer___eq__, defBody s_Mixer___eq__, defScope s_Mixer___eq__, [], []⟩
def fn : List He.DefD := [d_is_whole, d_is_between, d_are_wholes, d_check_number, d_is_lift, d_is_step, d_closed, d_opened, d_check_mixer, d_check_both, d_check_moment, d_summed, d_stepped, d_played, d_mixed, d_unmixed, d_shifts_of, d_numbers_of, d_made, d_back_rows, d_undoing, d_joined_mixers, d_paired, d_tidied, d_tidy, d_every_rest, d_are_alike, d_same_mix, d_commute, d_law_purse, d_law_draw, d_law_number, d_law_weight, d_law_lift, d_law_steps, d_law_copied, d_law_stepped, d_law_played, d_law_bits, d_law_lists, d_law_lifts_of, d_law_undone, d_law_pair, d_law_shorter, d_law_tidied, d_law_filled, d_law_mixes_right, d_law, d_Mixer___init__, d_Mixer_wide, d_Mixer_steps, d_Mixer___eq__]
def fa0 : List He.Fa := [.glo "is_whole", .glo "is_between", .glo "are_wholes", .glo "check_number", .glo "is_lift", .glo "is_step", .glo "closed", .glo "opened", .glo "check_mixer", .glo "check_both", .glo "check_moment", .glo "summed", .glo "stepped", .glo "played", .glo "mixed", .glo "unmixed", .glo "shifts_of", .glo "numbers_of", .glo "made", .glo "back_rows", .glo "undoing", .glo "joined_mixers", .glo "paired", .glo "tidied", .glo "tidy", .glo "every_rest", .glo "are_alike", .glo "same_mix", .glo "commute", .glo "_law_purse"]
def fa1 : List He.Fa := [.glo "_law_draw", .glo "_law_number", .glo "_law_weight", .glo "_law_lift", .glo "_law_steps", .glo "_law_copied", .glo "_law_stepped", .glo "_law_played", .glo "_law_bits", .glo "_law_lists", .glo "_law_lifts_of", .glo "_law_undone", .glo "_law_pair", .glo "_law_shorter", .glo "_law_tidied", .glo "_law_filled", .glo "_law_mixes_right", .glo "law", .free "len", .free "sum", .free "max", .free "min", .free "int", .free "bool", .free "list", .free "tuple", .free "range", .free "isinstance", .free "enumerate", .free "zip"]
def fa2 : List He.Fa := [.free "sorted", .free "all", .free "any", .int "MOST_WAYS" 4, .glo "Mixer", .cls "Mixer", .noat "Mixer" "many", .noat "Mixer" "rows", .mkr "Mixer", .meth "Mixer" "__init__", .meth "Mixer" "wide", .meth "Mixer" "steps", .meth "Mixer" "__eq__"]
def fa : List He.Fa := fa0 ++ fa1 ++ fa2
/-- isinstance of an own class -/
def insB (K : PySem.W.Frag) (x : Str) : Bool := decide (PySem.W.findIn K (.ref (He.ga K x)) "__class__" = some (some (.builtin "object.__class__"))) && (decide (PySem.W.specialIn K (.builtin "object.__class__") "__get__" = some (some (.builtin "getset_descriptor.__get__"))) && (decide (PySem.W.takesIn K (.builtin "object.__class__") = some true) && (decide (PySem.W.mroIn K (He.ga K x) (.type "object") = some true) && decide (PySem.W.kitOne K (.ref (He.ga K x)) (.ref (He.ga K x)) = some true))))
theorem insB_ok {K : PySem.W.Frag} {x : Str} (cl : Cls K (He.ga K x)) (h : insB K x = true) : C8.InsC K (He.ga K x) := by
  unfold insB at h
  simp only [Bool.and_eq_true, decide_eq_true_eq] at h
  exact ⟨cl, h.1, h.2.1, h.2.2.1, h.2.2.2.1, h.2.2.2.2⟩
def eqB (K : PySem.W.Frag) (x : Str) : Bool := decide (PySem.W.findIn K (.ref (He.ga K x)) "__ne__" = some (some (.builtin "object.__ne__"))) && (decide (PySem.W.subIn K (.ref (He.ga K x)) (.type "object") = some true) && (decide (PySem.W.subIn K (.type "list") (.ref (He.ga K x)) = some false) && (decide (PySem.W.kitOne K (.type "list") (.ref (He.ga K x)) = some false) && (decide (PySem.W.subIn K (.type "tuple") (.ref (He.ga K x)) = some false) && decide (PySem.W.kitOne K (.type "tuple") (.ref (He.ga K x)) = some false)))))
theorem eqB_ok {K : PySem.W.Frag} {x : Str} {f : Addr} (m : Meth K (He.ga K x) "__eq__" f) (h : eqB K x = true) : EqC K (He.ga K x) f := by
  unfold eqB at h
  simp only [Bool.and_eq_true, decide_eq_true_eq] at h
  exact ⟨m.at_, m.fn, h.1, h.2.1, h.2.2.1, h.2.2.2.1, h.2.2.2.2.1, h.2.2.2.2.2⟩
def eqs : List Str := ["Mixer"]
def own : List Str := ["Mixer"]
def ex (K : PySem.W.Frag) : Bool := (own.all fun x => insB K x) && eqs.all fun x => eqB K x
abbrev R : PySem.W.OpenRow := PySem.W.OpenLaw.row PySem.Challenge.rw_wholesound_k37_undone_joined_and_tidied
abbrev Al : Type := He.AlD × Bool
def obsG (g : Addr → Option Obj) : Al := (He.obsDG 5 fa fn g, ex (He.frG g (He.asD g 5)))
def Says (K : PySem.W.Frag) : Prop := He.SaysD fa fn K ∧ ex K = true
def hk : PySem.W.Hook where
  α := Al
  obs := fun s => obsG s.heap.get?
  val := fun _ => (He.valD fn, true)
  says := fun _ h => ∃ K : PySem.W.Frag, K.In h ∧ Says K
  of := fun _ _ e => ⟨_, He.frG_in, congrArg Prod.fst e, congrArg Prod.snd e⟩
  keeps := fun _ _ _ ⟨K, hK, c⟩ k => ⟨K, PySem.W.Frag.In.keeps hK k, c⟩
def ob (s : PySem.W.SharedT) : Al := obsG (HandSHeadRun.getT s)
theorem ob_eq (s : PySem.W.SharedT) : ob s = hk.obs s.abs := by
  have e : HandSHeadRun.getT s = s.abs.heap.get? := funext (HandSHeadRun.getT_eq s)
  show obsG (HandSHeadRun.getT s) = obsG s.abs.heap.get?
  rw [e]
def loose0 : List PySem.Str := ["SoundError", "InvalidNumber", "InvalidList", "InvalidItem", "InvalidMixer", "InvalidSamples", "Unlike", "is_whole", "is_between", "are_wholes", "check_number", "MOST_WAYS", "is_lift", "is_step", "closed", "opened", "Mixer", "check_mixer", "check_both", "check_moment", "summed", "stepped", "played", "mixed", "unmixed", "shifts_of", "numbers_of", "made", "back_rows", "undoing"]
def loose1 : List PySem.Str := ["joined_mixers", "paired", "tidied", "tidy", "every_rest", "are_alike", "same_mix", "commute", "_law_purse", "_law_draw", "_law_number", "_law_weight", "_law_lift", "_law_steps", "_law_copied", "_law_stepped", "_law_played", "_law_bits", "_law_lists", "_law_lifts_of", "_law_undone", "_law_pair", "_law_shorter", "_law_tidied", "_law_filled", "_law_mixes_right"]
abbrev loose : List PySem.Str := loose0 ++ loose1
theorem run (w : World) : HandSHeadRun.RunEq R (PySem.W.view R.prog [61]) hk ob 8000 loose w := by
  intro os
  kernel_rfl
noncomputable def top_mk {K : PySem.W.Frag} {h : Heap} {mg : Str → Option Value} (X : K.In h) (G : h.Ns mainGlobals mg) (c : Says K) : Top K mg :=
  let p0 := c.1.def_ 0 (d := d_is_whole) rfl
  let p1 := c.1.def_ 1 (d := d_is_between) rfl
  let p2 := c.1.def_ 2 (d := d_are_wholes) rfl
  let p3 := c.1.def_ 3 (d := d_check_number) rfl
  let p4 := c.1.def_ 4 (d := d_is_lift) rfl
  let p5 := c.1.def_ 5 (d := d_is_step) rfl
  let p6 := c.1.def_ 6 (d := d_closed) rfl
  let p7 := c.1.def_ 7 (d := d_opened) rfl
  let p8 := c.1.def_ 8 (d := d_check_mixer) rfl
  let p9 := c.1.def_ 9 (d := d_check_both) rfl
  let p10 := c.1.def_ 10 (d := d_check_moment) rfl
  let p11 := c.1.def_ 11 (d := d_summed) rfl
  let p12 := c.1.def_ 12 (d := d_stepped) rfl
  let p13 := c.1.def_ 13 (d := d_played) rfl
  let p14 := c.1.def_ 14 (d := d_mixed) rfl
  let p15 := c.1.def_ 15 (d := d_unmixed) rfl
  let p16 := c.1.def_ 16 (d := d_shifts_of) rfl
  let p17 := c.1.def_ 17 (d := d_numbers_of) rfl
  let p18 := c.1.def_ 18 (d := d_made) rfl
  let p19 := c.1.def_ 19 (d := d_back_rows) rfl
  let p20 := c.1.def_ 20 (d := d_undoing) rfl
  let p21 := c.1.def_ 21 (d := d_joined_mixers) rfl
  let p22 := c.1.def_ 22 (d := d_paired) rfl
  let p23 := c.1.def_ 23 (d := d_tidied) rfl
  let p24 := c.1.def_ 24 (d := d_tidy) rfl
  let p25 := c.1.def_ 25 (d := d_every_rest) rfl
  let p26 := c.1.def_ 26 (d := d_are_alike) rfl
  let p27 := c.1.def_ 27 (d := d_same_mix) rfl
  let p28 := c.1.def_ 28 (d := d_commute) rfl
  let p29 := c.1.def_ 29 (d := d_law_purse) rfl
  let p30 := c.1.def_ 30 (d := d_law_draw) rfl
  let p31 := c.1.def_ 31 (d := d_law_number) rfl
  let p32 := c.1.def_ 32 (d := d_law_weight) rfl
  let p33 := c.1.def_ 33 (d := d_law_lift) rfl
  let p34 := c.1.def_ 34 (d := d_law_steps) rfl
  let p35 := c.1.def_ 35 (d := d_law_copied) rfl
  let p36 := c.1.def_ 36 (d := d_law_stepped) rfl
  let p37 := c.1.def_ 37 (d := d_law_played) rfl
  let p38 := c.1.def_ 38 (d := d_law_bits) rfl
  let p39 := c.1.def_ 39 (d := d_law_lists) rfl
  let p40 := c.1.def_ 40 (d := d_law_lifts_of) rfl
  let p41 := c.1.def_ 41 (d := d_law_undone) rfl
  let p42 := c.1.def_ 42 (d := d_law_pair) rfl
  let p43 := c.1.def_ 43 (d := d_law_shorter) rfl
  let p44 := c.1.def_ 44 (d := d_law_tidied) rfl
  let p45 := c.1.def_ 45 (d := d_law_filled) rfl
  let p46 := c.1.def_ 46 (d := d_law_mixes_right) rfl
  let p47 := c.1.def_ 47 (d := d_law) rfl
  let p48 := c.1.def_ 48 (d := d_Mixer___init__) rfl
  let p49 := c.1.def_ 49 (d := d_Mixer_wide) rfl
  let p50 := c.1.def_ 50 (d := d_Mixer_steps) rfl
  let p51 := c.1.def_ 51 (d := d_Mixer___eq__) rfl
  let q0 := He.int_ok X G (c.1.fact 63 (f := .int "MOST_WAYS" 4) rfl)
  { C_Mixer := _, gc_Mixer := He.glo_ok X G (c.1.fact 64 (f := .glo "Mixer") rfl), cl_Mixer := He.cls_ok (c.1.fact 65 (f := .cls "Mixer") rfl), ic_Mixer := insB_ok (x := "Mixer") (He.cls_ok (c.1.fact 65 (f := .cls "Mixer") rfl)) (List.all_eq_true.mp (Bool.and_eq_true_iff.mp c.2).1 "Mixer" (by decide +kernel)),
    ec_Mixer := eqB_ok (x := "Mixer") (He.meth_ok (c.1.fact 72 (f := .meth "Mixer" "__eq__") rfl)) (List.all_eq_true.mp (Bool.and_eq_true_iff.mp c.2).2 "Mixer" (by decide +kernel)),
    na_Mixer_many := He.noat_ok (c.1.fact 66 (f := .noat "Mixer" "many") rfl),
    na_Mixer_rows := He.noat_ok (c.1.fact 67 (f := .noat "Mixer" "rows") rfl),
    f_is_whole := _, fd_is_whole := p0.choose, F_is_whole := p0.choose_spec, b_is_whole := p0.choose_spec.bindsN fun _ _ _ _ _ _ us hl => match us, hl with | [_], _ => rfl, g_is_whole := He.glo_ok X G (c.1.fact 0 (f := .glo "is_whole") rfl),
    f_is_between := _, fd_is_between := p1.choose, F_is_between := p1.choose_spec, b_is_between := p1.choose_spec.bindsN fun _ _ _ _ _ _ us hl => match us, hl with | [_, _, _], _ => rfl, g_is_between := He.glo_ok X G (c.1.fact 1 (f := .glo "is_between") rfl),
    f_are_wholes := _, fd_are_wholes := p2.choose, F_are_wholes := p2.choose_spec, b_are_wholes := p2.choose_spec.bindsN fun _ _ _ _ _ _ us hl => match us, hl with | [_], _ => rfl, g_are_wholes := He.glo_ok X G (c.1.fact 2 (f := .glo "are_wholes") rfl),
    f_check_number := _, fd_check_number := p3.choose, F_check_number := p3.choose_spec, b_check_number := p3.choose_spec.bindsN fun _ _ _ _ _ _ us hl => match us, hl with | [_, _, _], _ => rfl, g_check_number := He.glo_ok X G (c.1.fact 3 (f := .glo "check_number") rfl),
    f_is_lift := _, fd_is_lift := p4.choose, F_is_lift := p4.choose_spec, b_is_lift := p4.choose_spec.bindsN fun _ _ _ _ _ _ us hl => match us, hl with | [_, _], _ => rfl, g_is_lift := He.glo_ok X G (c.1.fact 4 (f := .glo "is_lift") rfl),
    f_is_step := _, fd_is_step := p5.choose, F_is_step := p5.choose_spec, b_is_step := p5.choose_spec.bindsN fun _ _ _ _ _ _ us hl => match us, hl with | [_, _], _ => rfl, g_is_step := He.glo_ok X G (c.1.fact 5 (f := .glo "is_step") rfl),
    f_closed := _, fd_closed := p6.choose, F_closed := p6.choose_spec, b_closed := p6.choose_spec.bindsN fun _ _ _ _ _ _ us hl => match us, hl with | [_], _ => rfl, g_closed := He.glo_ok X G (c.1.fact 6 (f := .glo "closed") rfl),
    f_opened := _, fd_opened := p7.choose, F_opened := p7.choose_spec, b_opened := p7.choose_spec.bindsN fun _ _ _ _ _ _ us hl => match us, hl with | [_], _ => rfl, g_opened := He.glo_ok X G (c.1.fact 7 (f := .glo "opened") rfl),
    f_check_mixer := _, fd_check_mixer := p8.choose, F_check_mixer := p8.choose_spec, b_check_mixer := p8.choose_spec.bindsN fun _ _ _ _ _ _ us hl => match us, hl with | [_], _ => rfl, g_check_mixer := He.glo_ok X G (c.1.fact 8 (f := .glo "check_mixer") rfl),
    f_check_both := _, fd_check_both := p9.choose, F_check_both := p9.choose_spec, b_check_both := p9.choose_spec.bindsN fun _ _ _ _ _ _ us hl => match us, hl with | [_, _], _ => rfl, g_check_both := He.glo_ok X G (c.1.fact 9 (f := .glo "check_both") rfl),
    f_check_moment := _, fd_check_moment := p10.choose, F_check_moment := p10.choose_spec, b_check_moment := p10.choose_spec.bindsN fun _ _ _ _ _ _ us hl => match us, hl with | [_, _], _ => rfl, g_check_moment := He.glo_ok X G (c.1.fact 10 (f := .glo "check_moment") rfl),
    f_summed := _, fd_summed := p11.choose, F_summed := p11.choose_spec, b_summed := p11.choose_spec.bindsN fun _ _ _ _ _ _ us hl => match us, hl with | [_, _], _ => rfl, g_summed := He.glo_ok X G (c.1.fact 11 (f := .glo "summed") rfl),
    f_stepped := _, fd_stepped := p12.choose, F_stepped := p12.choose_spec, b_stepped := nil_binds (p12.choose_spec.binds1 (ps := ["row", "numbers", "way"]) 3 1 (by simp [He.DefD.dvs, d_stepped]) rfl fun _ _ _ _ _ _ _ us its h1 h2 => match us, its, h1, h2 with | [_, _, _], [_], _, _ => ⟨_, rfl, rfl⟩), e0_stepped := (p12.choose_spec.binds1 (ps := ["row", "numbers", "way"]) 2 0 (by simp [He.DefD.dvs, d_stepped]) rfl fun _ _ _ _ _ _ _ us its h1 h2 => match us, its, h1, h2 with | [_, _], [_], _, _ => ⟨_, rfl, rfl⟩).choose, v0_stepped := (p12.choose_spec.binds1 (ps := ["row", "numbers", "way"]) 2 0 (by simp [He.DefD.dvs, d_stepped]) rfl fun _ _ _ _ _ _ _ us its h1 h2 => match us, its, h1, h2 with | [_, _], [_], _, _ => ⟨_, rfl, rfl⟩).choose_spec.1, b0_stepped := (p12.choose_spec.binds1 (ps := ["row", "numbers", "way"]) 2 0 (by simp [He.DefD.dvs, d_stepped]) rfl fun _ _ _ _ _ _ _ us its h1 h2 => match us, its, h1, h2 with | [_, _], [_], _, _ => ⟨_, rfl, rfl⟩).choose_spec.2, g_stepped := He.glo_ok X G (c.1.fact 12 (f := .glo "stepped") rfl),
    f_played := _, fd_played := p13.choose, F_played := p13.choose_spec, b_played := p13.choose_spec.bindsN fun _ _ _ _ _ _ us hl => match us, hl with | [_, _], _ => rfl, g_played := He.glo_ok X G (c.1.fact 13 (f := .glo "played") rfl),
    f_mixed := _, fd_mixed := p14.choose, F_mixed := p14.choose_spec, b_mixed := p14.choose_spec.bindsN fun _ _ _ _ _ _ us hl => match us, hl with | [_, _], _ => rfl, g_mixed := He.glo_ok X G (c.1.fact 14 (f := .glo "mixed") rfl),
    f_unmixed := _, fd_unmixed := p15.choose, F_unmixed := p15.choose_spec, b_unmixed := p15.choose_spec.bindsN fun _ _ _ _ _ _ us hl => match us, hl with | [_, _], _ => rfl, g_unmixed := He.glo_ok X G (c.1.fact 15 (f := .glo "unmixed") rfl),
    f_shifts_of := _, fd_shifts_of := p16.choose, F_shifts_of := p16.choose_spec, b_shifts_of := p16.choose_spec.bindsN fun _ _ _ _ _ _ us hl => match us, hl with | [_], _ => rfl, g_shifts_of := He.glo_ok X G (c.1.fact 16 (f := .glo "shifts_of") rfl),
    f_numbers_of := _, fd_numbers_of := p17.choose, F_numbers_of := p17.choose_spec, b_numbers_of := p17.choose_spec.bindsN fun _ _ _ _ _ _ us hl => match us, hl with | [_, _], _ => rfl, g_numbers_of := He.glo_ok X G (c.1.fact 17 (f := .glo "numbers_of") rfl),
    f_made := _, fd_made := p18.choose, F_made := p18.choose_spec, b_made := p18.choose_spec.bindsN fun _ _ _ _ _ _ us hl => match us, hl with | [_, _], _ => rfl, g_made := He.glo_ok X G (c.1.fact 18 (f := .glo "made") rfl),
    f_back_rows := _, fd_back_rows := p19.choose, F_back_rows := p19.choose_spec, b_back_rows := p19.choose_spec.bindsN fun _ _ _ _ _ _ us hl => match us, hl with | [_], _ => rfl, g_back_rows := He.glo_ok X G (c.1.fact 19 (f := .glo "back_rows") rfl),
    f_undoing := _, fd_undoing := p20.choose, F_undoing := p20.choose_spec, b_undoing := p20.choose_spec.bindsN fun _ _ _ _ _ _ us hl => match us, hl with | [_], _ => rfl, g_undoing := He.glo_ok X G (c.1.fact 20 (f := .glo "undoing") rfl),
    f_joined_mixers := _, fd_joined_mixers := p21.choose, F_joined_mixers := p21.choose_spec, b_joined_mixers := p21.choose_spec.bindsN fun _ _ _ _ _ _ us hl => match us, hl with | [_, _], _ => rfl, g_joined_mixers := He.glo_ok X G (c.1.fact 21 (f := .glo "joined_mixers") rfl),
    f_paired := _, fd_paired := p22.choose, F_paired := p22.choose_spec, b_paired := p22.choose_spec.bindsN fun _ _ _ _ _ _ us hl => match us, hl with | [_, _], _ => rfl, g_paired := He.glo_ok X G (c.1.fact 22 (f := .glo "paired") rfl),
    f_tidied := _, fd_tidied := p23.choose, F_tidied := p23.choose_spec, b_tidied := p23.choose_spec.bindsN fun _ _ _ _ _ _ us hl => match us, hl with | [_], _ => rfl, g_tidied := He.glo_ok X G (c.1.fact 23 (f := .glo "tidied") rfl),
    f_tidy := _, fd_tidy := p24.choose, F_tidy := p24.choose_spec, b_tidy := p24.choose_spec.bindsN fun _ _ _ _ _ _ us hl => match us, hl with | [_], _ => rfl, g_tidy := He.glo_ok X G (c.1.fact 24 (f := .glo "tidy") rfl),
    f_every_rest := _, fd_every_rest := p25.choose, F_every_rest := p25.choose_spec, b_every_rest := p25.choose_spec.bindsN fun _ _ _ _ _ _ us hl => match us, hl with | [_, _], _ => rfl, g_every_rest := He.glo_ok X G (c.1.fact 25 (f := .glo "every_rest") rfl),
    f_are_alike := _, fd_are_alike := p26.choose, F_are_alike := p26.choose_spec, b_are_alike := p26.choose_spec.bindsN fun _ _ _ _ _ _ us hl => match us, hl with | [_, _], _ => rfl, g_are_alike := He.glo_ok X G (c.1.fact 26 (f := .glo "are_alike") rfl),
    f_same_mix := _, fd_same_mix := p27.choose, F_same_mix := p27.choose_spec, b_same_mix := p27.choose_spec.bindsN fun _ _ _ _ _ _ us hl => match us, hl with | [_, _], _ => rfl, g_same_mix := He.glo_ok X G (c.1.fact 27 (f := .glo "same_mix") rfl),
    f_commute := _, fd_commute := p28.choose, F_commute := p28.choose_spec, b_commute := p28.choose_spec.bindsN fun _ _ _ _ _ _ us hl => match us, hl with | [_, _], _ => rfl, g_commute := He.glo_ok X G (c.1.fact 28 (f := .glo "commute") rfl),
    f_law_purse := _, fd_law_purse := p29.choose, F_law_purse := p29.choose_spec, b_law_purse := p29.choose_spec.bindsN fun _ _ _ _ _ _ us hl => match us, hl with | [_, _], _ => rfl, g_law_purse := He.glo_ok X G (c.1.fact 29 (f := .glo "_law_purse") rfl),
    f_law_draw := _, fd_law_draw := p30.choose, F_law_draw := p30.choose_spec, b_law_draw := p30.choose_spec.bindsN fun _ _ _ _ _ _ us hl => match us, hl with | [_, _], _ => rfl, g_law_draw := He.glo_ok X G (c.1.fact 30 (f := .glo "_law_draw") rfl),
    f_law_number := _, fd_law_number := p31.choose, F_law_number := p31.choose_spec, b_law_number := p31.choose_spec.bindsN fun _ _ _ _ _ _ us hl => match us, hl with | [_], _ => rfl, g_law_number := He.glo_ok X G (c.1.fact 31 (f := .glo "_law_number") rfl),
    f_law_weight := _, fd_law_weight := p32.choose, F_law_weight := p32.choose_spec, b_law_weight := p32.choose_spec.bindsN fun _ _ _ _ _ _ us hl => match us, hl with | [_], _ => rfl, g_law_weight := He.glo_ok X G (c.1.fact 32 (f := .glo "_law_weight") rfl),
    f_law_lift := _, fd_law_lift := p33.choose, F_law_lift := p33.choose_spec, b_law_lift := p33.choose_spec.bindsN fun _ _ _ _ _ _ us hl => match us, hl with | [_, _, _], _ => rfl, g_law_lift := He.glo_ok X G (c.1.fact 33 (f := .glo "_law_lift") rfl),
    f_law_steps := _, fd_law_steps := p34.choose, F_law_steps := p34.choose_spec, b_law_steps := p34.choose_spec.bindsN fun _ _ _ _ _ _ us hl => match us, hl with | [_, _, _, _], _ => rfl, g_law_steps := He.glo_ok X G (c.1.fact 34 (f := .glo "_law_steps") rfl),
    f_law_copied := _, fd_law_copied := p35.choose, F_law_copied := p35.choose_spec, b_law_copied := p35.choose_spec.bindsN fun _ _ _ _ _ _ us hl => match us, hl with | [_], _ => rfl, g_law_copied := He.glo_ok X G (c.1.fact 35 (f := .glo "_law_copied") rfl),
    f_law_stepped := _, fd_law_stepped := p36.choose, F_law_stepped := p36.choose_spec, b_law_stepped := p36.choose_spec.bindsN fun _ _ _ _ _ _ us hl => match us, hl with | [_, _, _], _ => rfl, g_law_stepped := He.glo_ok X G (c.1.fact 36 (f := .glo "_law_stepped") rfl),
    f_law_played := _, fd_law_played := p37.choose, F_law_played := p37.choose_spec, b_law_played := p37.choose_spec.bindsN fun _ _ _ _ _ _ us hl => match us, hl with | [_, _], _ => rfl, g_law_played := He.glo_ok X G (c.1.fact 37 (f := .glo "_law_played") rfl),
    f_law_bits := _, fd_law_bits := p38.choose, F_law_bits := p38.choose_spec, b_law_bits := p38.choose_spec.bindsN fun _ _ _ _ _ _ us hl => match us, hl with | [_], _ => rfl, g_law_bits := He.glo_ok X G (c.1.fact 38 (f := .glo "_law_bits") rfl),
    f_law_lists := _, fd_law_lists := p39.choose, F_law_lists := p39.choose_spec, b_law_lists := p39.choose_spec.bindsN fun _ _ _ _ _ _ us hl => match us, hl with | [_, _, _], _ => rfl, g_law_lists := He.glo_ok X G (c.1.fact 39 (f := .glo "_law_lists") rfl),
    f_law_lifts_of := _, fd_law_lifts_of := p40.choose, F_law_lifts_of := p40.choose_spec, b_law_lifts_of := p40.choose_spec.bindsN fun _ _ _ _ _ _ us hl => match us, hl with | [_], _ => rfl, g_law_lifts_of := He.glo_ok X G (c.1.fact 40 (f := .glo "_law_lifts_of") rfl),
    f_law_undone := _, fd_law_undone := p41.choose, F_law_undone := p41.choose_spec, b_law_undone := p41.choose_spec.bindsN fun _ _ _ _ _ _ us hl => match us, hl with | [_], _ => rfl, g_law_undone := He.glo_ok X G (c.1.fact 41 (f := .glo "_law_undone") rfl),
    f_law_pair := _, fd_law_pair := p42.choose, F_law_pair := p42.choose_spec, b_law_pair := p42.choose_spec.bindsN fun _ _ _ _ _ _ us hl => match us, hl with | [_, _], _ => rfl, g_law_pair := He.glo_ok X G (c.1.fact 42 (f := .glo "_law_pair") rfl),
    f_law_shorter := _, fd_law_shorter := p43.choose, F_law_shorter := p43.choose_spec, b_law_shorter := p43.choose_spec.bindsN fun _ _ _ _ _ _ us hl => match us, hl with | [_], _ => rfl, g_law_shorter := He.glo_ok X G (c.1.fact 43 (f := .glo "_law_shorter") rfl),
    f_law_tidied := _, fd_law_tidied := p44.choose, F_law_tidied := p44.choose_spec, b_law_tidied := p44.choose_spec.bindsN fun _ _ _ _ _ _ us hl => match us, hl with | [_], _ => rfl, g_law_tidied := He.glo_ok X G (c.1.fact 44 (f := .glo "_law_tidied") rfl),
    f_law_filled := _, fd_law_filled := p45.choose, F_law_filled := p45.choose_spec, b_law_filled := p45.choose_spec.bindsN fun _ _ _ _ _ _ us hl => match us, hl with | [_, _, _], _ => rfl, g_law_filled := He.glo_ok X G (c.1.fact 45 (f := .glo "_law_filled") rfl),
    f_law_mixes_right := _, fd_law_mixes_right := p46.choose, F_law_mixes_right := p46.choose_spec, b_law_mixes_right := p46.choose_spec.bindsN fun _ _ _ _ _ _ us hl => match us, hl with | [_, _, _, _, _, _], _ => rfl, g_law_mixes_right := He.glo_ok X G (c.1.fact 46 (f := .glo "_law_mixes_right") rfl),
    f_law := _, fd_law := p47.choose, F_law := p47.choose_spec, b_law := p47.choose_spec.bindsN fun _ _ _ _ _ _ us hl => match us, hl with | [_], _ => rfl, g_law := He.glo_ok X G (c.1.fact 47 (f := .glo "law") rfl),
    f_Mixer___init__ := _, fd_Mixer___init__ := p48.choose, F_Mixer___init__ := p48.choose_spec, b_Mixer___init__ := p48.choose_spec.bindsN fun _ _ _ _ _ _ us hl => match us, hl with | [_, _, _], _ => rfl, me_Mixer___init__ := He.meth_ok (c.1.fact 69 (f := .meth "Mixer" "__init__") rfl), mk_Mixer := He.mkr_ok (c.1.fact 68 (f := .mkr "Mixer") rfl),
    f_Mixer_wide := _, fd_Mixer_wide := p49.choose, F_Mixer_wide := p49.choose_spec, b_Mixer_wide := p49.choose_spec.bindsN fun _ _ _ _ _ _ us hl => match us, hl with | [_], _ => rfl, me_Mixer_wide := He.meth_ok (c.1.fact 70 (f := .meth "Mixer" "wide") rfl),
    f_Mixer_steps := _, fd_Mixer_steps := p50.choose, F_Mixer_steps := p50.choose_spec, b_Mixer_steps := p50.choose_spec.bindsN fun _ _ _ _ _ _ us hl => match us, hl with | [_], _ => rfl, me_Mixer_steps := He.meth_ok (c.1.fact 71 (f := .meth "Mixer" "steps") rfl),
    f_Mixer___eq__ := _, fd_Mixer___eq__ := p51.choose, F_Mixer___eq__ := p51.choose_spec, b_Mixer___eq__ := p51.choose_spec.bindsN fun _ _ _ _ _ _ us hl => match us, hl with | [_, _], _ => rfl, me_Mixer___eq__ := He.meth_ok (c.1.fact 72 (f := .meth "Mixer" "__eq__") rfl),
    n_len := He.free_ok X G (c.1.fact 48 (f := .free "len") rfl),
    n_sum := He.free_ok X G (c.1.fact 49 (f := .free "sum") rfl),
    n_max := He.free_ok X G (c.1.fact 50 (f := .free "max") rfl),
    n_min := He.free_ok X G (c.1.fact 51 (f := .free "min") rfl),
    n_int := He.free_ok X G (c.1.fact 52 (f := .free "int") rfl),
    n_bool := He.free_ok X G (c.1.fact 53 (f := .free "bool") rfl),
    n_list := He.free_ok X G (c.1.fact 54 (f := .free "list") rfl),
    n_tuple := He.free_ok X G (c.1.fact 55 (f := .free "tuple") rfl),
    n_range := He.free_ok X G (c.1.fact 56 (f := .free "range") rfl),
    n_isinstance := He.free_ok X G (c.1.fact 57 (f := .free "isinstance") rfl),
    n_enumerate := He.free_ok X G (c.1.fact 58 (f := .free "enumerate") rfl),
    n_zip := He.free_ok X G (c.1.fact 59 (f := .free "zip") rfl),
    n_sorted := He.free_ok X G (c.1.fact 60 (f := .free "sorted") rfl),
    n_all := He.free_ok X G (c.1.fact 61 (f := .free "all") rfl),
    n_any := He.free_ok X G (c.1.fact 62 (f := .free "any") rfl),
    t_MOST_WAYS := q0.choose, m_MOST_WAYS := q0.choose_spec }
end My

namespace My
open PySem PySem.Spec PyProof.Rows L2 Pre
section
variable {P : Program} {w : World} {K : PySem.W.Frag} {mg : Str → Option Value} {base : Heap}
/-! ### is_whole, is_between, of whole numbers -/
def sp_is_whole : Sp := fun vs H Q _ => ∃ i : Int, vs = [.int i] ∧ Q (.bl true) H
theorem G_is_whole (T : Top K mg) : FnOk P w K mg base CX0 1 T.f_is_whole T.fd_is_whole ["value"] sp_is_whole := by
  refine T.F_is_whole.ok sc_is_whole (fun vs H Q E h => by obtain ⟨i, rfl, _⟩ := h; rfl) (fun cdv A outer s H vs Q E hr h => ?_)
  obtain ⟨i, rfl, q⟩ := h
  refine ⟨_, PSs.nox (pss_one (ps_ret (pe_and (pe_callB (k_isi K rfl) (by rfl) T.n_isinstance (by decide +kernel) (pa_cons (pv 0) (pa_cons (pe_bltn (v := .ty "int") (by rfl) T.n_int (by decide +kernel) rfl) pa_nil))) (pe_one (pe_not (pe_callB (k_isi K rfl) (by rfl) T.n_isinstance (by decide +kernel) (pa_cons (pv 0) (pa_cons (pe_bltn (v := .ty "bool") (by rfl) T.n_bool (by decide +kernel) rfl) pa_nil)))))))), ?_⟩
  refine ⟨_, rfl, _, _, _, _, true, rfl, .ty _, .base (.int i), kit_ty (by decide +kernel), true, rfl, iteT ?_⟩
  exact ⟨_, rfl, _, _, _, _, false, rfl, .ty _, .base (.int i), kit_ty (by decide +kernel), false, rfl, q⟩
/-- value a whole number, low one, high None or one -/
def sp_is_between : Sp := fun vs H Q _ => ∃ (i lo : Int) (hi : Option Int), vs = [.int i, .int lo, (match hi with | some j => .int j | none => .non)] ∧ Q (.bl (decide (lo ≤ i ∧ ∀ j, hi = some j → i ≤ j))) H
theorem G_is_between (T : Top K mg) : FnOk P w K mg base CX0 2 T.f_is_between T.fd_is_between ["value", "low", "high"] sp_is_between := by
  refine T.F_is_between.ok sc_is_between (fun vs H Q E h => by obtain ⟨i, lo, hi, rfl, _⟩ := h; rfl) (fun cdv A outer s H vs Q E hr h => ?_)
  obtain ⟨i, lo, hi, rfl, q⟩ := h
  refine ⟨_, PSs.nox (pss_one (ps_ret (pe_and (pe_call (G_is_whole T) (hr.mono (by decide)) (by rfl) T.g_is_whole T.F_is_whole.kp T.b_is_whole .nil pass0 (pa_cons (pv 0) pa_nil)) (pe_and (pe_cmpR op_le (pv 1) (pv 0) (nomark _)) (pe_one (pe_or (pe_cmpR op_isN (pv 2) pe_non (nomark _)) (pe_one (pe_cmpR op_le (pv 0) (pv 2) (nomark _))))))))), ?_⟩
  refine ⟨_, rfl, i, rfl, true, rfl, iteT ?_⟩
  refine ⟨_, rfl, _, rfl, _, _, rfl, rfl, _, rfl, ite2 (fun e => ?_) (fun e => ?_)⟩
  · have e1 : lo ≤ i := of_decide_eq_true e
    cases hi with
    | none =>
      refine ⟨_, rfl, rfl, _, rfl, iteT ?_⟩
      rw [decide_eq_true ⟨e1, fun j h => nomatch h⟩] at q
      exact q
    | some j =>
      refine ⟨_, rfl, rfl, _, rfl, iteF ⟨_, rfl, _, rfl, _, _, rfl, rfl, ?_⟩⟩
      have e2 : decide (lo ≤ i ∧ ∀ j', some j = some j' → i ≤ j') = decide (i ≤ j) := by
        by_cases h : i ≤ j
        · rw [decide_eq_true h, decide_eq_true]
          exact ⟨e1, fun j' e => by cases e; exact h⟩
        · rw [decide_eq_false h, decide_eq_false]
          exact fun z => h (z.2 j rfl)
      rw [e2] at q
      exact q
  · have e1 : ¬ lo ≤ i := fun h => e (decide_eq_true h)
    rw [decide_eq_false fun z => e1 z.1] at q
    exact q
end
end My

set_option exponentiation.threshold 100000
namespace My
open PySem PySem.Spec PyProof.Rows L2 Pre
section
variable {P : Program} {w : World} {K : PySem.W.Frag} {mg : Str → Option Value} {base : Heap}
/-! ### the law's draws -/
/-- a generator: its count is at most n -/
def GenAt (H : Hp) (g : Addr) (n : Nat) : Prop := ∃ x y z : Int, H g = some (.lst [.int x, .int y, .int z]) ∧ 0 ≤ z ∧ z ≤ (n : Int)
/-- all but one thing stand as they stood -/
def But (g : Addr) (H H' : Hp) : Prop := ∀ b o, b ≠ g → H b = some o → H' b = some o
theorem But.refl {g : Addr} {H : Hp} : But g H H := fun _ _ _ h => h
theorem But.trans {g : Addr} {H H1 H2 : Hp} (a : But g H H1) (b : But g H1 H2) : But g H H2 := fun c o n h => b c o n (a c o n h)
theorem But.same {g : Addr} {H H1 H2 : Hp} (a : But g H H1) (b : Same H1 H2) : But g H H2 := fun c o n h => b c o (a c o n h)
theorem But.of {g : Addr} {H H1 : Hp} (b : Same H H1) : But g H H1 := fun c o _ h => b c o h
theorem But.upd {g : Addr} {H H1 : Hp} {o : HO} (a : But g H H1) : But g H (upd H1 g o) := fun c u n h => by
  rw [upd_ne n]
  exact a c u n h
theorem But.free {g : Addr} {H H1 : Hp} (a : But g H H1) {p : Addr} (n : p ≠ g) (h : H1 p = none) : H p = none := by
  cases e : H p with
  | none => rfl
  | some o => rw [a p o n e] at h; cases h
/-- what is changed was not there at first -/
theorem But.fresh {g : Addr} {H H1 H2 : Hp} (s : Same H H1) (n : H g = none) (b : But g H1 H2) : Same H H2 := fun c o h => b c o (ne_of_none h n) (s c o h)
theorem GenAt.mono {H : Hp} {g : Addr} {n m : Nat} (h : GenAt H g n) (l : n ≤ m) : GenAt H g m := by
  obtain ⟨x, y, z, a, b, c⟩ := h
  exact ⟨x, y, z, a, b, by omega⟩
theorem GenAt.same {H H' : Hp} {g : Addr} {n : Nat} (h : GenAt H g n) (s : Same H H') : GenAt H' g n := by
  obtain ⟨x, y, z, a, b⟩ := h
  exact ⟨x, y, z, s _ _ a, b⟩
theorem GenAt.ne {H : Hp} {g : Addr} {n : Nat} {p : Addr} (h : GenAt H g n) (np : H p = none) : p ≠ g := by
  obtain ⟨x, y, z, a, _⟩ := h
  exact (ne_of_none a np).symm
theorem small_2900 {b : Int} (h : b ≤ 2 ^ 60) : b < 2 ^ 2900 := by omega
theorem pow_pos' (w : Nat) : (0 : Int) < 2 ^ w := Int.pow_pos (by decide)
theorem pow2_le {k m : Nat} (h : k ≤ m) : (2 : Int) ^ k ≤ 2 ^ m := by
  have e := Nat.pow_le_pow_right (show 0 < 2 by decide) h
  have e2 : ((2 ^ k : Nat) : Int) ≤ ((2 ^ m : Nat) : Int) := Int.ofNat_le.mpr e
  rw [Int.natCast_pow, Int.natCast_pow] at e2
  exact e2
def sp_law_cell (K : PySem.W.Frag) : Sp := fun vs H Q _ => ∃ (a : Addr) (ns : List Int) (i : Nat), vs = [.ref a, .int i] ∧ SqL K H a (ns.map V.int) ∧ ∀ (n : Int) H', Same H H' → Q (.int n) H'
theorem cmul_mod (x m j : Int) (h0 : 0 < m) (h1 : m ≤ 2 ^ 60) : CMul (x % m) j := by
  have a := Int.emod_nonneg x (show m ≠ 0 by omega)
  have b := Int.emod_lt_of_pos x h0
  exact .inl ⟨by omega, by omega⟩
def sp_law_hash : Sp := fun vs H Q _ => ∃ i j : Int, vs = [.int i, .int j] ∧ 0 ≤ j ∧ j < 2 ^ 60 ∧ ∀ n : Int, Q (.int n) H

def sp_law_generator (K : PySem.W.Frag) : Sp := fun vs H Q _ => ∃ (a : Addr) (ns : List Int) (i : Nat), vs = [.ref a, .int i] ∧ SqL K H a (ns.map V.int) ∧ ∀ H' g, Same H H' → H g = none → GenAt H' g (1000 * i) → Q (.ref g) H'
def sp_law_random : Sp := fun vs H Q _ => ∃ (g : Addr) (b : Int) (n : Nat), vs = [.ref g, .int b] ∧ GenAt H g n ∧ n ≤ 10 ^ 12 ∧ 0 < b ∧ b < 2 ^ 2900 ∧ ∀ (d : Int) H', 0 ≤ d → d < b → GenAt H' g (n + 100) → But g H H' → Q (.int d) H'
/-- a comprehension over a range that draws whole numbers -/
theorem lc_drawR {lo : Int} {n : Nat} {j : Nat} {te : TE} {vs : List Nat} {σ : L2.St} {H1 : Hp} {D : Addr} {Qd : Hp → Prop} (g : Addr) (m step : Nat) (P : Int → Prop) (nD : H1 D = none) (hG : GenAt H1 g m) (hz : n < sizeLine)
    (hw : ∀ x, wipe ((wipe σ vs).set j (some x)) vs = wipe σ vs)
    (hs : ∀ (i : Nat) (H' : Hp), i < n → But g H1 H' → GenAt H' g (m + step * i) → ∀ Qt : V → Hp → Prop, (∀ (y : Int) H'', P y → But g H' H'' → GenAt H'' g (m + step * (i + 1)) → Qt (.int y) H'') → te ((wipe σ vs).set j (some (.int (lo + (i : Int))))) H' Qt)
    (hd : ∀ H' (ys : List Int), But g H1 H' → GenAt H' g (m + step * n) → H' D = some (.lst (ys.map V.int)) → ys.length = n → (∀ y ∈ ys, P y) → Qd H') :
    ∃ W : Nat → Nat → Hp → Prop, (∃ m, W 0 m (upd H1 D (.lst []))) ∧ ∀ i m H, W i m H →
      ((Itr lo n).stop i H ∧ Qd H) ∨ ((Itr lo n).go i H ∧ ∃ Nx : Hp → Prop, (∀ H', Nx H' → ∃ m', m' < m ∧ W (i + 1) m' H') ∧ ∀ x H', (Itr lo n).yld i H x H' → gName j x (wipe σ vs) H' fun σ2 H2 => wipe σ2 vs = wipe σ vs ∧ tYes σ2 H2 fun b H3 =>
        if b = true then te σ2 H3 fun y H4 => ∃ acc, H4 D = some (.lst acc) ∧ acc.length < sizeLine ∧ Nx (upd H4 D (.lst (acc ++ [y]))) else Nx H3) := by
  have nDg : D ≠ g := hG.ne nD
  refine lc_range (lo := lo) (n := n) (fun i H => ∃ ys : List Int, But g H1 H ∧ GenAt H g (m + step * i) ∧ H D = some (.lst (ys.map V.int)) ∧ ys.length = i ∧ ∀ y ∈ ys, P y)
    ⟨[], But.of (same_upd nD), hG.same (same_upd nD), upd_same, rfl, (fun _ h => nomatch h)⟩ ?_ ?_
  · rintro i H hi ⟨ys, b, hg, hD, hl, hP⟩
    refine ⟨hw _, ?_⟩
    unfold tYes
    dsimp only
    rw [if_pos (show true = true from rfl)]
    refine hs i H hi b hg _ fun y H2 py b2 hg2 => ?_
    refine ⟨_, b2 _ _ nDg hD, by rw [List.length_map]; omega, ys ++ [y], ?_, ?_, ?_, ?_, ?_⟩
    · intro c o nc hc
      rw [upd_ne (ne_of_none hc nD)]
      exact b2 _ _ nc (b _ _ nc hc)
    · obtain ⟨x1, x2, x3, e1, e2⟩ := hg2
      exact ⟨x1, x2, x3, by rw [upd_ne nDg.symm]; exact e1, e2⟩
    · rw [upd_same, List.map_append]
      rfl
    · rw [List.length_append, hl]
      rfl
    · intro z hz
      rcases List.mem_append.mp hz with hz | hz
      · exact hP z hz
      · rw [List.mem_singleton.mp hz]
        exact py
  · rintro H ⟨ys, b, hg, hD, hl, hP⟩
    exact hd H ys b hg hD hl hP
end
end My

namespace My
open PySem PySem.Spec PyProof.Rows L2 Pre
/-- a comprehension over a list that makes new things: R tells what is known of the i-th -/
theorem lc_relL {K : PySem.W.Frag} {a : Addr} {xs : List V} {j : Nat} {te : TE} {vs : List Nat} {σ : L2.St} {H1 : Hp} {D : Addr} {Qd : Hp → Prop} (R : Nat → V → Hp → Prop) (nD : H1 D = none) (hS : SqL K H1 a xs) (hz : xs.length < sizeLine)
    (mono : ∀ (i : Nat) (y : V) (H H' : Hp), Pre.Off D H H' → R i y H → R i y H') (hw : ∀ x, wipe ((wipe σ vs).set j (some x)) vs = wipe σ vs)
    (hs : ∀ (i : Nat) (x : V) (H' : Hp) (zs : List V), xs[i]? = some x → Same H1 H' → H' D = some (.lst zs) → ∀ Qt : V → Hp → Prop, (∀ y H'', Same H' H'' → R i y H'' → Qt y H'') → te ((wipe σ vs).set j (some x)) H' Qt)
    (hd : ∀ H' ys, Same H1 H' → H' D = some (.lst ys) → ys.length = xs.length → (∀ (i : Nat) (y : V), ys[i]? = some y → R i y H') → Qd H') :
    ∃ W : Nat → Nat → Hp → Prop, (∃ m, W 0 m (upd H1 D (.lst []))) ∧ ∀ i m H, W i m H →
      ((Itl K a).stop i H ∧ Qd H) ∨ ((Itl K a).go i H ∧ ∃ Nx : Hp → Prop, (∀ H', Nx H' → ∃ m', m' < m ∧ W (i + 1) m' H') ∧ ∀ x H', (Itl K a).yld i H x H' → gName j x (wipe σ vs) H' fun σ2 H2 => wipe σ2 vs = wipe σ vs ∧ tYes σ2 H2 fun b H3 =>
        if b = true then te σ2 H3 fun y H4 => ∃ acc, H4 D = some (.lst acc) ∧ acc.length < sizeLine ∧ Nx (upd H4 D (.lst (acc ++ [y]))) else Nx H3) := by
  refine lc_list (K := K) (a := a) (xs := xs) (RelPv R H1 D) ⟨[], same_upd nD, upd_same, rfl, fun k y h => by simp at h⟩ (fun i H _ ⟨_, s, _⟩ => s.seq hS) ?_ ?_
  · rintro i x H hx ⟨ys, s, hD, hl, hR⟩
    have hi : i < xs.length := (List.getElem?_eq_some_iff.mp hx).1
    refine ⟨hw _, ?_⟩
    unfold tYes
    dsimp only
    rw [if_pos (show true = true from rfl)]
    refine hs i x H ys hx s hD _ fun y H4 s4 r4 => ?_
    refine ⟨ys, s4 _ _ hD, by omega, ys ++ [y], same_over nD (s.trans s4), upd_same, by rw [List.length_append, hl]; rfl, fun k z hz => ?_⟩
    have off : Pre.Off D H4 (upd H4 D (.lst (ys ++ [y]))) := fun b o nb h => by rw [upd_ne nb]; exact h
    by_cases hk : k < ys.length
    · rw [List.getElem?_append_left hk] at hz
      exact mono k z H _ (fun b o nb h => off b o nb (s4 b o h)) (hR k z hz)
    · rw [List.getElem?_append_right (by omega)] at hz
      have hk2 : k - ys.length = 0 := by
        have h2 := (List.getElem?_eq_some_iff.mp hz).1
        rw [List.length_singleton] at h2
        omega
      rw [hk2] at hz
      cases hz
      have ek : k = i := by omega
      rw [ek]
      exact mono i y H4 _ off r4
  · rintro H ⟨ys, s, hD, hl, hR⟩
    exact hd H ys s hD hl hR
/-- a list of lists of whole numbers -/
def RowsIn (H : Hp) (p : Addr) (rows : List (List Int)) : Prop := ∃ as : List Addr, H p = some (.lst (as.map V.ref)) ∧ as.length = rows.length ∧ ∀ (i : Nat) (a : Addr) (r : List Int), as[i]? = some a → rows[i]? = some r → H a = some (.lst (r.map V.int))
theorem RowsIn.same {H H' : Hp} {p : Addr} {rows : List (List Int)} (h : RowsIn H p rows) (s : Same H H') : RowsIn H' p rows := by
  obtain ⟨as, h1, h2, h3⟩ := h
  exact ⟨as, s _ _ h1, h2, fun i a r ha hr => s _ _ (h3 i a r ha hr)⟩
section
variable {X : Cx}
theorem huD {k : Nat} {A : Around} (r : Room k A) : A.units + 65 < cLine := by have := r.un; omega
theorem k_inD (K : PySem.W.Frag) (h : X.K = K) (hu : X.A.units + 65 < cLine) : OpR X (compareOp .In) (rInD K) := by subst h; exact op_inD hu
theorem k_notInD (K : PySem.W.Frag) (h : X.K = K) (hu : X.A.units + 65 < cLine) : OpR X (compareOp .NotIn) (rNotInD K) := by subst h; exact op_notInD hu
theorem k_indexD (K : PySem.W.Frag) (h : X.K = K) (hu : X.A.units + 65 < cLine) : MtR X "list.index" (rIndexD K) := by subst h; exact mt_indexD hu
end
/-- rows as data -/
def rowD (r : List Int) : PyData := .list (r.map PyData.int)
theorem rows_dp {K : PySem.W.Frag} {H : Hp} : ∀ {as : List Addr} {rows : List (List Int)}, as.length = rows.length → (∀ (i : Nat) (a : Addr) (r : List Int), as[i]? = some a → rows[i]? = some r → H a = some (.lst (r.map V.int))) → DpAll K H (as.map V.ref) (rows.map rowD)
  | [], [], _, _ => .nil
  | [], _ :: _, h, _ => by simp at h
  | _ :: _, [], h, _ => by simp at h
  | a :: as, r :: rows, h, k => .cons (.lst (.inl (.inl (k 0 a r rfl rfl))) (Pre.dp_ints r)) (rows_dp (by simpa using h) fun i t q ht hq => k (i + 1) t q (by simpa using ht) (by simpa using hq))
theorem rowD_eqv (r q : List Int) : PyData.eqv (rowD r) (rowD q) = decide (r = q) := by
  unfold rowD
  rw [PyData.eqv, eqv_ints]
theorem rows_shaped (rows : List (List Int)) : SeqAt.shaped (.list (rows.map rowD)) = true := by
  have h1 : ∀ l : List (List Int), PyData.canLayAll0 (l.map rowD) = true := fun l => by
    induction l with
    | nil => rfl
    | cons r l ih =>
      show (PyData.canLay0 (rowD r) && PyData.canLayAll0 (l.map rowD)) = true
      rw [ih]
      unfold rowD
      rw [PyData.canLay0, lay_ints]
      rfl
  have h2 : ∀ l : List (List Int), PyData.depthAll (l.map rowD) ≤ 1 := fun l => by
    induction l with
    | nil => simp [PyData.depthAll]
    | cons r l ih =>
      show PyData.depthAll (rowD r :: l.map rowD) ≤ 1
      rw [PyData.depthAll]
      unfold rowD at *
      rw [PyData.depth, depth_ints]
      omega
  show (PyData.canLay0 (.list (rows.map rowD)) && decide (PyData.depth (.list (rows.map rowD)) ≤ 64)) = true
  rw [Bool.and_eq_true]
  have := h2 rows
  exact ⟨by rw [PyData.canLay0]; exact h1 rows, decide_eq_true (by rw [PyData.depth]; omega)⟩
end My

namespace My
open PySem PySem.Spec PyProof.Rows L2 Pre
/-! ### min and max of a list of pairs of whole numbers -/
def pairD (p : Int × Int) : PyData := .tuple [.int p.1, .int p.2]
def ltP2 (p q : Int × Int) : Prop := p.1 < q.1 ∨ (p.1 = q.1 ∧ p.2 < q.2)
instance (p q : Int × Int) : Decidable (ltP2 p q) := by unfold ltP2; infer_instance
theorem pair_lt (p q : Int × Int) : PySem.W.dataLt (pairD p) (pairD q) = decide (ltP2 p q) := PySem.W.dataLt_ii p.1 p.2 q.1 q.2
theorem ltP2_trans {p q r : Int × Int} (h : ¬ ltP2 q p) (k : ¬ ltP2 r q) : ¬ ltP2 r p := by
  unfold ltP2 at *
  omega
def minP (p : Int × Int) (ps : List (Int × Int)) : Int × Int := ps.foldl (fun a y => if ltP2 y a then y else a) p
def maxP (p : Int × Int) (ps : List (Int × Int)) : Int × Int := ps.foldl (fun a y => if ltP2 a y then y else a) p
theorem minP_data : ∀ (ps : List (Int × Int)) (p : Int × Int), PySem.W.minD (pairD p) (ps.map pairD) = pairD (minP p ps)
  | [], _ => rfl
  | q :: ps, p => by
    show PySem.W.minD (if PySem.W.dataLt (pairD q) (pairD p) = true then pairD q else pairD p) (ps.map pairD) = pairD (minP (if ltP2 q p then q else p) ps)
    rw [pair_lt]
    by_cases h : ltP2 q p
    · rw [decide_eq_true h, if_pos rfl, if_pos h, minP_data ps q]
    · rw [decide_eq_false h, if_neg (by decide), if_neg h, minP_data ps p]
theorem maxP_data : ∀ (ps : List (Int × Int)) (p : Int × Int), PySem.W.maxD (pairD p) (ps.map pairD) = pairD (maxP p ps)
  | [], _ => rfl
  | q :: ps, p => by
    show PySem.W.maxD (if PySem.W.dataLt (pairD p) (pairD q) = true then pairD q else pairD p) (ps.map pairD) = pairD (maxP (if ltP2 p q then q else p) ps)
    rw [pair_lt]
    by_cases h : ltP2 p q
    · rw [decide_eq_true h, if_pos rfl, if_pos h, maxP_data ps q]
    · rw [decide_eq_false h, if_neg (by decide), if_neg h, maxP_data ps p]
theorem minP_spec : ∀ (ps : List (Int × Int)) (p : Int × Int), minP p ps ∈ p :: ps ∧ ∀ q ∈ p :: ps, ¬ ltP2 q (minP p ps)
  | [], p => ⟨List.mem_cons_self, fun q hq => by
      rw [List.mem_singleton.mp hq]
      show ¬ ltP2 p p
      unfold ltP2
      omega⟩
  | r :: ps, p => by
    show minP (if ltP2 r p then r else p) ps ∈ _ ∧ ∀ q ∈ p :: r :: ps, ¬ ltP2 q (minP (if ltP2 r p then r else p) ps)
    by_cases h : ltP2 r p
    · rw [if_pos h]
      obtain ⟨h1, h2⟩ := minP_spec ps r
      refine ⟨List.mem_cons_of_mem _ h1, fun q hq => ?_⟩
      rcases List.mem_cons.mp hq with rfl | hq
      · have := h2 r List.mem_cons_self
        exact fun z => this (by unfold ltP2 at *; omega)
      · exact h2 q hq
    · rw [if_neg h]
      obtain ⟨h1, h2⟩ := minP_spec ps p
      refine ⟨?_, fun q hq => ?_⟩
      · rcases List.mem_cons.mp h1 with e | e
        · rw [e]; exact List.mem_cons_self
        · exact List.mem_cons_of_mem _ (List.mem_cons_of_mem _ e)
      · rcases List.mem_cons.mp hq with rfl | hq
        · exact h2 q List.mem_cons_self
        · rcases List.mem_cons.mp hq with rfl | hq
          · have := h2 p List.mem_cons_self
            exact fun z => this (by unfold ltP2 at *; omega)
          · exact h2 q (List.mem_cons_of_mem _ hq)
theorem maxP_spec : ∀ (ps : List (Int × Int)) (p : Int × Int), maxP p ps ∈ p :: ps ∧ ∀ q ∈ p :: ps, ¬ ltP2 (maxP p ps) q
  | [], p => ⟨List.mem_cons_self, fun q hq => by
      rw [List.mem_singleton.mp hq]
      show ¬ ltP2 p p
      unfold ltP2
      omega⟩
  | r :: ps, p => by
    show maxP (if ltP2 p r then r else p) ps ∈ _ ∧ ∀ q ∈ p :: r :: ps, ¬ ltP2 (maxP (if ltP2 p r then r else p) ps) q
    by_cases h : ltP2 p r
    · rw [if_pos h]
      obtain ⟨h1, h2⟩ := maxP_spec ps r
      refine ⟨List.mem_cons_of_mem _ h1, fun q hq => ?_⟩
      rcases List.mem_cons.mp hq with rfl | hq
      · have := h2 r List.mem_cons_self
        exact fun z => this (by unfold ltP2 at *; omega)
      · exact h2 q hq
    · rw [if_neg h]
      obtain ⟨h1, h2⟩ := maxP_spec ps p
      refine ⟨?_, fun q hq => ?_⟩
      · rcases List.mem_cons.mp h1 with e | e
        · rw [e]; exact List.mem_cons_self
        · exact List.mem_cons_of_mem _ (List.mem_cons_of_mem _ e)
      · rcases List.mem_cons.mp hq with rfl | hq
        · exact h2 q List.mem_cons_self
        · rcases List.mem_cons.mp hq with rfl | hq
          · have := h2 p List.mem_cons_self
            exact fun z => this (by unfold ltP2 at *; omega)
          · exact h2 q (List.mem_cons_of_mem _ hq)
theorem pairs_alike (ps : List (Int × Int)) : PySem.W.AlikeAll (ps.map pairD) := by
  refine ⟨fun x hx y hy => ?_, fun x hx => ?_⟩
  · obtain ⟨p, _, rfl⟩ := List.mem_map.mp hx
    obtain ⟨q, _, rfl⟩ := List.mem_map.mp hy
    rfl
  · obtain ⟨p, _, rfl⟩ := List.mem_map.mp hx
    exact fun z => nomatch z
theorem pairs_lay : ∀ ps : List (Int × Int), PyData.canLayAll0 (ps.map pairD) = true
  | [] => rfl
  | p :: ps => by simp [PyData.canLayAll0, PyData.canLay0, pairD, pairs_lay ps]
theorem pairs_depth : ∀ ps : List (Int × Int), PyData.depthAll (ps.map pairD) ≤ 2
  | [] => by simp [PyData.depthAll]
  | p :: ps => by
    have := pairs_depth ps
    simp only [List.map_cons, PyData.depthAll, pairD, PyData.depth]
    omega
/-- a list of pairs, at a -/
def PairsAt (K : PySem.W.Frag) (H : Hp) (a : Addr) (ps : List (Int × Int)) : Prop := ∃ as : List Addr, SqL K H a (as.map V.ref) ∧ as.length = ps.length ∧ ∀ (i : Nat) (t : Addr) (p : Int × Int), as[i]? = some t → ps[i]? = some p → SqT K H t [.int p.1, .int p.2]
theorem pairs_dp {K : PySem.W.Frag} {H : Hp} : ∀ {as : List Addr} {ps : List (Int × Int)}, as.length = ps.length → (∀ (i : Nat) (t : Addr) (p : Int × Int), as[i]? = some t → ps[i]? = some p → SqT K H t [.int p.1, .int p.2]) → DpAll K H (as.map V.ref) (ps.map pairD)
  | [], [], _, _ => .nil
  | [], _ :: _, h, _ => by simp at h
  | _ :: _, [], h, _ => by simp at h
  | a :: as, p :: ps, h, k => .cons (.tup (k 0 a p rfl rfl) (.cons (.int _) (.cons (.int _) .nil))) (pairs_dp (by simpa using h) fun i t q ht hq => k (i + 1) t q (by simpa using ht) (by simpa using hq))
def rMnP (K : PySem.W.Frag) (best : Int × Int → List (Int × Int) → Int × Int) : List V → Hp → VK → Prop := fun xs H Q => ∃ (a : Addr) (p : Int × Int) (ps : List (Int × Int)), xs = [.ref a] ∧ PairsAt K H a (p :: ps) ∧ ∀ t, SqT K H t [.int (best p ps).1, .int (best p ps).2] → Q (.ref t) H
section
variable {X : Cx} {K : PySem.W.Frag}
theorem pick {H : Hp} {s : Shared} {as : List Addr} {ps : List (Int × Int)} {its : List Value} {i : Nat} {v : Value} {h' : Heap} {bs cs : List Addr} {b : Int × Int} (hl : as.length = ps.length)
    (hT : ∀ (i : Nat) (t : Addr) (p : Int × Int), as[i]? = some t → ps[i]? = some p → SqT K H t [.int p.1, .int p.2]) (rv : Vals (as.map V.ref) its) (hr : ReadsAll s.heap its (ps.map pairD) cs) (hv : its.toArray[i]? = some v) (rd : Reads h' v (pairD b) bs)
    (hk : ∀ b o, s.heap.get? b = some o → h'.get? b = some o) : ∃ t, v = .ref t ∧ SqT K H t [.int b.1, .int b.2] := by
  have hv' : its[i]? = some v := by simpa using hv
  have hil : i < its.length := (List.getElem?_eq_some_iff.mp hv').1
  have hvl := rv.length
  rw [List.length_map] at hvl
  obtain ⟨u, hu, ru⟩ := rv.get (show (as.map V.ref)[i]? = some (.ref (as[i]'(by omega))) by rw [List.getElem?_map, List.getElem?_eq_getElem (by omega)]; rfl)
  rw [hv'] at hu
  cases hu
  have hp : ps[i]? = some (ps[i]'(by omega)) := List.getElem?_eq_getElem (by omega)
  obtain ⟨ds, r1, _, _, _⟩ := PySem.W.readsAll_at hr i v hv'
  have e1 : (ps.map pairD).getD i .none = pairD (ps[i]'(by omega)) := by
    rw [List.getD_eq_getElem?_getD, List.getElem?_map, hp]
    rfl
  rw [e1] at r1
  have e2 := PySem.SeqAt.Reads.unique (pairD b) _ v _ _ (by simp [pairD, PyData.canLay0, PyData.canLayAll0]) rd (Reads.keeps hk r1)
  have e3 : b = ps[i]'(by omega) := by
    unfold pairD at e2
    injection e2 with e2
    injection e2 with e4 e5
    injection e5 with e5 _
    injection e4 with e4
    injection e5 with e5
    exact Prod.ext e4 e5
  refine ⟨as[i]'(by omega), ru, ?_⟩
  rw [e3]
  exact hT i _ _ (List.getElem?_eq_getElem (by omega)) hp
theorem k_minP (K : PySem.W.Frag) (h : X.K = K) (hc : X.calm = true) (hu : X.A.units + 65 < cLine) : CallR X (.builtin "min") (rMnP K minP) := by
  subst h
  intro pins s σ H xs us Q I r h
  obtain ⟨a, p, ps, rfl, ⟨as, hS, hl, hT⟩, q⟩ := h
  obtain ⟨its, rv, hL, _⟩ := I.list hS
  rw [Vals.ref1 r]
  obtain ⟨cs, hr⟩ := Dp.readsAll I _ _ its (pairs_dp hl hT) rv
  have hd := pairs_depth (p :: ps)
  refine PySem.W.min_list_data (I.ok.hd hc) hL.isList (show ReadsAll s.heap its.toArray.toList (pairD p :: ps.map pairD) cs by simpa using hr) (pairs_alike (p :: ps)) (by rw [List.map_cons] at hd; omega) fun i v h' tk bs hv rd hk => ?_
  rw [minP_data] at rd
  obtain ⟨t, rfl, ht⟩ := pick hl hT rv hr hv rd hk
  exact ⟨.ref t, H, I.kept hk, rfl, q t ht⟩
theorem k_maxP (K : PySem.W.Frag) (h : X.K = K) (hc : X.calm = true) (hu : X.A.units + 65 < cLine) : CallR X (.builtin "max") (rMnP K maxP) := by
  subst h
  intro pins s σ H xs us Q I r h
  obtain ⟨a, p, ps, rfl, ⟨as, hS, hl, hT⟩, q⟩ := h
  obtain ⟨its, rv, hL, _⟩ := I.list hS
  rw [Vals.ref1 r]
  obtain ⟨cs, hr⟩ := Dp.readsAll I _ _ its (pairs_dp hl hT) rv
  have hd := pairs_depth (p :: ps)
  refine PySem.W.max_list_data (I.ok.hd hc) hL.isList (show ReadsAll s.heap its.toArray.toList (pairD p :: ps.map pairD) cs by simpa using hr) (pairs_alike (p :: ps)) (by rw [List.map_cons] at hd; omega) fun i v h' tk bs hv rd hk => ?_
  rw [maxP_data] at rd
  obtain ⟨t, rfl, ht⟩ := pick hl hT rv hr hv rd hk
  exact ⟨.ref t, H, I.kept hk, rfl, q t ht⟩
theorem huM {k : Nat} {A : Around} (r : Room k A) : A.units + 65 < cLine := by have := r.un; omega
end
end My

namespace My
open PySem PySem.Spec PyProof.Rows L2 Pre
/-! ### data in a heap: what is told of a value by lists and tuples that stand there (none of them frozen) -/
mutual
inductive Dt (H : Hp) : V → PyData → Prop
  | non : Dt H .non .none
  | bl (b : Bool) : Dt H (.bl b) (.bool b)
  | int (n : Int) : Dt H (.int n) (.int n)
  | str (x : Str) : Dt H (.str x) (.str x)
  | lst {a : Addr} {xs : List V} {ds : List PyData} : H a = some (.lst xs) → DtA H xs ds → Dt H (.ref a) (.list ds)
  | tup {a : Addr} {xs : List V} {ds : List PyData} : H a = some (.tup xs) → DtA H xs ds → Dt H (.ref a) (.tuple ds)
inductive DtA (H : Hp) : List V → List PyData → Prop
  | nil : DtA H [] []
  | cons {v : V} {vs : List V} {d : PyData} {ds : List PyData} : Dt H v d → DtA H vs ds → DtA H (v :: vs) (d :: ds)
end
mutual
theorem Dt.same {H H' : Hp} (s : Same H H') : ∀ {d : PyData} {v : V}, Dt H v d → Dt H' v d
  | .none, _, h => by cases h; exact .non
  | .bool _, _, h => by cases h; exact .bl _
  | .int _, _, h => by cases h; exact .int _
  | .str _, _, h => by cases h; exact .str _
  | .list _, _, h => by cases h with | lst a b => exact .lst (s _ _ a) (DtA.same s b)
  | .tuple _, _, h => by cases h with | tup a b => exact .tup (s _ _ a) (DtA.same s b)
  | .dict _, _, h => nomatch h
theorem DtA.same {H H' : Hp} (s : Same H H') : ∀ {ds : List PyData} {vs : List V}, DtA H vs ds → DtA H' vs ds
  | [], _, h => by cases h; exact .nil
  | _ :: _, _, h => by cases h with | cons a b => exact .cons (Dt.same s a) (DtA.same s b)
end
mutual
theorem Dt.dp {K : PySem.W.Frag} {H : Hp} : ∀ {d : PyData} {v : V}, Dt H v d → Dp K H v d
  | .none, _, h => by cases h; exact .non
  | .bool _, _, h => by cases h; exact .bl _
  | .int _, _, h => by cases h; exact .int _
  | .str _, _, h => by cases h; exact .str _
  | .list _, _, h => by cases h with | lst a b => exact .lst (.inl (.inl a)) (DtA.dp b)
  | .tuple _, _, h => by cases h with | tup a b => exact .tup (.inl (.inl a)) (DtA.dp b)
  | .dict _, _, h => nomatch h
theorem DtA.dp {K : PySem.W.Frag} {H : Hp} : ∀ {ds : List PyData} {vs : List V}, DtA H vs ds → DpAll K H vs ds
  | [], _, h => by cases h; exact .nil
  | _ :: _, _, h => by cases h with | cons a b => exact .cons (Dt.dp a) (DtA.dp b)
end
theorem DtA.len {H : Hp} : ∀ {ds : List PyData} {vs : List V}, DtA H vs ds → vs.length = ds.length
  | [], _, h => by cases h; rfl
  | _ :: _, _, h => by cases h with | cons a b => rw [List.length_cons, List.length_cons, DtA.len b]
theorem DtA.app {H : Hp} : ∀ {ds : List PyData} {vs : List V} {es : List PyData} {us : List V}, DtA H vs ds → DtA H us es → DtA H (vs ++ us) (ds ++ es)
  | [], _, _, _, h, k => by cases h; exact k
  | _ :: _, _, _, _, h, k => by cases h with | cons a b => exact .cons a (DtA.app b k)
theorem DtA.get {H : Hp} : ∀ {ds : List PyData} {vs : List V} {i : Nat} {d : PyData}, DtA H vs ds → ds[i]? = some d → ∃ v, vs[i]? = some v ∧ Dt H v d
  | [], _, _, _, _, k => by simp at k
  | _ :: _, _, 0, _, h, k => by
    cases h with
    | cons a b => rw [List.getElem?_cons_zero] at k; cases k; exact ⟨_, rfl, a⟩
  | _ :: _, _, i + 1, _, h, k => by
    cases h with
    | cons a b => rw [List.getElem?_cons_succ] at k; rw [List.getElem?_cons_succ]; exact DtA.get b k
theorem DtA.got {H : Hp} {ds : List PyData} {vs : List V} {i : Nat} {v : V} (h : DtA H vs ds) (k : vs[i]? = some v) : ∃ d, ds[i]? = some d ∧ Dt H v d := by
  have hi := (List.getElem?_eq_some_iff.mp k).1
  have hl := h.len
  obtain ⟨u, hu, d⟩ := h.get (List.getElem?_eq_getElem (show i < ds.length by omega))
  rw [k] at hu
  cases hu
  exact ⟨_, List.getElem?_eq_getElem (by omega), d⟩
theorem DtA.take {H : Hp} : ∀ {ds : List PyData} {vs : List V} (n : Nat), DtA H vs ds → DtA H (vs.take n) (ds.take n)
  | _, _, 0, _ => .nil
  | [], _, _ + 1, h => by cases h; exact .nil
  | _ :: _, _, n + 1, h => by cases h with | cons a b => exact .cons a (DtA.take n b)
theorem DtA.drop {H : Hp} : ∀ {ds : List PyData} {vs : List V} (n : Nat), DtA H vs ds → DtA H (vs.drop n) (ds.drop n)
  | _, _, 0, h => h
  | [], _, _ + 1, h => by cases h; exact .nil
  | _ :: _, _, n + 1, h => by cases h with | cons a b => exact DtA.drop n b
theorem DtA.rev {H : Hp} : ∀ {ds : List PyData} {vs : List V}, DtA H vs ds → DtA H vs.reverse ds.reverse
  | [], _, h => by cases h; exact .nil
  | _ :: _, _, h => by
    cases h with
    | cons a b => rw [List.reverse_cons, List.reverse_cons]; exact DtA.app (DtA.rev b) (.cons a .nil)
theorem DtA.ints {H : Hp} : ∀ ns : List Int, DtA H (ns.map V.int) (ns.map PyData.int)
  | [] => .nil
  | n :: r => .cons (.int n) (DtA.ints r)
theorem DtA.intsE {H : Hp} : ∀ {ns : List Int} {vs : List V}, DtA H vs (ns.map PyData.int) → vs = ns.map V.int
  | [], _, h => by cases h; rfl
  | n :: r, _, h => by
    cases h with
    | cons a b => cases a; rw [DtA.intsE b]; rfl
/-- a list of whole numbers -/
theorem Dt.ints {H : Hp} {a : Addr} {ns : List Int} (h : H a = some (.lst (ns.map V.int))) : Dt H (.ref a) (rowD ns) := .lst h (DtA.ints ns)
theorem Dt.intsE {H : Hp} {v : V} {ns : List Int} (h : Dt H v (rowD ns)) : ∃ a, v = .ref a ∧ H a = some (.lst (ns.map V.int)) := by
  unfold rowD at h
  cases h with
  | lst a b => rw [DtA.intsE b] at a; exact ⟨_, rfl, a⟩
theorem Dt.listE {H : Hp} {v : V} {ds : List PyData} (h : Dt H v (.list ds)) : ∃ a xs, v = .ref a ∧ H a = some (.lst xs) ∧ DtA H xs ds := by
  cases h with
  | lst a b => exact ⟨_, _, rfl, a, b⟩
theorem Dt.tupE {H : Hp} {v : V} {ds : List PyData} (h : Dt H v (.tuple ds)) : ∃ a xs, v = .ref a ∧ H a = some (.tup xs) ∧ DtA H xs ds := by
  cases h with
  | tup a b => exact ⟨_, _, rfl, a, b⟩
/-! ### what is owned (and changes) is left out -/
def rs (S : List Addr) (H : Hp) : Hp := fun a => if a ∈ S then none else H a
theorem rs_nil (H : Hp) : rs [] H = H := by funext a; simp [rs]
theorem rs_in {S : List Addr} {H : Hp} {a : Addr} (h : a ∈ S) : rs S H a = none := if_pos h
theorem rs_out {S : List Addr} {H : Hp} {a : Addr} (h : a ∉ S) : rs S H a = H a := if_neg h
theorem rs_some {S : List Addr} {H : Hp} {a : Addr} {o : HO} (h : rs S H a = some o) : a ∉ S ∧ H a = some o := by
  by_cases m : a ∈ S
  · rw [rs_in m] at h; cases h
  · rw [rs_out m] at h; exact ⟨m, h⟩
theorem rs_le {S : List Addr} {H : Hp} : Same (rs S H) H := fun _ _ h => (rs_some h).2
theorem rs_same {S : List Addr} {H H' : Hp} (s : Same H H') : Same (rs S H) (rs S H') := fun b o h => by
  obtain ⟨m, e⟩ := rs_some h
  rw [rs_out m]
  exact s b o e
theorem rs_upd {S : List Addr} {H : Hp} {p : Addr} {o : HO} (h : p ∈ S) : rs S (L2.upd H p o) = rs S H := by
  funext a
  by_cases m : a ∈ S
  · rw [rs_in m, rs_in m]
  · rw [rs_out m, rs_out m, upd_ne (fun e => m (by rw [e]; exact h))]
/-- all of them stand -/
def Has (S : List Addr) (H : Hp) : Prop := ∀ a ∈ S, ∃ o, H a = some o
theorem Has.nil {H : Hp} : Has [] H := fun _ h => nomatch h
theorem Has.same {S : List Addr} {H H' : Hp} (h : Has S H) (s : Same H H') : Has S H' := fun a m => by
  obtain ⟨o, e⟩ := h a m
  exact ⟨o, s a o e⟩
theorem Has.cons {S : List Addr} {H : Hp} {p : Addr} {o : HO} (h : Has S H) (e : H p = some o) : Has (p :: S) H := fun a m => by
  rcases List.mem_cons.mp m with rfl | m
  · exact ⟨o, e⟩
  · exact h a m
theorem Has.upd {S : List Addr} {H : Hp} {p : Addr} {o : HO} (h : Has S H) : Has S (L2.upd H p o) := fun a m => by
  by_cases e : a = p
  · subst e; exact ⟨o, upd_same⟩
  · rw [upd_ne e]; exact h a m
theorem Has.out {S : List Addr} {H : Hp} {p : Addr} (h : Has S H) (n : H p = none) : p ∉ S := fun m => by
  obtain ⟨o, e⟩ := h p m
  rw [n] at e
  cases e
theorem GenAt.has {H : Hp} {g : Addr} {n : Nat} (h : GenAt H g n) : Has [g] H := by
  obtain ⟨x, y, z, e, _⟩ := h
  exact Has.nil.cons e
/-- all but what is owned stays -/
def Sta (S : List Addr) (H H' : Hp) : Prop := Same (rs S H) (rs S H')
theorem Sta.of {S : List Addr} {H H' : Hp} (s : Same H H') : Sta S H H' := rs_same s
theorem Sta.trans {S : List Addr} {H H1 H2 : Hp} (a : Sta S H H1) (b : Sta S H1 H2) : Sta S H H2 := fun c o h => b c o (a c o h)
theorem Sta.at_ {S : List Addr} {H H' : Hp} (s : Sta S H H') {a : Addr} {o : HO} (m : a ∉ S) (h : H a = some o) : H' a = some o := (rs_some (s a o (by rw [rs_out m]; exact h))).2
theorem Sta.upd {S : List Addr} {H : Hp} {p : Addr} {o : HO} (h : p ∈ S) : Sta S H (L2.upd H p o) := fun c u e => by rw [rs_upd h]; exact e
theorem Sta.more {S : List Addr} {H H' : Hp} {p : Addr} (s : Sta S H H') : Sta (p :: S) H H' := fun c o h => by
  obtain ⟨m, e⟩ := rs_some h
  have m2 : c ∉ S := fun z => m (List.mem_cons_of_mem _ z)
  rw [rs_out m]
  exact s.at_ m2 e
theorem But.sta {g : Addr} {H H' : Hp} (b : But g H H') : Sta [g] H H' := fun c o h => by
  obtain ⟨m, e⟩ := rs_some h
  rw [rs_out m]
  exact b c o (fun z => m (by rw [z]; exact List.mem_cons_self)) e
/-- what was there ahead of a new thing does not speak of it -/
theorem under {S : List Addr} {H H' : Hp} {p : Addr} (n : H p = none) (s : Same H H') : Same (rs S H) (rs (p :: S) H') := fun c o h => by
  obtain ⟨m, e⟩ := rs_some h
  rw [rs_out (fun z => by
    rcases List.mem_cons.mp z with rfl | z
    · rw [n] at e; cases e
    · exact m z)]
  exact s c o e
theorem over {S : List Addr} {H : Hp} {p : Addr} : Same (rs (p :: S) H) (rs S H) := fun c o h => by
  obtain ⟨m, e⟩ := rs_some h
  rw [rs_out (fun z => m (List.mem_cons_of_mem _ z))]
  exact e
/-! ### a new list, a new tuple, a sum of lists -/
theorem dt_new {S : List Addr} {H : Hp} {p : Addr} {xs : List V} {ds : List PyData} (hS : Has S H) (n : H p = none) (h : DtA (rs S H) xs ds) : Dt (rs S (upd H p (.lst xs))) (.ref p) (.list ds) :=
  .lst (by rw [rs_out (hS.out n)]; exact upd_same) (h.same (rs_same (same_upd n)))
theorem dt_newT {S : List Addr} {H : Hp} {p : Addr} {xs : List V} {ds : List PyData} (hS : Has S H) (n : H p = none) (h : DtA (rs S H) xs ds) : Dt (rs S (upd H p (.tup xs))) (.ref p) (.tuple ds) :=
  .tup (by rw [rs_out (hS.out n)]; exact upd_same) (h.same (rs_same (same_upd n)))
theorem d_lst {S : List Addr} {H : Hp} {xs : List V} {ds : List PyData} {Q : VK} (hS : Has S H) (h : DtA (rs S H) xs ds) (hz : xs.length ≤ sizeLine) (k : ∀ p H', Same H H' → H p = none → H' p = some (.lst xs) → Dt (rs S H') (.ref p) (.list ds) → Q (.ref p) H') : xs.length ≤ sizeLine ∧ ∀ p, H p = none → Q (.ref p) (upd H p (.lst xs)) :=
  ⟨hz, fun p n => k p _ (same_upd n) n upd_same (dt_new hS n h)⟩
theorem d_tup {S : List Addr} {H : Hp} {xs : List V} {ds : List PyData} {Q : VK} (hS : Has S H) (h : DtA (rs S H) xs ds) (hz : xs.length ≤ sizeLine) (k : ∀ p H', Same H H' → H p = none → H' p = some (.tup xs) → Dt (rs S H') (.ref p) (.tuple ds) → Q (.ref p) H') : xs.length ≤ sizeLine ∧ ∀ p, H p = none → Q (.ref p) (upd H p (.tup xs)) :=
  ⟨hz, fun p n => k p _ (same_upd n) n upd_same (dt_newT hS n h)⟩
theorem d_cat {S : List Addr} {H : Hp} {v w : V} {ds es : List PyData} {Q : VK} (hS : Has S H) (hv : Dt (rs S H) v (.list ds)) (hw : Dt (rs S H) w (.list es)) (hz : ds.length + es.length ≤ sizeLine) (k : ∀ p H', Same H H' → H p = none → Dt (rs S H') (.ref p) (.list (ds ++ es)) → Q (.ref p) H') : rCat v w H Q := by
  obtain ⟨a, xs, rfl, ha, hx⟩ := hv.listE
  obtain ⟨b, ys, rfl, hb, hy⟩ := hw.listE
  exact ⟨a, b, xs, ys, rfl, rfl, (rs_some ha).2, (rs_some hb).2, by rw [hx.len, hy.len]; exact hz, fun p n => k p _ (same_upd n) n (dt_new hS n (hx.app hy))⟩
theorem d_eq {K : PySem.W.Frag} {H : Hp} {v w : V} {d e : PyData} {Q : VK} (hv : Dt H v d) (hw : Dt H w e) (sd : SeqAt.shaped d = true) (se : SeqAt.shaped e = true) (q : Q (.bl (PyData.eqv d e)) H) : rEqD K v w H Q := ⟨d, e, hv.dp, hw.dp, sd, se, q⟩
theorem d_ne {K : PySem.W.Frag} {H : Hp} {v w : V} {d e : PyData} {Q : VK} (hv : Dt H v d) (hw : Dt H w e) (sd : SeqAt.shaped d = true) (se : SeqAt.shaped e = true) (q : Q (.bl (!PyData.eqv d e)) H) : rNeD K v w H Q := ⟨d, e, hv.dp, hw.dp, sd, se, q⟩
/-! ### comprehensions -/
/-- what comes of an item: nothing, or data -/
def Out (S : List Addr) (H : Hp) : Option PyData → Option V → Prop
  | some d, some v => Dt (rs S H) v d
  | none, none => True
  | _, _ => False
def accP (S : List Addr) (H1 : Hp) (D : Addr) (ds : List PyData) (H : Hp) : Prop := Same H1 H ∧ ∃ ys, H D = some (.lst ys) ∧ DtA (rs (D :: S) H) ys ds
theorem acc_step {S : List Addr} {H1 : Hp} {D : Addr} {sel : List (Option PyData)} {i : Nat} {o : Option PyData} {H H4 : Hp} (nD : H1 D = none) (ho : sel[i]? = some o) (hz : sel.length < sizeLine) (h : accP S H1 D ((sel.take i).filterMap id) H) (s4 : Same H H4) :
    ∀ y : Option V, Out (D :: S) H4 o y → match y with
      | some v => ∃ acc, H4 D = some (.lst acc) ∧ acc.length < sizeLine ∧ accP S H1 D ((sel.take (i + 1)).filterMap id) (upd H4 D (.lst (acc ++ [v])))
      | none => accP S H1 D ((sel.take (i + 1)).filterMap id) H4 := by
  obtain ⟨s, ys, hD, hy⟩ := h
  intro y hO
  rw [take_fm ho]
  cases o with
  | none =>
    cases y with
    | none => exact ⟨s.trans s4, ys, s4 _ _ hD, by simpa using hy.same (rs_same s4)⟩
    | some v => exact absurd hO (fun z => z)
  | some d =>
    cases y with
    | none => exact absurd hO (fun z => z)
    | some v =>
      refine ⟨ys, s4 _ _ hD, ?_, same_over nD (s.trans s4), ys ++ [v], upd_same, ?_⟩
      · rw [hy.len]
        exact Nat.lt_of_le_of_lt (fm_len sel i) hz
      · rw [rs_upd List.mem_cons_self]
        exact (hy.same (rs_same s4)).app (.cons hO .nil)
theorem acc_end {S : List Addr} {H1 : Hp} {D : Addr} {ds : List PyData} {H : Hp} (hS : Has S H1) (nD : H1 D = none) (h : accP S H1 D ds H) : Dt (rs S H) (.ref D) (.list ds) := by
  obtain ⟨s, ys, hD, hy⟩ := h
  exact .lst (by rw [rs_out (hS.out nD)]; exact hD) (hy.same over)
theorem lc_dR {lo : Int} {n : Nat} {j : Nat} {tt : TT} {te : TE} {vs : List Nat} {σ : L2.St} {H1 : Hp} {D : Addr} {Qd : Hp → Prop} {S : List Addr} (hS : Has S H1) (sel : List (Option PyData)) (nD : H1 D = none) (hlen : sel.length = n) (hz : n < sizeLine)
    (hw : ∀ x, wipe ((wipe σ vs).set j (some x)) vs = wipe σ vs)
    (hs : ∀ (i : Nat) (o : Option PyData) (H' : Hp), i < n → sel[i]? = some o → Same H1 H' → Has (D :: S) H' → ∀ Qt : Option V → Hp → Prop, (∀ y H'', Same H' H'' → Out (D :: S) H'' o y → Qt y H'') →
      tt ((wipe σ vs).set j (some (.int (lo + (i : Int))))) H' fun b H3 => if b = true then te ((wipe σ vs).set j (some (.int (lo + (i : Int))))) H3 fun y H4 => Qt (some y) H4 else Qt none H3)
    (hd : ∀ H', Same H1 H' → H' D ≠ none → Dt (rs S H') (.ref D) (.list (sel.filterMap id)) → Qd H') :
    ∃ W : Nat → Nat → Hp → Prop, (∃ m, W 0 m (upd H1 D (.lst []))) ∧ ∀ i m H, W i m H →
      ((Itr lo n).stop i H ∧ Qd H) ∨ ((Itr lo n).go i H ∧ ∃ Nx : Hp → Prop, (∀ H', Nx H' → ∃ m', m' < m ∧ W (i + 1) m' H') ∧ ∀ x H', (Itr lo n).yld i H x H' → gName j x (wipe σ vs) H' fun σ2 H2 => wipe σ2 vs = wipe σ vs ∧ tt σ2 H2 fun b H3 =>
        if b = true then te σ2 H3 fun y H4 => ∃ acc, H4 D = some (.lst acc) ∧ acc.length < sizeLine ∧ Nx (upd H4 D (.lst (acc ++ [y]))) else Nx H3) := by
  refine lc_range (lo := lo) (n := n) (fun i H => accP S H1 D ((sel.take i).filterMap id) H) ⟨same_upd nD, [], upd_same, .nil⟩ ?_ ?_
  · rintro i H hi h
    refine ⟨hw _, ?_⟩
    have ho : sel[i]? = some (sel[i]'(by omega)) := List.getElem?_eq_getElem (by omega)
    obtain ⟨s, ys, hD, hy⟩ := id h
    exact hs i _ H hi ho s ((hS.same s).cons hD) (fun o H4 => match o with
      | some y => ∃ acc, H4 D = some (.lst acc) ∧ acc.length < sizeLine ∧ accP S H1 D ((sel.take (i + 1)).filterMap id) (upd H4 D (.lst (acc ++ [y])))
      | none => accP S H1 D ((sel.take (i + 1)).filterMap id) H4) fun y H4 s4 hO => acc_step nD ho (by omega) h s4 y hO
  · rintro H h
    rw [← hlen, List.take_length] at h
    refine hd H h.1 ?_ (acc_end hS nD h)
    obtain ⟨_, ys, hD, _⟩ := h
    rw [hD]
    exact fun z => nomatch z
theorem lc_dL {K : PySem.W.Frag} {a : Addr} {xs : List V} {j : Nat} {tt : TT} {te : TE} {vs : List Nat} {σ : L2.St} {H1 : Hp} {D : Addr} {Qd : Hp → Prop} {S : List Addr} (hS : Has S H1) (sel : List (Option PyData)) (nD : H1 D = none) (hA : SqL K H1 a xs) (hlen : sel.length = xs.length) (hz : xs.length < sizeLine)
    (hw : ∀ x, wipe ((wipe σ vs).set j (some x)) vs = wipe σ vs)
    (hs : ∀ (i : Nat) (x : V) (o : Option PyData) (H' : Hp), xs[i]? = some x → sel[i]? = some o → Same H1 H' → Has (D :: S) H' → ∀ Qt : Option V → Hp → Prop, (∀ y H'', Same H' H'' → Out (D :: S) H'' o y → Qt y H'') →
      tt ((wipe σ vs).set j (some x)) H' fun b H3 => if b = true then te ((wipe σ vs).set j (some x)) H3 fun y H4 => Qt (some y) H4 else Qt none H3)
    (hd : ∀ H', Same H1 H' → H' D ≠ none → Dt (rs S H') (.ref D) (.list (sel.filterMap id)) → Qd H') :
    ∃ W : Nat → Nat → Hp → Prop, (∃ m, W 0 m (upd H1 D (.lst []))) ∧ ∀ i m H, W i m H →
      ((Itl K a).stop i H ∧ Qd H) ∨ ((Itl K a).go i H ∧ ∃ Nx : Hp → Prop, (∀ H', Nx H' → ∃ m', m' < m ∧ W (i + 1) m' H') ∧ ∀ x H', (Itl K a).yld i H x H' → gName j x (wipe σ vs) H' fun σ2 H2 => wipe σ2 vs = wipe σ vs ∧ tt σ2 H2 fun b H3 =>
        if b = true then te σ2 H3 fun y H4 => ∃ acc, H4 D = some (.lst acc) ∧ acc.length < sizeLine ∧ Nx (upd H4 D (.lst (acc ++ [y]))) else Nx H3) := by
  refine lc_list (K := K) (a := a) (xs := xs) (fun i H => accP S H1 D ((sel.take i).filterMap id) H) ⟨same_upd nD, [], upd_same, .nil⟩ (fun i H _ p => p.1.seq hA) ?_ ?_
  · rintro i x H hx h
    refine ⟨hw _, ?_⟩
    have hi := (List.getElem?_eq_some_iff.mp hx).1
    have ho : sel[i]? = some (sel[i]'(by omega)) := List.getElem?_eq_getElem (by omega)
    obtain ⟨s, ys, hD, hy⟩ := id h
    exact hs i x _ H hx ho s ((hS.same s).cons hD) (fun o H4 => match o with
      | some y => ∃ acc, H4 D = some (.lst acc) ∧ acc.length < sizeLine ∧ accP S H1 D ((sel.take (i + 1)).filterMap id) (upd H4 D (.lst (acc ++ [y])))
      | none => accP S H1 D ((sel.take (i + 1)).filterMap id) H4) fun y H4 s4 hO => acc_step nD ho (by omega) h s4 y hO
  · rintro H h
    rw [← hlen, List.take_length] at h
    refine hd H h.1 ?_ (acc_end hS nD h)
    obtain ⟨_, ys, hD, _⟩ := h
    rw [hD]
    exact fun z => nomatch z
/-- maps: each item's data -/
theorem sel_map {α : Type} (l : List α) (f : α → PyData) : (l.map fun x => some (f x)).filterMap id = l.map f := by
  induction l with
  | nil => rfl
  | cons x l ih =>
    show f x :: (l.map fun x => some (f x)).filterMap id = _
    rw [ih]
    rfl
/-- over any walk -/
theorem lc_dW {J : It} {n : Nat} {G : Hp → Prop} {Y : Nat → Hp → V → Hp → Prop} (w : Walk J n G Y) {g : TG} {tt : TT} {te : TE} {vs : List Nat} {σ : L2.St} {H1 : Hp} {D : Addr} {Qd : Hp → Prop} {S : List Addr} (hS : Has S H1) (sel : List (Option PyData)) (nD : H1 D = none) (hlen : sel.length = n) (hz : n < sizeLine)
    (hG : ∀ H', Same H1 H' → G H')
    (hs : ∀ (i : Nat) (o : Option PyData) (H0 : Hp) (x : V) (H' : Hp), i < n → sel[i]? = some o → Same H1 H0 → Has (D :: S) H0 → Y i H0 x H' → ∀ Qt : Option V → Hp → Prop, (∀ y H'', Same H0 H'' → Out (D :: S) H'' o y → Qt y H'') →
      g x (wipe σ vs) H' fun σ2 H2 => wipe σ2 vs = wipe σ vs ∧ tt σ2 H2 fun b H3 => if b = true then te σ2 H3 fun y H4 => Qt (some y) H4 else Qt none H3)
    (hd : ∀ H', Same H1 H' → H' D ≠ none → Dt (rs S H') (.ref D) (.list (sel.filterMap id)) → Qd H') :
    ∃ W : Nat → Nat → Hp → Prop, (∃ m, W 0 m (upd H1 D (.lst []))) ∧ ∀ i m H, W i m H →
      (J.stop i H ∧ Qd H) ∨ (J.go i H ∧ ∃ Nx : Hp → Prop, (∀ H', Nx H' → ∃ m', m' < m ∧ W (i + 1) m' H') ∧ ∀ x H', J.yld i H x H' → g x (wipe σ vs) H' fun σ2 H2 => wipe σ2 vs = wipe σ vs ∧ tt σ2 H2 fun b H3 =>
        if b = true then te σ2 H3 fun y H4 => ∃ acc, H4 D = some (.lst acc) ∧ acc.length < sizeLine ∧ Nx (upd H4 D (.lst (acc ++ [y]))) else Nx H3) := by
  refine lc_it w (fun i H => accP S H1 D ((sel.take i).filterMap id) H) ⟨same_upd nD, [], upd_same, .nil⟩ (fun i H _ p => hG H p.1) ?_ ?_
  · rintro i x H H' hi h y
    have ho : sel[i]? = some (sel[i]'(by omega)) := List.getElem?_eq_getElem (by omega)
    obtain ⟨s, ys, hD, hy⟩ := id h
    exact hs i _ H x H' hi ho s ((hS.same s).cons hD) y (fun o H4 => match o with
      | some y => ∃ acc, H4 D = some (.lst acc) ∧ acc.length < sizeLine ∧ accP S H1 D ((sel.take (i + 1)).filterMap id) (upd H4 D (.lst (acc ++ [y])))
      | none => accP S H1 D ((sel.take (i + 1)).filterMap id) H4) fun y H4 s4 hO => acc_step nD ho (by omega) h s4 y hO
  · rintro H h
    rw [← hlen, List.take_length] at h
    refine hd H h.1 ?_ (acc_end hS nD h)
    obtain ⟨_, ys, hD, _⟩ := h
    rw [hD]
    exact fun z => nomatch z
theorem dt_pairs {K : PySem.W.Frag} {H : Hp} {a : Addr} {ps : List (Int × Int)} (h : Dt H (.ref a) (.list (ps.map pairD))) : PairsAt K H a ps := by
  cases h with
  | lst ha hx =>
    rename_i xs
    have key : ∀ (ps : List (Int × Int)) (xs : List V), DtA H xs (ps.map pairD) → ∃ as : List Addr, xs = as.map V.ref ∧ as.length = ps.length ∧ ∀ (i : Nat) (t : Addr) (p : Int × Int), as[i]? = some t → ps[i]? = some p → SqT K H t [.int p.1, .int p.2] := fun ps => by
      induction ps with
      | nil => intro xs h; cases h; exact ⟨[], rfl, rfl, fun i t p ht => by simp at ht⟩
      | cons p ps ih =>
        intro xs h
        cases h with
        | cons b c =>
          obtain ⟨as, rfl, hl, k⟩ := ih _ c
          obtain ⟨t, ys, rfl, ht, hy⟩ := (show Dt H _ (.tuple [.int p.1, .int p.2]) from b).tupE
          rw [DtA.intsE (ns := [p.1, p.2]) hy] at ht
          refine ⟨t :: as, rfl, by rw [List.length_cons, List.length_cons, hl], fun i u q hu hq => ?_⟩
          cases i with
          | zero =>
            rw [List.getElem?_cons_zero] at hu hq
            cases hu
            cases hq
            exact .inl (.inl ht)
          | succ i =>
            rw [List.getElem?_cons_succ] at hu hq
            exact k i u q hu hq
    obtain ⟨as, rfl, hl, k⟩ := key ps xs hx
    exact ⟨as, .inl (.inl ha), hl, k⟩
end My

namespace My
open PySem PySem.Spec PyProof.Rows L2 Pre
open Sem (wp)
/-! ### zip(xs, ys, strict=True) of lists and tuples of one length -/
/-- a strict zip object -/
abbrev SZip (h : Heap) (z TI TO : Addr) (f0 : Value) : Prop :=
  h.get? z = some { cls := .type "zip", dict := none, data := .fields #[f0, .bool false, .bool true, .ref TI, .ref TO], slots := #[] }
section
variable {prog : Program} {w : World} {A : Around} {E : Value → Shared → Prop} {s : Shared}
theorem draw_some {it : Addr} {fp : List Addr} {n i : Nat} {Pd : Nat → Value → Prop} {St : Nat → Heap → Prop} {Q : Option Value → Shared → Prop} (Dr : Draws prog w A it fp n Pd St) (lt : i < n) (st : St i s.heap)
    (go : ∀ x g' tk, Pd i x → St (i + 1) g' → Heap.SameBut it s.heap g' → Q (some x) { s with heap := g', toks := tk }) : wpAny (model prog w) A (Builtin.SmallTypes.nextOrEnd (.ref it)) Q E s := by
  unfold Builtin.SmallTypes.nextOrEnd
  exact wpAny_bind (wpAny_attempt (Dr.item i _ _ _ lt st fun x g' tk px st' sb => wpAny_pure (go x g' tk px st' sb)))
theorem draw_none {it : Addr} {fp : List Addr} {n : Nat} {Pd : Nat → Value → Prop} {St : Nat → Heap → Prop} {Q : Option Value → Shared → Prop} (Dr : Draws prog w A it fp n Pd St) (st : St n s.heap)
    (go : ∀ g', Heap.ExtBut it s.heap g' → Q none { s with heap := g' }) : wpAny (model prog w) A (Builtin.SmallTypes.nextOrEnd (.ref it)) Q E s := by
  unfold Builtin.SmallTypes.nextOrEnd
  refine wpAny_bind (wpAny_attempt (Dr.done _ _ _ st fun g' e ext he => ?_))
  obtain ⟨o, ho, hc⟩ := he
  exact wpAny_bind (wpAny_isInstance (T := "StopIteration") (b := true) ⟨o, ho, hc⟩ isSubtype_stop (wpAny_pure (go g' ext)))
theorem stop_raised {α : Type} {Q : α → Shared → Prop} (hh : A.handled = none) (go : ∀ g' e, (∀ c o, s.heap.get? c = some o → g'.get? c = some o) → (∃ o, g'.get? e = some o ∧ o.cls = .type "StopIteration") → E (.ref e) { s with heap := g' }) :
    wpAny (model prog w) A (Builtin.SmallTypes.stopIteration (α := α)) Q E s := by
  (show wpAny _ _ (newExc (.type "StopIteration") [] >>= _) _ _ _); refine wpAny_bind ?_; simp only [newExc, newTuple]
  refine wpAny_bind (wpAny_newObj_type (wpAny_bind (m := firstArgMember _ _) (wpAny_of_eq (a := Value.none) (by first | rfl | (simp only [firstArgMember]; rfl)) (wpAny_newObj_type ?_ (by size_fits)))) (by size_fits))
  simp only [raiseNew]; refine wpAny_bind (wpAny_handled ?_); rw [hh]; refine wpAny_bind (wpAny_pure (wpAny_throw ?_))
  exact go _ _ (fun c o e => Heap.get?_push_of_some _ (Heap.get?_push_of_some _ e)) ⟨_, Heap.get?_push_size _ rfl, rfl⟩
theorem zs_next (hh : A.handled = none) {z TI TO i1 i2 : Addr} {fp1 fp2 : List Addr} {n i : Nat} {Pa Pb : Nat → Value → Prop} {Sa Sb : Nat → Heap → Prop} {a b : Value} {Q : Value → Shared → Prop} (S : ZipSep2 z TI TO i1 i2 fp1 fp2)
    (Da : Draws prog w A i1 fp1 n Pa Sa) (Db : Draws prog w A i2 fp2 n Pb Sb) (hz : SZip s.heap z TI TO .none) (hI : IsTupOf2 s.heap TI (.ref i1) (.ref i2)) (hO : IsTupOf2 s.heap TO a b) (sa : Sa i s.heap) (sb : Sb i s.heap) (le : i ≤ n)
    (goes : i < n → ∀ x y g' tk, Pa i x → Pb i y → SZip g' z TI TO (rawInt s.heap.objs.size) → IsTupOf2 g' TO x y → Sa (i + 1) g' → Sb (i + 1) g' → IsTupOf2 g' s.heap.objs.size x y → g'.objs.size = s.heap.objs.size + 1 →
      (∀ c o, c ≠ z → c ≠ TO → c ≠ i1 → c ≠ i2 → s.heap.get? c = some o → g'.get? c = some o) → Q (.ref s.heap.objs.size) { s with heap := g', toks := tk })
    (ends : i = n → ∀ g' tk e, (∀ c o, c ≠ z → c ≠ TO → c ≠ i1 → c ≠ i2 → s.heap.get? c = some o → g'.get? c = some o) → (∃ o, g'.get? e = some o ∧ o.cls = .type "StopIteration") → E (.ref e) { s with heap := g', toks := tk }) :
    wpAny (model prog w) A (Builtin.«zip.__next__» ⟨[.ref z], []⟩) (fun fin s' => ∃ v, fin = .done (.ret v) ∧ Q v s') E s := by
  obtain ⟨hp, gs, dr, tk0, os⟩ := s
  (show wpAny _ _ (field (.ref z) 2 >>= _) _ _ _); refine wpAny_bind (wpAny_field hz rfl (x := .bool true) rfl ?_)
  (show wpAny _ _ (field (.ref z) 3 >>= _) _ _ _); refine wpAny_bind (wpAny_field hz rfl (x := .ref TI) rfl (wpAny_bind (wpAny_seqItems hI rfl ?_)))
  (show wpAny _ _ (Builtin.SmallTypes.ownedTupleIsFree (.ref z) >>= _) _ _ _); refine wpAny_bind ?_; unfold Builtin.SmallTypes.ownedTupleIsFree
  refine wpAny_bind (wpAny_field hz rfl (x := .none) rfl (wpAny_pure ?_)); simp only [if_true]; refine wpAny_bind (wpAny_rule (wpAny_bind (wpAny_field hz rfl (x := .ref TO) rfl ?_)))
  refine wpAny_bind (wpAny_setField_rec hz (by simp) fun g0 hz0 k0 => ?_)
  replace hz0 : SZip g0 z TI TO .ellipsis := hz0; replace k0 : Heap.SameBut z hp g0 := k0
  refine wpAny_bind ?_; simp only [List.zipIdx_cons, List.zipIdx_nil, List.forIn_cons, List.forIn_nil]; refine wpAny_bind (wpAny_bind (wpAny_onRaise ?_))
  (show wpAny _ _ (Builtin.SmallTypes.nextOrEnd (.ref i1)) _ _ ⟨g0, gs, dr, tk0, os⟩)
  rcases Nat.lt_or_ge i n with lt | ge
  · refine draw_some Da lt (Da.over sa k0 S.zf1) fun x p1 tk1 hx sn1 k1 => ?_
    have u1 : IsTupOf2 p1 TO a b := k1.extBut _ _ S.Ti1 (k0.extBut _ _ S.TOz hO)
    refine wpAny_bind (wpAny_seqItems (s := ⟨p1, gs, dr, tk1, os⟩) u1 rfl (wpAny_bind (updateSeq_IsTupOf2 (s := ⟨p1, gs, dr, tk1, os⟩) u1 fun g1 t1 m1 => wpAny_bind (wpAny_letGo (wpAny_pure ?_)))))
    replace t1 : IsTupOf2 g1 TO x b := t1; replace m1 : Heap.SameBut TO p1 g1 := m1
    refine wpAny_bind (wpAny_bind (wpAny_onRaise ?_)); (show wpAny _ _ (Builtin.SmallTypes.nextOrEnd (.ref i2)) _ _ ⟨g1, gs, dr, tk1, os⟩)
    refine draw_some Db lt (Db.over (Db.over (Db.over sb k0 S.zf2) k1 S.sep1_2) m1 S.Tf2) fun y p2 tk2 hy sn2 k2 => ?_
    replace k2 : Heap.SameBut i2 g1 p2 := k2
    have u2 : IsTupOf2 p2 TO x b := k2.extBut _ _ S.Ti2 t1
    refine wpAny_bind (wpAny_seqItems (s := ⟨p2, gs, dr, tk2, os⟩) u2 rfl (wpAny_bind (updateSeq_IsTupOf2 (s := ⟨p2, gs, dr, tk2, os⟩) u2 fun g2 t2 m2 => wpAny_bind (wpAny_letGo (wpAny_pure (wpAny_pure ?_))))))
    replace t2 : IsTupOf2 g2 TO x y := t2; replace m2 : Heap.SameBut TO p2 g2 := m2
    refine wpAny_bind (wpAny_seqItems (s := ⟨g2, gs, dr, tk2, os⟩) t2 rfl (wpAny_bind (wpAny_newTuple ?_)))
    have size2 : g2.objs.size = hp.objs.size := by rw [m2.1, k2.1, m1.1, k1.1, k0.1]
    have zz : SZip g2 z TI TO .ellipsis := m2.extBut _ _ S.TOz.symm (k2.extBut _ _ S.zi2 (m1.extBut _ _ S.TOz.symm (k1.extBut _ _ S.zi1 hz0)))
    have stay : ∀ c o, c ≠ z → c ≠ TO → c ≠ i1 → c ≠ i2 → hp.get? c = some o → g2.get? c = some o := fun c o cz cT c1 c2 e => m2.extBut _ _ cT (k2.extBut _ _ c2 (m1.extBut _ _ cT (k1.extBut _ _ c1 (k0.extBut _ _ cz e))))
    have na : Sa (i + 1) g2 := Da.over (Da.over (Da.over sn1 m1 S.Tf1) k2 S.sep2_1) m2 S.Tf1
    have nb : Sb (i + 1) g2 := Db.over sn2 m2 S.Tf2
    have zl : z < g2.objs.size := Heap.lt_size zz
    (show wpAny _ _ (Builtin.SmallTypes.ownedTupleHandOut (.ref z) (.ref g2.objs.size) >>= _) _ _ ⟨g2.push { cls := .type "tuple", data := .seq #[x, y] }, gs, dr, tk2, os⟩); refine wpAny_bind ?_; unfold Builtin.SmallTypes.ownedTupleHandOut
    have z3 : SZip (g2.push { cls := .type "tuple", data := .seq #[x, y] }) z TI TO .ellipsis := Heap.get?_push_of_some _ zz
    refine wpAny_bind (wpAny_setField_rec z3 (by simp) fun g4 z4 k4 => ?_)
    replace z4 : SZip g4 z TI TO (rawInt g2.objs.size) := z4
    refine wpAny_setField_rec z4 (by simp) fun g5 z5 k5 => ?_
    replace z5 : SZip g5 z TI TO (rawInt g2.objs.size) := z5; replace k4 : Heap.SameBut z (g2.push { cls := .type "tuple", data := .seq #[x, y] }) g4 := k4; replace k5 : Heap.SameBut z g4 g5 := k5
    have up5 : ∀ c o, c ≠ z → g2.get? c = some o → g5.get? c = some o := fun c o cz e => k5.extBut _ _ cz (k4.extBut _ _ cz (Heap.get?_push_of_some _ e))
    have t5 : IsTupOf2 g5 g2.objs.size x y := k5.extBut _ _ (Nat.ne_of_gt zl) (k4.extBut _ _ (Nat.ne_of_gt zl) (Heap.get?_push_size _ rfl))
    have size5 : g5.objs.size = g2.objs.size + 1 := by rw [k5.1, k4.1, Heap.size_push]
    rw [size2] at z5 t5 size5
    refine wpAny_pure ⟨_, rfl, ?_⟩; (show Q (.ref g2.objs.size) ⟨g5, gs, dr, tk2, os⟩); rw [size2]
    exact goes lt x y g5 tk2 hx hy z5 (up5 _ _ S.TOz t2) (Da.frame _ _ _ na fun c hc o e => up5 c o (fun q => S.zf1 (q ▸ hc)) e) (Db.frame _ _ _ nb fun c hc o e => up5 c o (fun q => S.zf2 (q ▸ hc)) e) t5 size5 fun c o cz cT c1 c2 e => up5 c o cz (stay c o cz cT c1 c2 e)
  · have ei : i = n := Nat.le_antisymm le ge
    subst ei
    refine draw_none Da (Da.over sa k0 S.zf1) fun g1 x1 => ?_
    replace x1 : Heap.ExtBut i1 g0 g1 := x1
    have z1 : SZip g1 z TI TO .ellipsis := x1 _ _ S.zi1 hz0
    refine wpAny_bind (wpAny_setField_rec (s := ⟨g1, gs, dr, tk0, os⟩) z1 (by simp) fun g2 z2 k2 => ?_)
    replace k2 : Heap.SameBut z g1 g2 := k2
    refine wpAny_bind ?_
    (show wpAny _ _ (forIn _ _ _ >>= _) _ _ ⟨g2, gs, dr, tk0, os⟩)
    simp only [List.drop_succ_cons, List.drop_zero, List.zipIdx_cons, List.zipIdx_nil, List.forIn_cons, List.forIn_nil]
    refine wpAny_bind (wpAny_bind (wpAny_bind (draw_none Db (s := ⟨g2, gs, dr, tk0, os⟩) (Db.frame _ _ _ sb fun c hc o e => ?_) fun g3 x3 => ?_)))
    · have cz : c ≠ z := fun q => S.zf2 (q ▸ hc)
      exact k2.extBut _ _ cz (x1 _ _ (fun q => S.sep1_2 (q ▸ hc)) (k0.extBut _ _ cz e))
    simp only [Option.isSome_none, Bool.false_eq_true, if_false]
    refine wpAny_pure (wpAny_pure (wpAny_bind (wpAny_rule (stop_raised (s := ⟨g3, gs, dr, tk0, os⟩) hh fun g4 e x4 he => ?_))))
    exact ends rfl g4 tk0 e (fun c o cz _ c1 c2 q => x4 _ _ (x3 _ _ c2 (k2.extBut _ _ cz (x1 _ _ c1 (k0.extBut _ _ cz q))))) he
theorem sz_type {z TI TO : Addr} {f0 : Value} (hz : SZip s.heap z TI TO f0) : s.TypeIs (.ref z) "zip" := ⟨_, hz, rfl⟩
theorem zs_pyNext (hh : A.handled = none) {z TI TO i1 i2 : Addr} {fp1 fp2 : List Addr} {n i : Nat} {Pa Pb : Nat → Value → Prop} {Sa Sb : Nat → Heap → Prop} {a b : Value} {Q : Option Value → Shared → Prop} (S : ZipSep2 z TI TO i1 i2 fp1 fp2)
    (Da : Draws prog w A.in1 i1 fp1 n Pa Sa) (Db : Draws prog w A.in1 i2 fp2 n Pb Sb) (hz : SZip s.heap z TI TO .none) (hI : IsTupOf2 s.heap TI (.ref i1) (.ref i2)) (hO : IsTupOf2 s.heap TO a b) (sa : Sa i s.heap) (sb : Sb i s.heap) (le : i ≤ n)
    (goes : i < n → ∀ x y g' tk, Pa i x → Pb i y → SZip g' z TI TO (rawInt s.heap.objs.size) → IsTupOf2 g' TO x y → Sa (i + 1) g' → Sb (i + 1) g' → IsTupOf2 g' s.heap.objs.size x y → g'.objs.size = s.heap.objs.size + 1 →
      (∀ c o, c ≠ z → c ≠ TO → c ≠ i1 → c ≠ i2 → s.heap.get? c = some o → g'.get? c = some o) → Q (some (.ref s.heap.objs.size)) { s with heap := g', toks := tk })
    (ends : i = n → ∀ g' tk, (∀ c o, c ≠ z → c ≠ TO → c ≠ i1 → c ≠ i2 → s.heap.get? c = some o → g'.get? c = some o) → Q none { s with heap := g', toks := tk }) :
    wpAny (model prog w) A (pyNext (.ref z)) Q E s := by
  unfold pyNext
  refine wpAny_bind (wpAny_attempt (wpAny_callSpecial?_slot (name := Str.ofString "__next__") (sz_type hz) F.slot_zip_next (wpAny_call_entry F.slot_zip_next (sz_type hz) F.entry_zip_next (zs_next (A := A.in1) (show A.in1.handled = none from hh) S Da Db hz hI hO sa sb le (fun lt x y g' tk p1 p2 p3 p4 p5 p6 p7 p8 p9 => wpAny_pure (goes lt x y g' tk p1 p2 p3 p4 p5 p6 p7 p8 p9)) fun e1 g' tk e k he => ?_) (F.args_zip_next_1 _))))
  obtain ⟨o, ho, hc⟩ := he
  exact wpAny_bind (wpAny_isInstance (T := "StopIteration") (b := true) ⟨o, ho, hc⟩ isSubtype_stop (wpAny_pure (ends e1 g' tk k)))
theorem zs_go {elts : List Expr} {k1} {pos : Pos} {z TI TO T : Addr} {Q : Unit → Shared → Prop} (hz : SZip s.heap z TI TO (rawInt T)) (go : ∀ g', SZip g' z TI TO .none → Heap.SameBut z s.heap g' → Q () { s with heap := g' }) :
    wpAny (model prog w) A (letOwnedTupleGo (.Tuple elts k1 pos) (.ref z) (.ref T)) Q E s := by
  unfold letOwnedTupleGo
  refine wpAny_bind (wpAny_load hz ?_)
  show wpAny _ _ (if (["enumerate", "zip", "dict_itemiterator", "dict_reverseitemiterator", "odict_iterator", "itertools.zip_longest", "itertools.pairwise"].contains "zip" && (#[rawInt T, .bool false, .bool true, .ref TI, .ref TO] : Array Value)[0]? == some (rawInt T)) = true then _ else _) Q E s
  rw [if_pos (by simp)]; refine wpAny_bind (wpAny_rule ?_); (show wpAny _ _ (setField (.ref z) 0 .none) Q E s)
  exact wpAny_setField_rec hz (by simp) fun g' z' k' => go g' z' k'
theorem zs_iter {z TI TO : Addr} {f0 : Value} {Q : Value → Shared → Prop} (hz : SZip s.heap z TI TO f0) (go : Q (.ref z) s) : wpAny (model prog w) A (pyIter (.ref z)) Q E s := by
  refine wpAny_pyIter_slot (sz_type hz) F.slot_zip_iter (wpAny_call_entry F.slot_zip_iter (sz_type hz) F.entry_zip_iter ?_ (F.args_zip_iter_1 _))
  (show wpAny _ _ (ret (.ref z)) _ _ s); exact wpAny_pure ⟨_, rfl, "zip", _, sz_type hz, F.slot_zip_next.lookup, go⟩
end
end My

namespace My
open PySem PySem.Spec PyProof.Rows L2 Pre
open Sem (wp)
theorem zs_tc (a b : Value) : checkTypeCall "zip" ⟨[a, b], [("strict", .bool true)]⟩ = pure () := by kernel_rfl
theorem zs_nc (a b : Value) : checkBuiltinCall "zip.__new__" ⟨[.type "zip", a, b], [("strict", .bool true)]⟩ = pure () := by kernel_rfl
theorem zs_ao (a b c : Value) : argsOk "object.__init__" ⟨[a, b, c], [("strict", .bool true)]⟩ := by
  unfold argsOk; rw [signature?_of (id := "object.__init__") (n := ['_', '_', 't', 'i', 'n', 'i', '_', '_']) (o := ['t', 'c', 'e', 'j', 'b', 'o']) (by kernel_rfl) PySem.F.owner_object]; kernel_rfl
section
variable {prog : Program} {w : World} {A : Around} {E : Value → Shared → Prop} {s : Shared}
theorem zs_init (v a b : Value) : Meets (Builtin.«object.__init__» ⟨[v, a, b], [("strict", .bool true)]⟩) (fun _ R s => s.TypeIs v "zip" ∧ R (.ok (.ret .none)) s) := by
  refine Meets.of_wp fun prog w A R s hs => ?_
  obtain ⟨hT, hq⟩ := hs; have hl := PySem.F.called_zip.init.lookup; have hm := PySem.F.called_zip.made
  repeat (any_goals (first | assumption | wp_step))
  exact ⟨_, rfl, hq⟩
theorem zs_call {a b : Value} {S : PySem.Spec} {Q : Value → Shared → Prop} (g : Meets (Builtin.«zip.__new__» ⟨[.type "zip", a, b], [("strict", .bool true)]⟩) S) (h : S A.in1 (wants (fun v s' => s'.TypeIs v "zip" ∧ Q v s') E) s) :
    wpAny (model prog w) A (call (.type "zip") [a, b] [("strict", .bool true)]) Q E s := by
  have ft := PySem.F.called_zip
  obtain ⟨c, tl, hmro⟩ := ft.mro
  have hmade := ft.made
  have hsub := ft.sub
  refine wpAny_call (codeAny_of_tree ?_)
  show wpAny _ _ (callAny (.type "zip") _) _ _ _
  refine wpAny_pure ⟨Code.quiet_builtin _ (by decide +kernel), codeAny_builtin PySem.F.entry_type_call ?_⟩
  rw [Around.under_plain (weight_type_call_type "zip" [a, b] [("strict", .bool true)]) (units_type_call_type "zip" [a, b] [("strict", .bool true)])]
  have h1 := ft.notType
  have h2 := ft.canCreate
  have htc := zs_tc a b
  repeat (any_goals (first | assumption | wp_step))
  refine codeAny_mono (codeAny_call_builtin ft.plain PySem.F.entry_zip_new (wpAny_of_eq (zs_nc a b) (g prog w A.in1 _ s h))) fun r s₁ hr => ?_
  cases r with
  | error e => exact hr
  | ok fl =>
    cases fl with
    | ret obj =>
      obtain ⟨hT, hq⟩ := hr
      have hli := ft.init.lookup
      have hbi := ft.init.bind obj
      repeat (any_goals (first | assumption | wp_step))
      refine codeAny_mono (codeAny_call_builtin ft.init.plain PySem.F.entry_object_init (ft.init.check _ _ _ _ _ _ _ _ hT (zs_ao obj a b) (zs_init obj a b prog w A.in1 _ s₁ (show (fun (_ : Around) (R : Except Value Flow → Shared → Prop) (s : Shared) => s.TypeIs obj "zip" ∧ R (.ok (.ret .none)) s) A.in1 (wants (fun r s₂ => r = .none ∧ Q obj s₂) E) s₁ from ⟨hT, rfl, hq⟩)))) fun r₂ s₂ hr₂ => ?_
      cases r₂ with
      | error e => exact hr₂
      | ok fl₂ =>
        cases fl₂ with
        | ret r =>
          obtain ⟨rfl, hq⟩ := hr₂
          repeat (any_goals (first | assumption | wp_step))
        | _ => exact hr₂.elim
    | _ => exact hr.elim
end
abbrev zq1 (h : Heap) (a : Addr) : Heap := h.push { cls := .type "tuple_iterator", data := .fields #[.ref a, .int 0 0] }
abbrev zq2 (h : Heap) (a b : Addr) : Heap := (zq1 h a).push { cls := .type "list_iterator", data := .fields #[.ref b, .int 0 0] }
abbrev zq3 (h : Heap) (a b : Addr) : Heap := (zq2 h a b).push { cls := .type "tuple", data := .seq #[.ref h.objs.size, .ref (zq1 h a).objs.size] }
abbrev zq4 (h : Heap) (a b : Addr) : Heap := (zq3 h a b).push { cls := .type "tuple", data := .seq #[.none, .none] }
abbrev zq5 (h : Heap) (a b : Addr) : Heap := (zq4 h a b).push { cls := .type "zip", data := .fields #[.none, .bool false, .bool true, .ref (zq2 h a b).objs.size, .ref (zq3 h a b).objs.size] }
theorem zs_new (a b : Addr) (xs ys : Array Value) :
    Meets (Builtin.«zip.__new__» ⟨[.type "zip", .ref a, .ref b], [("strict", .bool true)]⟩) (fun _ R s => s.heap.IsTuple a xs ∧ s.heap.IsList b ys ∧
      R (.ok (.ret (.ref (zq4 s.heap a b).objs.size))) { s with heap := zq5 s.heap a b }) :=
  .of_wp fun prog w A R s h => by
    obtain ⟨hp, g, d, tk, os⟩ := s; obtain ⟨ha, hb, h⟩ := h; have hsub := sub_zip
    have hA : Heap.IsTuple (Shared.heap ⟨hp, g, d, tk, os⟩) a xs := ha; have hB : Heap.IsList (Shared.heap ⟨hp.push { cls := .type "tuple_iterator", data := .fields #[.ref a, .int 0 0] }, g, d, tk, os⟩) b ys := Heap.IsList.push hb _
    wp_walk using wpAny_pyIter_tuple hA, wpAny_pyIter_list hB
    exact ⟨_, rfl, h⟩
end My

namespace My
open PySem PySem.Spec PyProof.Rows L2 Pre
open Sem (wp)
section
variable {prog : Program} {w : World} {A : Around} {E : Value → Shared → Prop} {s : Shared}
theorem zs_made {a b : Addr} {xs ys : Array Value} {Q : Value → Shared → Prop} (ha : s.heap.IsTuple a xs) (hb : s.heap.IsList b ys)
    (go : ∀ g', SZip g' (s.heap.objs.size + 4) (s.heap.objs.size + 2) (s.heap.objs.size + 3) .none → IsTupOf2 g' (s.heap.objs.size + 2) (.ref s.heap.objs.size) (.ref (s.heap.objs.size + 1)) → IsTupOf2 g' (s.heap.objs.size + 3) .none .none →
      g'.IsTupleIter s.heap.objs.size a 0 → g'.IsListIter (s.heap.objs.size + 1) b 0 → (∀ c o, s.heap.get? c = some o → g'.get? c = some o) → Q (.ref (s.heap.objs.size + 4)) { s with heap := g' }) :
    wpAny (model prog w) A (call (.type "zip") [.ref a, .ref b] [("strict", .bool true)]) Q E s := by
  refine zs_call (zs_new a b xs ys) ⟨ha, hb, ?_⟩
  have n1 : (zq1 s.heap a).objs.size = s.heap.objs.size + 1 := Heap.size_push ..
  have n2 : (zq2 s.heap a b).objs.size = s.heap.objs.size + 2 := by rw [Heap.size_push, n1]
  have n3 : (zq3 s.heap a b).objs.size = s.heap.objs.size + 3 := by rw [Heap.size_push, n2]
  have n4 : (zq4 s.heap a b).objs.size = s.heap.objs.size + 4 := by rw [Heap.size_push, n3]
  have p : ∀ {h : Heap} {o o' : Obj} {c : Addr}, h.get? c = some o → (h.push o').get? c = some o := fun e => Heap.get?_push_of_some _ e
  have q5 : (zq5 s.heap a b).get? (zq4 s.heap a b).objs.size = some _ := Heap.get?_push_size _ rfl
  have q4 : (zq5 s.heap a b).get? (zq3 s.heap a b).objs.size = some _ := p (Heap.get?_push_size _ rfl)
  have q3 : (zq5 s.heap a b).get? (zq2 s.heap a b).objs.size = some _ := p (p (Heap.get?_push_size _ rfl))
  have q2 : (zq5 s.heap a b).get? (zq1 s.heap a).objs.size = some _ := p (p (p (Heap.get?_push_size _ rfl)))
  have q1 : (zq5 s.heap a b).get? s.heap.objs.size = some _ := p (p (p (p (Heap.get?_push_size _ rfl))))
  show _ ∧ _; rw [n2, n3, n4] at q5; rw [n1, n2] at q3; rw [n3] at q4; rw [n1] at q2; rw [n4]
  exact ⟨⟨_, q5, rfl⟩, go _ q5 q3 q4 ⟨_, q1, rfl, rfl⟩ ⟨_, q2, rfl, rfl⟩ fun c o x => p (p (p (p (p x))))⟩
end
/-- the tuple at a and the list at b, of one length, side by side -/
def ItzS (K : PySem.W.Frag) (a b : Addr) : It :=
  ⟨fun i H => ∃ (xs ys : List V), SqT K H a xs ∧ SqL K H b ys ∧ xs.length = ys.length ∧ i < xs.length,
    fun i H v H' => ∃ T x y, v = .ref T ∧ H T = none ∧ H' = upd H T (.tup [x, y]) ∧ (∀ xs, SqT K H a xs → xs[i]? = some x) ∧ ∀ ys, SqL K H b ys → ys[i]? = some y,
    fun i H => ∃ xs ys : List V, SqT K H a xs ∧ SqL K H b ys ∧ xs.length = i ∧ ys.length = i⟩
theorem turn_zs {P : Program} {w : World} {K : PySem.W.Frag} {elts : List Expr} {kk : Nat} {tpos : Pos} {a b z TI TO i1 i2 : Addr} (D : ZipApart z TI TO i1 i2 a b) :
    Turn P w K (.Tuple elts kk tpos) (ItzS K a b) [z, TI, TO, i1, i2] z (fun i h => SZip h z TI TO .none ∧ IsTupOf2 h TI (.ref i1) (.ref i2) ∧ (∃ x y, IsTupOf2 h TO x y) ∧ h.IsTupleIter i1 a i ∧ h.IsListIter i2 b i) := by
  have Sp : ZipSep2 z TI TO i1 i2 [i1, a] [i2, b] := ⟨D.TIz, D.TOz, D.TITO, D.TIi1, by simp, by simp [D.i1z.symm, D.l1z.symm], by simp [D.TOi1, D.l1TO.symm], D.TIi2, by simp, by simp [D.i2z.symm, D.l2z.symm], by simp [D.TOi2, D.l2TO.symm], by simp [D.i12, D.l2i1.symm], by simp [D.i12.symm, D.l1i2.symm]⟩
  refine ⟨by simp, fun i h st c hc => ?_, fun i h h' st k => ?_, ?_, ?_, fun A i s Q E st h => zs_iter st.1 h⟩
  · obtain ⟨hz, hTI, ⟨x, y, hTO⟩, ⟨o1, e1, _, d1⟩, ⟨o2, e2, _, d2⟩⟩ := st
    have e' : c = z ∨ c = TI ∨ c = TO ∨ c = i1 ∨ c = i2 := by simpa using hc
    rcases e' with q | q | q | q | q <;> rw [q]
    · exact ⟨_, hz, fun v q => nomatch q⟩
    · exact ⟨_, hTI, fun v q => nomatch q⟩
    · exact ⟨_, hTO, fun v q => nomatch q⟩
    · exact ⟨o1, e1, fun v q => by rw [d1] at q; cases q⟩
    · exact ⟨o2, e2, fun v q => by rw [d2] at q; cases q⟩
  · obtain ⟨hz, hTI, ⟨x, y, hTO⟩, h1, h2⟩ := st
    have kz := k z (by simp); have kI := k TI (by simp); have kO := k TO (by simp)
    exact ⟨kz _ hz, kI _ hTI, ⟨x, y, kO _ hTO⟩, h1.at fun o q => k i1 (by simp) o q, h2.at fun o q => k i2 (by simp) o q⟩
  · intro X hP hw hK hc i pins s σ H E I hf st hg
    subst hP; subst hw; subst hK
    obtain ⟨hz, hTI, ⟨x0, y0, hTO⟩, h1, h2⟩ := st; obtain ⟨xs, ys, hqx, hqy, hl, hi⟩ := hg
    obtain ⟨its, rv, p, _⟩ := I.tuple hqx; obtain ⟨its2, rv2, p2, _⟩ := I.list hqy
    have l1 := rv.length; have l2 := rv2.length
    have hzl : z < s.heap.objs.size := Heap.lt_size hz
    have hh : X.A.handled = none := I.ok.hd hc
    have Da := Draws.tuple (prog := X.prog) (w := X.w) (A := X.A.in1) (show X.A.in1.handled = none from hh) i1 a D.l1i1 its.toArray
    have Db0 := Draws.list (prog := X.prog) (w := X.w) (A := X.A.in1) (show X.A.in1.handled = none from hh) i2 b D.l2i2 its2.toArray
    have esz : its2.toArray.size = its.toArray.size := by simp; omega
    have Db : Draws X.prog X.w X.A.in1 i2 [i2, b] its.toArray.size (fun j v => its2.toArray[j]? = some v) (fun j h => h.IsListIter i2 b j ∧ h.IsList b its2.toArray) := by rw [← esz]; exact Db0
    have hin : i < its.toArray.size := by simp; omega
    refine zs_pyNext (s := s) hh Sp Da Db hz hTI hTO ⟨h1, p⟩ ⟨h2, p2.isList⟩ (Nat.le_of_lt hin) (fun _ u u2 h' tk px py z' TO' sa' sb' hT hsz hk => ?_) (fun e => absurd e (Nat.ne_of_lt hin))
    have hu : its[i]? = some u := by simpa using px
    have hu2 : its2[i]? = some u2 := by simpa using py
    obtain ⟨x, hx⟩ : ∃ x, xs[i]? = some x := ⟨_, List.getElem?_eq_getElem hi⟩
    obtain ⟨y, hy⟩ : ∃ y, ys[i]? = some y := ⟨_, List.getElem?_eq_getElem (hl ▸ hi)⟩
    obtain ⟨u', hu', ru⟩ := rv.get hx; obtain ⟨u2', hu2', ru2⟩ := rv2.get hy
    rw [hu] at hu'; cases hu'; rw [hu2] at hu2'; cases hu2'
    refine ⟨_, rfl, zs_go (s := { s with heap := h', toks := tk }) z' fun h'' z'' sb => ?_⟩
    have hT2 : h''.get? s.heap.objs.size = some { cls := .type "tuple", data := .seq #[u, u2] } := (sb.2 _ (Nat.ne_of_gt hzl)).trans hT
    have new : ObjOk X.prog X.w (upd H s.heap.objs.size (.tup [x, y])) h'' s.heap.objs.size (.tup [x, y]) := ⟨by show 2 ≤ sizeLine; decide, [u, u2], .cons ru (.cons ru2 .nil), ⟨_, hT2, rfl, _, rfl⟩⟩
    have I1 : Inv X pins σ (upd H s.heap.objs.size (.tup [x, y])) { s with heap := h'', toks := tk } :=
      I.turnedNew (t' := tk) (ch := [z, TI, TO, i1, i2]) (fun c o hb q => (sb.2 c (fun q' => hb (by simp [q']))).trans (hk c o (fun q' => hb (by simp [q'])) (fun q' => hb (by simp [q'])) (fun q' => hb (by simp [q'])) (fun q' => hb (by simp [q'])) q)) hf (Nat.le_refl _) new
    refine ⟨.ref s.heap.objs.size, _, I1, rfl, ⟨_, x, y, rfl, I.hok.fresh (Nat.le_refl _), rfl, fun l hl => by rw [I.tuple_inj hl hqx]; exact hx, fun l hl => by rw [I.list_inj hl hqy]; exact hy⟩, ⟨z'', (sb.2 _ D.TIz).trans (hk _ _ D.TIz D.TITO D.TIi1 D.TIi2 hTI), ⟨u, u2, (sb.2 _ D.TOz).trans TO'⟩, sa'.1.at fun o q => (sb.2 _ D.i1z).trans q, sb'.1.at fun o q => (sb.2 _ D.i2z).trans q⟩, fun c hcm => ?_⟩
    have hlt : c < s.heap.objs.size := by
      have e' : c = z ∨ c = TI ∨ c = TO ∨ c = i1 ∨ c = i2 := by simpa using hcm
      rcases e' with q | q | q | q | q <;> rw [q]
      · exact hzl
      · exact Heap.lt_size hTI
      · exact Heap.lt_size hTO
      · obtain ⟨_, e1, _⟩ := h1; exact Heap.lt_size e1
      · obtain ⟨_, e2, _⟩ := h2; exact Heap.lt_size e2
    rw [upd_ne (Nat.ne_of_lt hlt)]; exact (hf c hcm).1
  · intro X hP hw hK hc i pins s σ H E I hf st hg
    subst hP; subst hw; subst hK
    obtain ⟨hz, hTI, ⟨x0, y0, hTO⟩, h1, h2⟩ := st; obtain ⟨xs, ys, hqx, hqy, hl, hl2⟩ := hg
    obtain ⟨its, rv, p, _⟩ := I.tuple hqx; obtain ⟨its2, rv2, p2, _⟩ := I.list hqy
    have l1 := rv.length; have l2 := rv2.length
    have hh : X.A.handled = none := I.ok.hd hc
    have Da := Draws.tuple (prog := X.prog) (w := X.w) (A := X.A.in1) (show X.A.in1.handled = none from hh) i1 a D.l1i1 its.toArray
    have Db0 := Draws.list (prog := X.prog) (w := X.w) (A := X.A.in1) (show X.A.in1.handled = none from hh) i2 b D.l2i2 its2.toArray
    have esz : its2.toArray.size = its.toArray.size := by simp; omega
    have Db : Draws X.prog X.w X.A.in1 i2 [i2, b] its.toArray.size (fun j v => its2.toArray[j]? = some v) (fun j h => h.IsListIter i2 b j ∧ h.IsList b its2.toArray) := by rw [← esz]; exact Db0
    have hin : i = its.toArray.size := by simp; omega
    refine zs_pyNext (s := s) hh Sp Da Db hz hTI hTO ⟨h1, p⟩ ⟨h2, p2.isList⟩ (Nat.le_of_eq hin) (fun lt => absurd hin (Nat.ne_of_lt lt)) (fun _ h' tk hk => ⟨rfl, I.turnedL (t' := tk) (ch := [z, TI, TO, i1, i2]) (fun c o hb q => hk c o (fun q' => hb (by simp [q'])) (fun q' => hb (by simp [q'])) (fun q' => hb (by simp [q'])) (fun q' => hb (by simp [q'])) q) hf⟩)
section
variable {M : Model} {A : Around} {E : Value → Shared → Prop} {s : Shared} {env : Env}
theorem tykw {pos : Pos} {T : String} {e : Expr} {rest : List Expr} {kws : List Keyword} {Q : Value → Shared → Prop}
    (h : wpAny M A (spliced (backTo pos (starEach (e :: rest) env))) (fun vs s1 => wpAny M A (evalAll ((backToKw pos (keywordEach kws env)).map (·.2))) (fun ws s2 => wpAny M A (call (.type T) vs (((backToKw pos (keywordEach kws env)).filterMap (·.1)).zip ws)) Q E s2) E s1) E s)
    (he : backTo pos (starEach (e :: rest) env) = (false, eval e env) :: backTo pos (starEach rest env) := by rfl) (hp : (backTo pos (starEach (e :: rest) env)).any (·.1) = false := by rfl)
    (ha : (backToKw pos (keywordEach kws env)).all (·.1.isSome) = true := by rfl) (hk : (backToKw pos (keywordEach kws env)).any (·.1.isNone) = false := by rfl) : wpAny M A (callWith pos (.type T) [] (backTo pos (starEach (e :: rest) env)) (backToKw pos (keywordEach kws env))) Q E s := by
  unfold callWith
  refine wpAny_bind (wpAny_holding (wpAny_mono (Q := fun a s1 => wpAny M A (call (.type T) ([] ++ a.pos) a.kw) Q E s1) ?_ (fun a s1 h1 => wpAny_bind (wpAny_standAt ?_)) fun _ _ z => z))
  · rw [he] at h ⊢; exact evalArgs_kwB ha h
  · simp only [hp, hk, Bool.or_false]; refine wpAny_bind (wpAny_pure ?_)
    exact wpAny_bind (wpAny_mono h1 (fun r s2 hr => wpAny_bind (wpAny_holding (wpAny_point (wpAny_pure hr)))) fun _ _ z => z)
end
def iZipS (K : PySem.W.Frag) (ta tk : TA) : TI := fun σ H R => ta σ H fun vs H1 => tk σ H1 fun zs H2 => zs = [.bl true] ∧ ∃ a b xs ys, vs = [.ref a, .ref b] ∧ SqT K H2 a xs ∧ SqL K H2 b ys ∧ R (ItzS K a b) H2
theorem pi_zs {X : Cx} {e e2 : Expr} {kws : List Keyword} {ta tk : TA} {p pos tpos : Pos} {elts : List Expr} {kk : Nat} (hg : Gl X "zip") (hm : X.mg "zip" = none) (ha : PA X [e, e2] ta) (hk : PK X kws tk)
    (he : backTo pos (starEach [e, e2] X.env) = (false, eval e X.env) :: backTo pos (starEach [e2] X.env) := by rfl) (hp : (backTo pos (starEach [e, e2] X.env)).any (·.1) = false := by rfl)
    (hal : (backToKw pos (keywordEach kws X.env)).all (·.1.isSome) = true := by rfl) (hkn : (backToKw pos (keywordEach kws X.env)).any (·.1.isNone) = false := by rfl) (hks : (backToKw pos (keywordEach kws X.env)).filterMap (·.1) = [("strict" : Str)] := by rfl) :
    PI X (.Tuple elts kk tpos) (.Call (.Name "zip" p) [e, e2] kws pos) (iZipS X.K ta tk) := by
  refine ⟨fun pins s σ H R I h => wpAny_Call_Name_kw (ld_blt I hg hm PyProof.Rows.boot_zip (tykw (thn (ha.run pos pins s σ H _ I h) fun us s1 ⟨vs, H1, I1, r1, q1⟩ => thn (hk.run pos pins s1 σ H1 _ I1 q1) fun ws s2 ⟨zs, H2, I2, r2, q2⟩ => ?_) he hp hal hkn))⟩
  rw [hks]; obtain ⟨ez, a, b, xs, ys, ex, hqx, hqy, q⟩ := q2
  subst ez; subst ex
  cases r2 with
  | cons rb rr => cases rr; cases (show _ = Value.bool true from rb); cases r1 with
    | cons r rr => cases rr with
      | cons r' rr =>
        cases rr; cases r; cases r'
        obtain ⟨its, rv, p1, _⟩ := I2.tuple hqx; obtain ⟨its2, rv2, p2, _⟩ := I2.list hqy
        refine zs_made p1 p2.isList fun g' hz hTI hTO h1 h2 hk' => zs_iter hz ?_
        have I3 : Inv X pins σ H2 { s2 with heap := g' } := I2.kept (t' := s2.toks) hk'
        obtain ⟨o1, ho1, _⟩ := id p1
        refine ⟨s2.heap.objs.size + 4, [s2.heap.objs.size + 4, s2.heap.objs.size + 2, s2.heap.objs.size + 3, s2.heap.objs.size, s2.heap.objs.size + 1], _, _, H2, rfl, I3, turn_zs (PySem.W.ktu_apart s2.heap.objs.size a b (Heap.lt_size ho1) p2.lt), ⟨hz, hTI, ⟨_, _, hTO⟩, h1, h2⟩, fun c hcm => ?_, q⟩
        have hle : s2.heap.objs.size ≤ c := by
          have e' : c = s2.heap.objs.size + 4 ∨ c = s2.heap.objs.size + 2 ∨ c = s2.heap.objs.size + 3 ∨ c = s2.heap.objs.size ∨ c = s2.heap.objs.size + 1 := by simpa using hcm
          rcases e' with z | z | z | z | z <;> rw [z] <;> first | exact Nat.le_add_right _ _ | exact Nat.le_refl _
        exact I2.fpOk hle (I2.hok.fresh hle)
theorem walk_zs {K : PySem.W.Frag} {a b : Addr} {xs ys : List V} (hl : xs.length = ys.length) : Walk (ItzS K a b) xs.length (fun H => SqT K H a xs ∧ SqL K H b ys) (YPair (fun i => xs[i]?) (fun i => ys[i]?)) :=
  ⟨fun i _ hi q => ⟨xs, ys, q.1, q.2, hl, hi⟩, fun _ q => ⟨xs, ys, q.1, q.2, rfl, hl.symm⟩, fun i H v H' _ q ⟨T, x, z, h1, h2, h3, h4, h5⟩ => ⟨T, x, z, h1, h2, h3, h4 xs q.1, h5 ys q.2⟩⟩
theorem k_piZS {X : Cx} (K : PySem.W.Frag) (h : X.K = K) {e e2 : Expr} {kws : List Keyword} {ta tk : TA} {p pos tpos : Pos} {elts : List Expr} {kk : Nat} (hg : Gl X "zip") (hm : X.mg "zip" = none) (ha : PA X [e, e2] ta) (hk : PK X kws tk)
    (he : backTo pos (starEach [e, e2] X.env) = (false, eval e X.env) :: backTo pos (starEach [e2] X.env) := by rfl) (hp : (backTo pos (starEach [e, e2] X.env)).any (·.1) = false := by rfl)
    (hal : (backToKw pos (keywordEach kws X.env)).all (·.1.isSome) = true := by rfl) (hkn : (backToKw pos (keywordEach kws X.env)).any (·.1.isNone) = false := by rfl) (hks : (backToKw pos (keywordEach kws X.env)).filterMap (·.1) = [("strict" : Str)] := by rfl) :
    PI X (.Tuple elts kk tpos) (.Call (.Name "zip" p) [e, e2] kws pos) (iZipS K ta tk) := by subst h; exact pi_zs hg hm ha hk he hp hal hkn hks
end My

namespace My
open PySem PySem.Spec PyProof.Rows L2 Pre
open Sem (wp)
/-! ### zip(xs, ys, strict=True) of two lists -/
abbrev zr1 (h : Heap) (a : Addr) : Heap := h.push { cls := .type "list_iterator", data := .fields #[.ref a, .int 0 0] }
abbrev zr2 (h : Heap) (a b : Addr) : Heap := (zr1 h a).push { cls := .type "list_iterator", data := .fields #[.ref b, .int 0 0] }
abbrev zr3 (h : Heap) (a b : Addr) : Heap := (zr2 h a b).push { cls := .type "tuple", data := .seq #[.ref h.objs.size, .ref (zr1 h a).objs.size] }
abbrev zr4 (h : Heap) (a b : Addr) : Heap := (zr3 h a b).push { cls := .type "tuple", data := .seq #[.none, .none] }
abbrev zr5 (h : Heap) (a b : Addr) : Heap := (zr4 h a b).push { cls := .type "zip", data := .fields #[.none, .bool false, .bool true, .ref (zr2 h a b).objs.size, .ref (zr3 h a b).objs.size] }
theorem zl_new (a b : Addr) (xs ys : Array Value) :
    Meets (Builtin.«zip.__new__» ⟨[.type "zip", .ref a, .ref b], [("strict", .bool true)]⟩) (fun _ R s => s.heap.IsList a xs ∧ s.heap.IsList b ys ∧
      R (.ok (.ret (.ref (zr4 s.heap a b).objs.size))) { s with heap := zr5 s.heap a b }) :=
  .of_wp fun prog w A R s h => by
    obtain ⟨hp, g, d, tk, os⟩ := s; obtain ⟨ha, hb, h⟩ := h; have hsub := sub_zip
    have hA : Heap.IsList (Shared.heap ⟨hp, g, d, tk, os⟩) a xs := ha; have hB : Heap.IsList (Shared.heap ⟨hp.push { cls := .type "list_iterator", data := .fields #[.ref a, .int 0 0] }, g, d, tk, os⟩) b ys := Heap.IsList.push hb _
    wp_walk using wpAny_pyIter_list hA, wpAny_pyIter_list hB
    exact ⟨_, rfl, h⟩
section
variable {prog : Program} {w : World} {A : Around} {E : Value → Shared → Prop} {s : Shared}
theorem zl_made {a b : Addr} {xs ys : Array Value} {Q : Value → Shared → Prop} (ha : s.heap.IsList a xs) (hb : s.heap.IsList b ys)
    (go : ∀ g', SZip g' (s.heap.objs.size + 4) (s.heap.objs.size + 2) (s.heap.objs.size + 3) .none → IsTupOf2 g' (s.heap.objs.size + 2) (.ref s.heap.objs.size) (.ref (s.heap.objs.size + 1)) → IsTupOf2 g' (s.heap.objs.size + 3) .none .none →
      g'.IsListIter s.heap.objs.size a 0 → g'.IsListIter (s.heap.objs.size + 1) b 0 → (∀ c o, s.heap.get? c = some o → g'.get? c = some o) → Q (.ref (s.heap.objs.size + 4)) { s with heap := g' }) :
    wpAny (model prog w) A (call (.type "zip") [.ref a, .ref b] [("strict", .bool true)]) Q E s := by
  refine zs_call (zl_new a b xs ys) ⟨ha, hb, ?_⟩
  have n1 : (zr1 s.heap a).objs.size = s.heap.objs.size + 1 := Heap.size_push ..
  have n2 : (zr2 s.heap a b).objs.size = s.heap.objs.size + 2 := by rw [Heap.size_push, n1]
  have n3 : (zr3 s.heap a b).objs.size = s.heap.objs.size + 3 := by rw [Heap.size_push, n2]
  have n4 : (zr4 s.heap a b).objs.size = s.heap.objs.size + 4 := by rw [Heap.size_push, n3]
  have p : ∀ {h : Heap} {o o' : Obj} {c : Addr}, h.get? c = some o → (h.push o').get? c = some o := fun e => Heap.get?_push_of_some _ e
  have q5 : (zr5 s.heap a b).get? (zr4 s.heap a b).objs.size = some _ := Heap.get?_push_size _ rfl
  have q4 : (zr5 s.heap a b).get? (zr3 s.heap a b).objs.size = some _ := p (Heap.get?_push_size _ rfl)
  have q3 : (zr5 s.heap a b).get? (zr2 s.heap a b).objs.size = some _ := p (p (Heap.get?_push_size _ rfl))
  have q2 : (zr5 s.heap a b).get? (zr1 s.heap a).objs.size = some _ := p (p (p (Heap.get?_push_size _ rfl)))
  have q1 : (zr5 s.heap a b).get? s.heap.objs.size = some _ := p (p (p (p (Heap.get?_push_size _ rfl))))
  show _ ∧ _; rw [n2, n3, n4] at q5; rw [n1, n2] at q3; rw [n3] at q4; rw [n1] at q2; rw [n4]
  exact ⟨⟨_, q5, rfl⟩, go _ q5 q3 q4 ⟨_, q1, rfl, rfl⟩ ⟨_, q2, rfl, rfl⟩ fun c o x => p (p (p (p (p x))))⟩
end
/-- the lists at a and b, of one length, side by side -/
def ItzL (K : PySem.W.Frag) (a b : Addr) : It :=
  ⟨fun i H => ∃ (xs ys : List V), SqL K H a xs ∧ SqL K H b ys ∧ xs.length = ys.length ∧ i < xs.length,
    fun i H v H' => ∃ T x y, v = .ref T ∧ H T = none ∧ H' = upd H T (.tup [x, y]) ∧ (∀ xs, SqL K H a xs → xs[i]? = some x) ∧ ∀ ys, SqL K H b ys → ys[i]? = some y,
    fun i H => ∃ xs ys : List V, SqL K H a xs ∧ SqL K H b ys ∧ xs.length = i ∧ ys.length = i⟩
theorem turn_zl {P : Program} {w : World} {K : PySem.W.Frag} {elts : List Expr} {kk : Nat} {tpos : Pos} {a b z TI TO i1 i2 : Addr} (D : ZipApart z TI TO i1 i2 a b) :
    Turn P w K (.Tuple elts kk tpos) (ItzL K a b) [z, TI, TO, i1, i2] z (fun i h => SZip h z TI TO .none ∧ IsTupOf2 h TI (.ref i1) (.ref i2) ∧ (∃ x y, IsTupOf2 h TO x y) ∧ h.IsListIter i1 a i ∧ h.IsListIter i2 b i) := by
  have Sp : ZipSep2 z TI TO i1 i2 [i1, a] [i2, b] := ⟨D.TIz, D.TOz, D.TITO, D.TIi1, by simp, by simp [D.i1z.symm, D.l1z.symm], by simp [D.TOi1, D.l1TO.symm], D.TIi2, by simp, by simp [D.i2z.symm, D.l2z.symm], by simp [D.TOi2, D.l2TO.symm], by simp [D.i12, D.l2i1.symm], by simp [D.i12.symm, D.l1i2.symm]⟩
  refine ⟨by simp, fun i h st c hc => ?_, fun i h h' st k => ?_, ?_, ?_, fun A i s Q E st h => zs_iter st.1 h⟩
  · obtain ⟨hz, hTI, ⟨x, y, hTO⟩, ⟨o1, e1, _, d1⟩, ⟨o2, e2, _, d2⟩⟩ := st
    have e' : c = z ∨ c = TI ∨ c = TO ∨ c = i1 ∨ c = i2 := by simpa using hc
    rcases e' with q | q | q | q | q <;> rw [q]
    · exact ⟨_, hz, fun v q => nomatch q⟩
    · exact ⟨_, hTI, fun v q => nomatch q⟩
    · exact ⟨_, hTO, fun v q => nomatch q⟩
    · exact ⟨o1, e1, fun v q => by rw [d1] at q; cases q⟩
    · exact ⟨o2, e2, fun v q => by rw [d2] at q; cases q⟩
  · obtain ⟨hz, hTI, ⟨x, y, hTO⟩, h1, h2⟩ := st
    have kz := k z (by simp); have kI := k TI (by simp); have kO := k TO (by simp)
    exact ⟨kz _ hz, kI _ hTI, ⟨x, y, kO _ hTO⟩, h1.at fun o q => k i1 (by simp) o q, h2.at fun o q => k i2 (by simp) o q⟩
  · intro X hP hw hK hc i pins s σ H E I hf st hg
    subst hP; subst hw; subst hK
    obtain ⟨hz, hTI, ⟨x0, y0, hTO⟩, h1, h2⟩ := st; obtain ⟨xs, ys, hqx, hqy, hl, hi⟩ := hg
    obtain ⟨its, rv, p, _⟩ := I.list hqx; obtain ⟨its2, rv2, p2, _⟩ := I.list hqy
    have l1 := rv.length; have l2 := rv2.length
    have hzl : z < s.heap.objs.size := Heap.lt_size hz
    have hh : X.A.handled = none := I.ok.hd hc
    have Da := Draws.list (prog := X.prog) (w := X.w) (A := X.A.in1) (show X.A.in1.handled = none from hh) i1 a D.l1i1 its.toArray
    have Db0 := Draws.list (prog := X.prog) (w := X.w) (A := X.A.in1) (show X.A.in1.handled = none from hh) i2 b D.l2i2 its2.toArray
    have esz : its2.toArray.size = its.toArray.size := by simp; omega
    have Db : Draws X.prog X.w X.A.in1 i2 [i2, b] its.toArray.size (fun j v => its2.toArray[j]? = some v) (fun j h => h.IsListIter i2 b j ∧ h.IsList b its2.toArray) := by rw [← esz]; exact Db0
    have hin : i < its.toArray.size := by simp; omega
    refine zs_pyNext (s := s) hh Sp Da Db hz hTI hTO ⟨h1, p.isList⟩ ⟨h2, p2.isList⟩ (Nat.le_of_lt hin) (fun _ u u2 h' tk px py z' TO' sa' sb' hT hsz hk => ?_) (fun e => absurd e (Nat.ne_of_lt hin))
    have hu : its[i]? = some u := by simpa using px
    have hu2 : its2[i]? = some u2 := by simpa using py
    obtain ⟨x, hx⟩ : ∃ x, xs[i]? = some x := ⟨_, List.getElem?_eq_getElem hi⟩
    obtain ⟨y, hy⟩ : ∃ y, ys[i]? = some y := ⟨_, List.getElem?_eq_getElem (hl ▸ hi)⟩
    obtain ⟨u', hu', ru⟩ := rv.get hx; obtain ⟨u2', hu2', ru2⟩ := rv2.get hy
    rw [hu] at hu'; cases hu'; rw [hu2] at hu2'; cases hu2'
    refine ⟨_, rfl, zs_go (s := { s with heap := h', toks := tk }) z' fun h'' z'' sb => ?_⟩
    have hT2 : h''.get? s.heap.objs.size = some { cls := .type "tuple", data := .seq #[u, u2] } := (sb.2 _ (Nat.ne_of_gt hzl)).trans hT
    have new : ObjOk X.prog X.w (upd H s.heap.objs.size (.tup [x, y])) h'' s.heap.objs.size (.tup [x, y]) := ⟨by show 2 ≤ sizeLine; decide, [u, u2], .cons ru (.cons ru2 .nil), ⟨_, hT2, rfl, _, rfl⟩⟩
    have I1 : Inv X pins σ (upd H s.heap.objs.size (.tup [x, y])) { s with heap := h'', toks := tk } :=
      I.turnedNew (t' := tk) (ch := [z, TI, TO, i1, i2]) (fun c o hb q => (sb.2 c (fun q' => hb (by simp [q']))).trans (hk c o (fun q' => hb (by simp [q'])) (fun q' => hb (by simp [q'])) (fun q' => hb (by simp [q'])) (fun q' => hb (by simp [q'])) q)) hf (Nat.le_refl _) new
    refine ⟨.ref s.heap.objs.size, _, I1, rfl, ⟨_, x, y, rfl, I.hok.fresh (Nat.le_refl _), rfl, fun l hl => by rw [I.list_inj hl hqx]; exact hx, fun l hl => by rw [I.list_inj hl hqy]; exact hy⟩, ⟨z'', (sb.2 _ D.TIz).trans (hk _ _ D.TIz D.TITO D.TIi1 D.TIi2 hTI), ⟨u, u2, (sb.2 _ D.TOz).trans TO'⟩, sa'.1.at fun o q => (sb.2 _ D.i1z).trans q, sb'.1.at fun o q => (sb.2 _ D.i2z).trans q⟩, fun c hcm => ?_⟩
    have hlt : c < s.heap.objs.size := by
      have e' : c = z ∨ c = TI ∨ c = TO ∨ c = i1 ∨ c = i2 := by simpa using hcm
      rcases e' with q | q | q | q | q <;> rw [q]
      · exact hzl
      · exact Heap.lt_size hTI
      · exact Heap.lt_size hTO
      · obtain ⟨_, e1, _⟩ := h1; exact Heap.lt_size e1
      · obtain ⟨_, e2, _⟩ := h2; exact Heap.lt_size e2
    rw [upd_ne (Nat.ne_of_lt hlt)]; exact (hf c hcm).1
  · intro X hP hw hK hc i pins s σ H E I hf st hg
    subst hP; subst hw; subst hK
    obtain ⟨hz, hTI, ⟨x0, y0, hTO⟩, h1, h2⟩ := st; obtain ⟨xs, ys, hqx, hqy, hl, hl2⟩ := hg
    obtain ⟨its, rv, p, _⟩ := I.list hqx; obtain ⟨its2, rv2, p2, _⟩ := I.list hqy
    have l1 := rv.length; have l2 := rv2.length
    have hh : X.A.handled = none := I.ok.hd hc
    have Da := Draws.list (prog := X.prog) (w := X.w) (A := X.A.in1) (show X.A.in1.handled = none from hh) i1 a D.l1i1 its.toArray
    have Db0 := Draws.list (prog := X.prog) (w := X.w) (A := X.A.in1) (show X.A.in1.handled = none from hh) i2 b D.l2i2 its2.toArray
    have esz : its2.toArray.size = its.toArray.size := by simp; omega
    have Db : Draws X.prog X.w X.A.in1 i2 [i2, b] its.toArray.size (fun j v => its2.toArray[j]? = some v) (fun j h => h.IsListIter i2 b j ∧ h.IsList b its2.toArray) := by rw [← esz]; exact Db0
    have hin : i = its.toArray.size := by simp; omega
    refine zs_pyNext (s := s) hh Sp Da Db hz hTI hTO ⟨h1, p.isList⟩ ⟨h2, p2.isList⟩ (Nat.le_of_eq hin) (fun lt => absurd hin (Nat.ne_of_lt lt)) (fun _ h' tk hk => ⟨rfl, I.turnedL (t' := tk) (ch := [z, TI, TO, i1, i2]) (fun c o hb q => hk c o (fun q' => hb (by simp [q'])) (fun q' => hb (by simp [q'])) (fun q' => hb (by simp [q'])) (fun q' => hb (by simp [q'])) q) hf⟩)
def iZipL (K : PySem.W.Frag) (ta tk : TA) : TI := fun σ H R => ta σ H fun vs H1 => tk σ H1 fun zs H2 => zs = [.bl true] ∧ ∃ a b xs ys, vs = [.ref a, .ref b] ∧ SqL K H2 a xs ∧ SqL K H2 b ys ∧ R (ItzL K a b) H2
theorem pi_zl {X : Cx} {e e2 : Expr} {kws : List Keyword} {ta tk : TA} {p pos tpos : Pos} {elts : List Expr} {kk : Nat} (hg : Gl X "zip") (hm : X.mg "zip" = none) (ha : PA X [e, e2] ta) (hk : PK X kws tk)
    (he : backTo pos (starEach [e, e2] X.env) = (false, eval e X.env) :: backTo pos (starEach [e2] X.env) := by rfl) (hp : (backTo pos (starEach [e, e2] X.env)).any (·.1) = false := by rfl)
    (hal : (backToKw pos (keywordEach kws X.env)).all (·.1.isSome) = true := by rfl) (hkn : (backToKw pos (keywordEach kws X.env)).any (·.1.isNone) = false := by rfl) (hks : (backToKw pos (keywordEach kws X.env)).filterMap (·.1) = [("strict" : Str)] := by rfl) :
    PI X (.Tuple elts kk tpos) (.Call (.Name "zip" p) [e, e2] kws pos) (iZipL X.K ta tk) := by
  refine ⟨fun pins s σ H R I h => wpAny_Call_Name_kw (ld_blt I hg hm PyProof.Rows.boot_zip (tykw (thn (ha.run pos pins s σ H _ I h) fun us s1 ⟨vs, H1, I1, r1, q1⟩ => thn (hk.run pos pins s1 σ H1 _ I1 q1) fun ws s2 ⟨zs, H2, I2, r2, q2⟩ => ?_) he hp hal hkn))⟩
  rw [hks]; obtain ⟨ez, a, b, xs, ys, ex, hqx, hqy, q⟩ := q2
  subst ez; subst ex
  cases r2 with
  | cons rb rr => cases rr; cases (show _ = Value.bool true from rb); cases r1 with
    | cons r rr => cases rr with
      | cons r' rr =>
        cases rr; cases r; cases r'
        obtain ⟨its, rv, p1, _⟩ := I2.list hqx; obtain ⟨its2, rv2, p2, _⟩ := I2.list hqy
        refine zl_made p1.isList p2.isList fun g' hz hTI hTO h1 h2 hk' => zs_iter hz ?_
        have I3 : Inv X pins σ H2 { s2 with heap := g' } := I2.kept (t' := s2.toks) hk'

        refine ⟨s2.heap.objs.size + 4, [s2.heap.objs.size + 4, s2.heap.objs.size + 2, s2.heap.objs.size + 3, s2.heap.objs.size, s2.heap.objs.size + 1], _, _, H2, rfl, I3, turn_zl (PySem.W.ktu_apart s2.heap.objs.size a b p1.lt p2.lt), ⟨hz, hTI, ⟨_, _, hTO⟩, h1, h2⟩, fun c hcm => ?_, q⟩
        have hle : s2.heap.objs.size ≤ c := by
          have e' : c = s2.heap.objs.size + 4 ∨ c = s2.heap.objs.size + 2 ∨ c = s2.heap.objs.size + 3 ∨ c = s2.heap.objs.size ∨ c = s2.heap.objs.size + 1 := by simpa using hcm
          rcases e' with z | z | z | z | z <;> rw [z] <;> first | exact Nat.le_add_right _ _ | exact Nat.le_refl _
        exact I2.fpOk hle (I2.hok.fresh hle)
theorem walk_zl {K : PySem.W.Frag} {a b : Addr} {xs ys : List V} (hl : xs.length = ys.length) : Walk (ItzL K a b) xs.length (fun H => SqL K H a xs ∧ SqL K H b ys) (YPair (fun i => xs[i]?) (fun i => ys[i]?)) :=
  ⟨fun i _ hi q => ⟨xs, ys, q.1, q.2, hl, hi⟩, fun _ q => ⟨xs, ys, q.1, q.2, rfl, hl.symm⟩, fun i H v H' _ q ⟨T, x, z, h1, h2, h3, h4, h5⟩ => ⟨T, x, z, h1, h2, h3, h4 xs q.1, h5 ys q.2⟩⟩
theorem k_piZL {X : Cx} (K : PySem.W.Frag) (h : X.K = K) {e e2 : Expr} {kws : List Keyword} {ta tk : TA} {p pos tpos : Pos} {elts : List Expr} {kk : Nat} (hg : Gl X "zip") (hm : X.mg "zip" = none) (ha : PA X [e, e2] ta) (hk : PK X kws tk)
    (he : backTo pos (starEach [e, e2] X.env) = (false, eval e X.env) :: backTo pos (starEach [e2] X.env) := by rfl) (hp : (backTo pos (starEach [e, e2] X.env)).any (·.1) = false := by rfl)
    (hal : (backToKw pos (keywordEach kws X.env)).all (·.1.isSome) = true := by rfl) (hkn : (backToKw pos (keywordEach kws X.env)).any (·.1.isNone) = false := by rfl) (hks : (backToKw pos (keywordEach kws X.env)).filterMap (·.1) = [("strict" : Str)] := by rfl) :
    PI X (.Tuple elts kk tpos) (.Call (.Name "zip" p) [e, e2] kws pos) (iZipL K ta tk) := by subst h; exact pi_zl hg hm ha hk he hp hal hkn hks
end My

namespace My
open PySem PySem.Spec PyProof.Rows L2 Pre
open Sem (wp)
/-! ### zip(xs, ys, strict=True) of two tuples -/
abbrev zv1 (h : Heap) (a : Addr) : Heap := h.push { cls := .type "tuple_iterator", data := .fields #[.ref a, .int 0 0] }
abbrev zv2 (h : Heap) (a b : Addr) : Heap := (zv1 h a).push { cls := .type "tuple_iterator", data := .fields #[.ref b, .int 0 0] }
abbrev zv3 (h : Heap) (a b : Addr) : Heap := (zv2 h a b).push { cls := .type "tuple", data := .seq #[.ref h.objs.size, .ref (zv1 h a).objs.size] }
abbrev zv4 (h : Heap) (a b : Addr) : Heap := (zv3 h a b).push { cls := .type "tuple", data := .seq #[.none, .none] }
abbrev zv5 (h : Heap) (a b : Addr) : Heap := (zv4 h a b).push { cls := .type "zip", data := .fields #[.none, .bool false, .bool true, .ref (zv2 h a b).objs.size, .ref (zv3 h a b).objs.size] }
theorem zt_new (a b : Addr) (xs ys : Array Value) :
    Meets (Builtin.«zip.__new__» ⟨[.type "zip", .ref a, .ref b], [("strict", .bool true)]⟩) (fun _ R s => s.heap.IsTuple a xs ∧ s.heap.IsTuple b ys ∧
      R (.ok (.ret (.ref (zv4 s.heap a b).objs.size))) { s with heap := zv5 s.heap a b }) :=
  .of_wp fun prog w A R s h => by
    obtain ⟨hp, g, d, tk, os⟩ := s; obtain ⟨ha, hb, h⟩ := h; have hsub := sub_zip
    have hA : Heap.IsTuple (Shared.heap ⟨hp, g, d, tk, os⟩) a xs := ha; have hB : Heap.IsTuple (Shared.heap ⟨hp.push { cls := .type "tuple_iterator", data := .fields #[.ref a, .int 0 0] }, g, d, tk, os⟩) b ys := Heap.IsTuple.push hb _
    wp_walk using wpAny_pyIter_tuple hA, wpAny_pyIter_tuple hB
    exact ⟨_, rfl, h⟩
section
variable {prog : Program} {w : World} {A : Around} {E : Value → Shared → Prop} {s : Shared}
theorem zt_made {a b : Addr} {xs ys : Array Value} {Q : Value → Shared → Prop} (ha : s.heap.IsTuple a xs) (hb : s.heap.IsTuple b ys)
    (go : ∀ g', SZip g' (s.heap.objs.size + 4) (s.heap.objs.size + 2) (s.heap.objs.size + 3) .none → IsTupOf2 g' (s.heap.objs.size + 2) (.ref s.heap.objs.size) (.ref (s.heap.objs.size + 1)) → IsTupOf2 g' (s.heap.objs.size + 3) .none .none →
      g'.IsTupleIter s.heap.objs.size a 0 → g'.IsTupleIter (s.heap.objs.size + 1) b 0 → (∀ c o, s.heap.get? c = some o → g'.get? c = some o) → Q (.ref (s.heap.objs.size + 4)) { s with heap := g' }) :
    wpAny (model prog w) A (call (.type "zip") [.ref a, .ref b] [("strict", .bool true)]) Q E s := by
  refine zs_call (zt_new a b xs ys) ⟨ha, hb, ?_⟩
  have n1 : (zv1 s.heap a).objs.size = s.heap.objs.size + 1 := Heap.size_push ..
  have n2 : (zv2 s.heap a b).objs.size = s.heap.objs.size + 2 := by rw [Heap.size_push, n1]
  have n3 : (zv3 s.heap a b).objs.size = s.heap.objs.size + 3 := by rw [Heap.size_push, n2]
  have n4 : (zv4 s.heap a b).objs.size = s.heap.objs.size + 4 := by rw [Heap.size_push, n3]
  have p : ∀ {h : Heap} {o o' : Obj} {c : Addr}, h.get? c = some o → (h.push o').get? c = some o := fun e => Heap.get?_push_of_some _ e
  have q5 : (zv5 s.heap a b).get? (zv4 s.heap a b).objs.size = some _ := Heap.get?_push_size _ rfl
  have q4 : (zv5 s.heap a b).get? (zv3 s.heap a b).objs.size = some _ := p (Heap.get?_push_size _ rfl)
  have q3 : (zv5 s.heap a b).get? (zv2 s.heap a b).objs.size = some _ := p (p (Heap.get?_push_size _ rfl))
  have q2 : (zv5 s.heap a b).get? (zv1 s.heap a).objs.size = some _ := p (p (p (Heap.get?_push_size _ rfl)))
  have q1 : (zv5 s.heap a b).get? s.heap.objs.size = some _ := p (p (p (p (Heap.get?_push_size _ rfl))))
  show _ ∧ _; rw [n2, n3, n4] at q5; rw [n1, n2] at q3; rw [n3] at q4; rw [n1] at q2; rw [n4]
  exact ⟨⟨_, q5, rfl⟩, go _ q5 q3 q4 ⟨_, q1, rfl, rfl⟩ ⟨_, q2, rfl, rfl⟩ fun c o x => p (p (p (p (p x))))⟩
end
/-- the tuples at a and b, of one length, side by side -/
def ItzT (K : PySem.W.Frag) (a b : Addr) : It :=
  ⟨fun i H => ∃ (xs ys : List V), SqT K H a xs ∧ SqT K H b ys ∧ xs.length = ys.length ∧ i < xs.length,
    fun i H v H' => ∃ T x y, v = .ref T ∧ H T = none ∧ H' = upd H T (.tup [x, y]) ∧ (∀ xs, SqT K H a xs → xs[i]? = some x) ∧ ∀ ys, SqT K H b ys → ys[i]? = some y,
    fun i H => ∃ xs ys : List V, SqT K H a xs ∧ SqT K H b ys ∧ xs.length = i ∧ ys.length = i⟩
theorem turn_zt {P : Program} {w : World} {K : PySem.W.Frag} {elts : List Expr} {kk : Nat} {tpos : Pos} {a b z TI TO i1 i2 : Addr} (D : ZipApart z TI TO i1 i2 a b) :
    Turn P w K (.Tuple elts kk tpos) (ItzT K a b) [z, TI, TO, i1, i2] z (fun i h => SZip h z TI TO .none ∧ IsTupOf2 h TI (.ref i1) (.ref i2) ∧ (∃ x y, IsTupOf2 h TO x y) ∧ h.IsTupleIter i1 a i ∧ h.IsTupleIter i2 b i) := by
  have Sp : ZipSep2 z TI TO i1 i2 [i1, a] [i2, b] := ⟨D.TIz, D.TOz, D.TITO, D.TIi1, by simp, by simp [D.i1z.symm, D.l1z.symm], by simp [D.TOi1, D.l1TO.symm], D.TIi2, by simp, by simp [D.i2z.symm, D.l2z.symm], by simp [D.TOi2, D.l2TO.symm], by simp [D.i12, D.l2i1.symm], by simp [D.i12.symm, D.l1i2.symm]⟩
  refine ⟨by simp, fun i h st c hc => ?_, fun i h h' st k => ?_, ?_, ?_, fun A i s Q E st h => zs_iter st.1 h⟩
  · obtain ⟨hz, hTI, ⟨x, y, hTO⟩, ⟨o1, e1, _, d1⟩, ⟨o2, e2, _, d2⟩⟩ := st
    have e' : c = z ∨ c = TI ∨ c = TO ∨ c = i1 ∨ c = i2 := by simpa using hc
    rcases e' with q | q | q | q | q <;> rw [q]
    · exact ⟨_, hz, fun v q => nomatch q⟩
    · exact ⟨_, hTI, fun v q => nomatch q⟩
    · exact ⟨_, hTO, fun v q => nomatch q⟩
    · exact ⟨o1, e1, fun v q => by rw [d1] at q; cases q⟩
    · exact ⟨o2, e2, fun v q => by rw [d2] at q; cases q⟩
  · obtain ⟨hz, hTI, ⟨x, y, hTO⟩, h1, h2⟩ := st
    have kz := k z (by simp); have kI := k TI (by simp); have kO := k TO (by simp)
    exact ⟨kz _ hz, kI _ hTI, ⟨x, y, kO _ hTO⟩, h1.at fun o q => k i1 (by simp) o q, h2.at fun o q => k i2 (by simp) o q⟩
  · intro X hP hw hK hc i pins s σ H E I hf st hg
    subst hP; subst hw; subst hK
    obtain ⟨hz, hTI, ⟨x0, y0, hTO⟩, h1, h2⟩ := st; obtain ⟨xs, ys, hqx, hqy, hl, hi⟩ := hg
    obtain ⟨its, rv, p, _⟩ := I.tuple hqx; obtain ⟨its2, rv2, p2, _⟩ := I.tuple hqy
    have l1 := rv.length; have l2 := rv2.length
    have hzl : z < s.heap.objs.size := Heap.lt_size hz
    have hh : X.A.handled = none := I.ok.hd hc
    have Da := Draws.tuple (prog := X.prog) (w := X.w) (A := X.A.in1) (show X.A.in1.handled = none from hh) i1 a D.l1i1 its.toArray
    have Db0 := Draws.tuple (prog := X.prog) (w := X.w) (A := X.A.in1) (show X.A.in1.handled = none from hh) i2 b D.l2i2 its2.toArray
    have esz : its2.toArray.size = its.toArray.size := by simp; omega
    have Db : Draws X.prog X.w X.A.in1 i2 [i2, b] its.toArray.size (fun j v => its2.toArray[j]? = some v) (fun j h => h.IsTupleIter i2 b j ∧ h.IsTuple b its2.toArray) := by rw [← esz]; exact Db0
    have hin : i < its.toArray.size := by simp; omega
    refine zs_pyNext (s := s) hh Sp Da Db hz hTI hTO ⟨h1, p⟩ ⟨h2, p2⟩ (Nat.le_of_lt hin) (fun _ u u2 h' tk px py z' TO' sa' sb' hT hsz hk => ?_) (fun e => absurd e (Nat.ne_of_lt hin))
    have hu : its[i]? = some u := by simpa using px
    have hu2 : its2[i]? = some u2 := by simpa using py
    obtain ⟨x, hx⟩ : ∃ x, xs[i]? = some x := ⟨_, List.getElem?_eq_getElem hi⟩
    obtain ⟨y, hy⟩ : ∃ y, ys[i]? = some y := ⟨_, List.getElem?_eq_getElem (hl ▸ hi)⟩
    obtain ⟨u', hu', ru⟩ := rv.get hx; obtain ⟨u2', hu2', ru2⟩ := rv2.get hy
    rw [hu] at hu'; cases hu'; rw [hu2] at hu2'; cases hu2'
    refine ⟨_, rfl, zs_go (s := { s with heap := h', toks := tk }) z' fun h'' z'' sb => ?_⟩
    have hT2 : h''.get? s.heap.objs.size = some { cls := .type "tuple", data := .seq #[u, u2] } := (sb.2 _ (Nat.ne_of_gt hzl)).trans hT
    have new : ObjOk X.prog X.w (upd H s.heap.objs.size (.tup [x, y])) h'' s.heap.objs.size (.tup [x, y]) := ⟨by show 2 ≤ sizeLine; decide, [u, u2], .cons ru (.cons ru2 .nil), ⟨_, hT2, rfl, _, rfl⟩⟩
    have I1 : Inv X pins σ (upd H s.heap.objs.size (.tup [x, y])) { s with heap := h'', toks := tk } :=
      I.turnedNew (t' := tk) (ch := [z, TI, TO, i1, i2]) (fun c o hb q => (sb.2 c (fun q' => hb (by simp [q']))).trans (hk c o (fun q' => hb (by simp [q'])) (fun q' => hb (by simp [q'])) (fun q' => hb (by simp [q'])) (fun q' => hb (by simp [q'])) q)) hf (Nat.le_refl _) new
    refine ⟨.ref s.heap.objs.size, _, I1, rfl, ⟨_, x, y, rfl, I.hok.fresh (Nat.le_refl _), rfl, fun l hl => by rw [I.tuple_inj hl hqx]; exact hx, fun l hl => by rw [I.tuple_inj hl hqy]; exact hy⟩, ⟨z'', (sb.2 _ D.TIz).trans (hk _ _ D.TIz D.TITO D.TIi1 D.TIi2 hTI), ⟨u, u2, (sb.2 _ D.TOz).trans TO'⟩, sa'.1.at fun o q => (sb.2 _ D.i1z).trans q, sb'.1.at fun o q => (sb.2 _ D.i2z).trans q⟩, fun c hcm => ?_⟩
    have hlt : c < s.heap.objs.size := by
      have e' : c = z ∨ c = TI ∨ c = TO ∨ c = i1 ∨ c = i2 := by simpa using hcm
      rcases e' with q | q | q | q | q <;> rw [q]
      · exact hzl
      · exact Heap.lt_size hTI
      · exact Heap.lt_size hTO
      · obtain ⟨_, e1, _⟩ := h1; exact Heap.lt_size e1
      · obtain ⟨_, e2, _⟩ := h2; exact Heap.lt_size e2
    rw [upd_ne (Nat.ne_of_lt hlt)]; exact (hf c hcm).1
  · intro X hP hw hK hc i pins s σ H E I hf st hg
    subst hP; subst hw; subst hK
    obtain ⟨hz, hTI, ⟨x0, y0, hTO⟩, h1, h2⟩ := st; obtain ⟨xs, ys, hqx, hqy, hl, hl2⟩ := hg
    obtain ⟨its, rv, p, _⟩ := I.tuple hqx; obtain ⟨its2, rv2, p2, _⟩ := I.tuple hqy
    have l1 := rv.length; have l2 := rv2.length
    have hh : X.A.handled = none := I.ok.hd hc
    have Da := Draws.tuple (prog := X.prog) (w := X.w) (A := X.A.in1) (show X.A.in1.handled = none from hh) i1 a D.l1i1 its.toArray
    have Db0 := Draws.tuple (prog := X.prog) (w := X.w) (A := X.A.in1) (show X.A.in1.handled = none from hh) i2 b D.l2i2 its2.toArray
    have esz : its2.toArray.size = its.toArray.size := by simp; omega
    have Db : Draws X.prog X.w X.A.in1 i2 [i2, b] its.toArray.size (fun j v => its2.toArray[j]? = some v) (fun j h => h.IsTupleIter i2 b j ∧ h.IsTuple b its2.toArray) := by rw [← esz]; exact Db0
    have hin : i = its.toArray.size := by simp; omega
    refine zs_pyNext (s := s) hh Sp Da Db hz hTI hTO ⟨h1, p⟩ ⟨h2, p2⟩ (Nat.le_of_eq hin) (fun lt => absurd hin (Nat.ne_of_lt lt)) (fun _ h' tk hk => ⟨rfl, I.turnedL (t' := tk) (ch := [z, TI, TO, i1, i2]) (fun c o hb q => hk c o (fun q' => hb (by simp [q'])) (fun q' => hb (by simp [q'])) (fun q' => hb (by simp [q'])) (fun q' => hb (by simp [q'])) q) hf⟩)
def iZipT (K : PySem.W.Frag) (ta tk : TA) : TI := fun σ H R => ta σ H fun vs H1 => tk σ H1 fun zs H2 => zs = [.bl true] ∧ ∃ a b xs ys, vs = [.ref a, .ref b] ∧ SqT K H2 a xs ∧ SqT K H2 b ys ∧ R (ItzT K a b) H2
theorem pi_zt {X : Cx} {e e2 : Expr} {kws : List Keyword} {ta tk : TA} {p pos tpos : Pos} {elts : List Expr} {kk : Nat} (hg : Gl X "zip") (hm : X.mg "zip" = none) (ha : PA X [e, e2] ta) (hk : PK X kws tk)
    (he : backTo pos (starEach [e, e2] X.env) = (false, eval e X.env) :: backTo pos (starEach [e2] X.env) := by rfl) (hp : (backTo pos (starEach [e, e2] X.env)).any (·.1) = false := by rfl)
    (hal : (backToKw pos (keywordEach kws X.env)).all (·.1.isSome) = true := by rfl) (hkn : (backToKw pos (keywordEach kws X.env)).any (·.1.isNone) = false := by rfl) (hks : (backToKw pos (keywordEach kws X.env)).filterMap (·.1) = [("strict" : Str)] := by rfl) :
    PI X (.Tuple elts kk tpos) (.Call (.Name "zip" p) [e, e2] kws pos) (iZipT X.K ta tk) := by
  refine ⟨fun pins s σ H R I h => wpAny_Call_Name_kw (ld_blt I hg hm PyProof.Rows.boot_zip (tykw (thn (ha.run pos pins s σ H _ I h) fun us s1 ⟨vs, H1, I1, r1, q1⟩ => thn (hk.run pos pins s1 σ H1 _ I1 q1) fun ws s2 ⟨zs, H2, I2, r2, q2⟩ => ?_) he hp hal hkn))⟩
  rw [hks]; obtain ⟨ez, a, b, xs, ys, ex, hqx, hqy, q⟩ := q2
  subst ez; subst ex
  cases r2 with
  | cons rb rr => cases rr; cases (show _ = Value.bool true from rb); cases r1 with
    | cons r rr => cases rr with
      | cons r' rr =>
        cases rr; cases r; cases r'
        obtain ⟨its, rv, p1, _⟩ := I2.tuple hqx; obtain ⟨its2, rv2, p2, _⟩ := I2.tuple hqy
        refine zt_made p1 p2 fun g' hz hTI hTO h1 h2 hk' => zs_iter hz ?_
        have I3 : Inv X pins σ H2 { s2 with heap := g' } := I2.kept (t' := s2.toks) hk'

        refine ⟨s2.heap.objs.size + 4, [s2.heap.objs.size + 4, s2.heap.objs.size + 2, s2.heap.objs.size + 3, s2.heap.objs.size, s2.heap.objs.size + 1], _, _, H2, rfl, I3, turn_zt (PySem.W.ktu_apart s2.heap.objs.size a b (by obtain ⟨_, e, _⟩ := p1; exact Heap.lt_size e) (by obtain ⟨_, e, _⟩ := p2; exact Heap.lt_size e)), ⟨hz, hTI, ⟨_, _, hTO⟩, h1, h2⟩, fun c hcm => ?_, q⟩
        have hle : s2.heap.objs.size ≤ c := by
          have e' : c = s2.heap.objs.size + 4 ∨ c = s2.heap.objs.size + 2 ∨ c = s2.heap.objs.size + 3 ∨ c = s2.heap.objs.size ∨ c = s2.heap.objs.size + 1 := by simpa using hcm
          rcases e' with z | z | z | z | z <;> rw [z] <;> first | exact Nat.le_add_right _ _ | exact Nat.le_refl _
        exact I2.fpOk hle (I2.hok.fresh hle)
theorem walk_zt {K : PySem.W.Frag} {a b : Addr} {xs ys : List V} (hl : xs.length = ys.length) : Walk (ItzT K a b) xs.length (fun H => SqT K H a xs ∧ SqT K H b ys) (YPair (fun i => xs[i]?) (fun i => ys[i]?)) :=
  ⟨fun i _ hi q => ⟨xs, ys, q.1, q.2, hl, hi⟩, fun _ q => ⟨xs, ys, q.1, q.2, rfl, hl.symm⟩, fun i H v H' _ q ⟨T, x, z, h1, h2, h3, h4, h5⟩ => ⟨T, x, z, h1, h2, h3, h4 xs q.1, h5 ys q.2⟩⟩
theorem k_piZT {X : Cx} (K : PySem.W.Frag) (h : X.K = K) {e e2 : Expr} {kws : List Keyword} {ta tk : TA} {p pos tpos : Pos} {elts : List Expr} {kk : Nat} (hg : Gl X "zip") (hm : X.mg "zip" = none) (ha : PA X [e, e2] ta) (hk : PK X kws tk)
    (he : backTo pos (starEach [e, e2] X.env) = (false, eval e X.env) :: backTo pos (starEach [e2] X.env) := by rfl) (hp : (backTo pos (starEach [e, e2] X.env)).any (·.1) = false := by rfl)
    (hal : (backToKw pos (keywordEach kws X.env)).all (·.1.isSome) = true := by rfl) (hkn : (backToKw pos (keywordEach kws X.env)).any (·.1.isNone) = false := by rfl) (hks : (backToKw pos (keywordEach kws X.env)).filterMap (·.1) = [("strict" : Str)] := by rfl) :
    PI X (.Tuple elts kk tpos) (.Call (.Name "zip" p) [e, e2] kws pos) (iZipT K ta tk) := by subst h; exact pi_zt hg hm ha hk he hp hal hkn hks
end My

namespace My
open PySem PySem.Spec PyProof.Rows PySem.W L2 Pre
/-- products of one small number, or of two that are not too great -/
def CMulA (i j : Int) : Prop := CMul i j ∨ CMulX i j
theorem op_mulA {X : Cx} : OpR X (binaryOp .Mult) (rI CMulA fun i j => .int (i * j)) := fun pins s σ H x y v u Q I r1 r2 h => by
  obtain ⟨i, j, ex, ey, hc, q⟩ := h
  rcases hc with hc | hc
  · exact op_mul pins s σ H x y v u Q I r1 r2 ⟨i, j, ex, ey, hc, q⟩
  · exact op_mulX pins s σ H x y v u Q I r1 r2 ⟨i, j, ex, ey, hc, q⟩
end My

namespace My
open PySem PySem.Spec PyProof.Rows PySem.W L2 Pre
/-- zip, strict, of a tuple or a list with a list -/
def iZipB (K : PySem.W.Frag) (ta tk : TA) : TI := fun σ H R => ta σ H fun vs H1 => tk σ H1 fun zs H2 => zs = [.bl true] ∧ ∃ a b xs ys, vs = [.ref a, .ref b] ∧ SqL K H2 b ys ∧ ((SqT K H2 a xs ∧ R (ItzS K a b) H2) ∨ (SqL K H2 a xs ∧ R (ItzL K a b) H2))
theorem pi_zb {X : Cx} {e e2 : Expr} {kws : List Keyword} {ta tk : TA} {p pos tpos : Pos} {elts : List Expr} {kk : Nat} (hg : Gl X "zip") (hm : X.mg "zip" = none) (ha : PA X [e, e2] ta) (hk : PK X kws tk)
    (he : backTo pos (starEach [e, e2] X.env) = (false, eval e X.env) :: backTo pos (starEach [e2] X.env) := by rfl) (hp : (backTo pos (starEach [e, e2] X.env)).any (·.1) = false := by rfl)
    (hal : (backToKw pos (keywordEach kws X.env)).all (·.1.isSome) = true := by rfl) (hkn : (backToKw pos (keywordEach kws X.env)).any (·.1.isNone) = false := by rfl) (hks : (backToKw pos (keywordEach kws X.env)).filterMap (·.1) = [("strict" : Str)] := by rfl) :
    PI X (.Tuple elts kk tpos) (.Call (.Name "zip" p) [e, e2] kws pos) (iZipB X.K ta tk) := by
  refine ⟨fun pins s σ H R I h => wpAny_Call_Name_kw (ld_blt I hg hm PyProof.Rows.boot_zip (tykw (thn (ha.run pos pins s σ H _ I h) fun us s1 ⟨vs, H1, I1, r1, q1⟩ => thn (hk.run pos pins s1 σ H1 _ I1 q1) fun ws s2 ⟨zs, H2, I2, r2, q2⟩ => ?_) he hp hal hkn))⟩
  rw [hks]; obtain ⟨ez, a, b, xs, ys, ex, hqy, hqq⟩ := q2
  subst ez; subst ex
  cases r2 with
  | cons rb rr => cases rr; cases (show _ = Value.bool true from rb); cases r1 with
    | cons r rr => cases rr with
      | cons r' rr =>
        cases rr; cases r; cases r'
        rcases hqq with ⟨hqx, q⟩ | ⟨hqx, q⟩
        · skip
          obtain ⟨its, rv, p1, _⟩ := I2.tuple hqx; obtain ⟨its2, rv2, p2, _⟩ := I2.list hqy
          refine zs_made p1 p2.isList fun g' hz hTI hTO h1 h2 hk' => zs_iter hz ?_
          have I3 : Inv X pins σ H2 { s2 with heap := g' } := I2.kept (t' := s2.toks) hk'
          obtain ⟨o1, ho1, _⟩ := id p1
          refine ⟨s2.heap.objs.size + 4, [s2.heap.objs.size + 4, s2.heap.objs.size + 2, s2.heap.objs.size + 3, s2.heap.objs.size, s2.heap.objs.size + 1], _, _, H2, rfl, I3, turn_zs (PySem.W.ktu_apart s2.heap.objs.size a b (Heap.lt_size ho1) p2.lt), ⟨hz, hTI, ⟨_, _, hTO⟩, h1, h2⟩, fun c hcm => ?_, q⟩
          have hle : s2.heap.objs.size ≤ c := by
            have e' : c = s2.heap.objs.size + 4 ∨ c = s2.heap.objs.size + 2 ∨ c = s2.heap.objs.size + 3 ∨ c = s2.heap.objs.size ∨ c = s2.heap.objs.size + 1 := by simpa using hcm
            rcases e' with z | z | z | z | z <;> rw [z] <;> first | exact Nat.le_add_right _ _ | exact Nat.le_refl _
          exact I2.fpOk hle (I2.hok.fresh hle)
        · skip
          obtain ⟨its, rv, p1, _⟩ := I2.list hqx; obtain ⟨its2, rv2, p2, _⟩ := I2.list hqy
          refine zl_made p1.isList p2.isList fun g' hz hTI hTO h1 h2 hk' => zs_iter hz ?_
          have I3 : Inv X pins σ H2 { s2 with heap := g' } := I2.kept (t' := s2.toks) hk'

          refine ⟨s2.heap.objs.size + 4, [s2.heap.objs.size + 4, s2.heap.objs.size + 2, s2.heap.objs.size + 3, s2.heap.objs.size, s2.heap.objs.size + 1], _, _, H2, rfl, I3, turn_zl (PySem.W.ktu_apart s2.heap.objs.size a b p1.lt p2.lt), ⟨hz, hTI, ⟨_, _, hTO⟩, h1, h2⟩, fun c hcm => ?_, q⟩
          have hle : s2.heap.objs.size ≤ c := by
            have e' : c = s2.heap.objs.size + 4 ∨ c = s2.heap.objs.size + 2 ∨ c = s2.heap.objs.size + 3 ∨ c = s2.heap.objs.size ∨ c = s2.heap.objs.size + 1 := by simpa using hcm
            rcases e' with z | z | z | z | z <;> rw [z] <;> first | exact Nat.le_add_right _ _ | exact Nat.le_refl _
          exact I2.fpOk hle (I2.hok.fresh hle)
theorem k_piZB {X : Cx} (K : PySem.W.Frag) (h : X.K = K) {e e2 : Expr} {kws : List Keyword} {ta tk : TA} {p pos tpos : Pos} {elts : List Expr} {kk : Nat} (hg : Gl X "zip") (hm : X.mg "zip" = none) (ha : PA X [e, e2] ta) (hk : PK X kws tk)
    (he : backTo pos (starEach [e, e2] X.env) = (false, eval e X.env) :: backTo pos (starEach [e2] X.env) := by rfl) (hp : (backTo pos (starEach [e, e2] X.env)).any (·.1) = false := by rfl)
    (hal : (backToKw pos (keywordEach kws X.env)).all (·.1.isSome) = true := by rfl) (hkn : (backToKw pos (keywordEach kws X.env)).any (·.1.isNone) = false := by rfl) (hks : (backToKw pos (keywordEach kws X.env)).filterMap (·.1) = [("strict" : Str)] := by rfl) :
    PI X (.Tuple elts kk tpos) (.Call (.Name "zip" p) [e, e2] kws pos) (iZipB K ta tk) := by subst h; exact pi_zb hg hm ha hk he hp hal hkn hks
end My

namespace My
/-! ### steps of a mixer -/
inductive Step
  | turn (i : Nat)
  | swap (i j : Nat)
  | lift (t : Nat) (ws : List Int) (sh : Nat)
  deriving DecidableEq
def dotP : List Int → List Int → Int
  | w :: ws, x :: xs => w * x + dotP ws xs
  | _, _ => 0
def stepF (way : Int) : Step → List Int → List Int
  | .turn i, xs => xs.set i (0 - xs.getD i 0)
  | .swap i j, xs => (xs.set i (xs.getD j 0)).set j (xs.getD i 0)
  | .lift t ws sh, xs => xs.set t (xs.getD t 0 + way * (dotP ws xs / 2 ^ sh))
def Step.ok (n : Nat) : Step → Prop
  | .turn i => i < n
  | .swap i j => i < n ∧ j < n ∧ i ≠ j
  | .lift t ws sh => t < n ∧ ws.length = n ∧ ws.getD t 0 = 0 ∧ sh ≤ 15 ∧ ∀ w ∈ ws, -68719476736 ≤ w ∧ w ≤ 68719476736
/-- weights as they are drawn -/
def Step.tight : Step → Prop
  | .lift _ ws _ => ∀ w ∈ ws, -32768 ≤ w ∧ w ≤ 32768
  | _ => True
def Step.okT (n : Nat) (s : Step) : Prop := s.ok n ∧ s.tight
theorem stepF_len (way : Int) (s : Step) (xs : List Int) : (stepF way s xs).length = xs.length := by
  cases s <;> simp [stepF]
theorem dot_set (v : Int) : ∀ (ws xs : List Int) (t : Nat), ws.getD t 0 = 0 → dotP ws (xs.set t v) = dotP ws xs
  | [], xs, t, _ => by cases xs <;> cases t <;> rfl
  | w :: ws, [], t, _ => by cases t <;> rfl
  | w :: ws, x :: xs, 0, h => by
    have hw : w = 0 := h
    show w * v + dotP ws xs = w * x + dotP ws xs
    rw [hw, Int.zero_mul, Int.zero_mul]
  | w :: ws, x :: xs, t + 1, h => by
    show w * x + dotP ws (xs.set t v) = w * x + dotP ws xs
    rw [dot_set v ws xs t h]
theorem getD_set {xs : List Int} {i j : Nat} {v : Int} (h : i < xs.length) : (xs.set i v).getD j 0 = if i = j then v else xs.getD j 0 := by
  rw [List.getD_eq_getElem?_getD, List.getElem?_set, List.getD_eq_getElem?_getD]
  by_cases c : i = j
  · rw [if_pos c, if_pos h, if_pos c]
    rfl
  · rw [if_neg c, if_neg c]
theorem ext_getD {xs ys : List Int} (hl : xs.length = ys.length) (h : ∀ i, i < xs.length → xs.getD i 0 = ys.getD i 0) : xs = ys := by
  apply List.ext_getElem hl
  intro i h1 h2
  have := h i h1
  rwa [List.getD_eq_getElem?_getD, List.getD_eq_getElem?_getD, List.getElem?_eq_getElem h1, List.getElem?_eq_getElem h2] at this
/-- one way and the other -/
theorem step_back (way : Int) {s : Step} {xs : List Int} (h : s.ok xs.length) : stepF (-way) s (stepF way s xs) = xs := by
  refine ext_getD (by rw [stepF_len, stepF_len]) fun k hk => ?_
  cases s with
  | turn i =>
    have hi : i < xs.length := h
    show ((xs.set i (0 - xs.getD i 0)).set i (0 - (xs.set i (0 - xs.getD i 0)).getD i 0)).getD k 0 = _
    rw [getD_set (by rw [List.length_set]; exact hi), getD_set hi, getD_set hi, if_pos rfl]
    by_cases c : i = k
    · rw [if_pos c, c]
      omega
    · rw [if_neg c, if_neg c]
  | swap i j =>
    obtain ⟨hi, hj, hij⟩ : i < xs.length ∧ j < xs.length ∧ i ≠ j := h
    have e : ∀ k, (stepF way (.swap i j) xs).getD k 0 = if j = k then xs.getD i 0 else if i = k then xs.getD j 0 else xs.getD k 0 := fun k => by
      show ((xs.set i (xs.getD j 0)).set j (xs.getD i 0)).getD k 0 = _
      rw [getD_set (by rw [List.length_set]; exact hj), getD_set hi]
    show (((stepF way (.swap i j) xs).set i ((stepF way (.swap i j) xs).getD j 0)).set j ((stepF way (.swap i j) xs).getD i 0)).getD k 0 = _
    rw [getD_set (by rw [List.length_set, stepF_len]; exact hj), getD_set (by rw [stepF_len]; exact hi)]
    by_cases c : j = k
    · rw [if_pos c, e i, if_neg (fun z => hij z.symm), if_pos rfl, c]
    · rw [if_neg c]
      by_cases d : i = k
      · rw [if_pos d, e j, if_pos rfl, d]
      · rw [if_neg d, e k, if_neg c, if_neg d]
  | lift t ws sh =>
    obtain ⟨ht, hl, hz, _, _⟩ : t < xs.length ∧ ws.length = xs.length ∧ ws.getD t 0 = 0 ∧ sh ≤ 15 ∧ _ := h
    show ((xs.set t (xs.getD t 0 + way * (dotP ws xs / 2 ^ sh))).set t ((xs.set t (xs.getD t 0 + way * (dotP ws xs / 2 ^ sh))).getD t 0 + -way * (dotP ws (xs.set t (xs.getD t 0 + way * (dotP ws xs / 2 ^ sh))) / 2 ^ sh))).getD k 0 = _
    rw [getD_set (by rw [List.length_set]; exact ht), getD_set ht, getD_set ht, if_pos rfl, dot_set _ _ _ _ hz, Int.neg_mul]
    by_cases c : t = k
    · rw [if_pos c, c]
      omega
    · rw [if_neg c, if_neg c]
def playF (ss : List Step) (xs : List Int) : List Int := ss.foldl (fun x s => stepF 1 s x) xs
def backF (ss : List Step) (xs : List Int) : List Int := ss.reverse.foldl (fun x s => stepF (-1) s x) xs
theorem play_len : ∀ (ss : List Step) (xs : List Int), (playF ss xs).length = xs.length
  | [], _ => rfl
  | s :: ss, xs => by
    show (playF ss (stepF 1 s xs)).length = _
    rw [play_len ss, stepF_len]
theorem back_cons (s : Step) (ss : List Step) (xs : List Int) : backF (s :: ss) xs = stepF (-1) s (backF ss xs) := by
  unfold backF
  rw [List.reverse_cons, List.foldl_append]
  rfl
theorem back_len : ∀ (ss : List Step) (xs : List Int), (backF ss xs).length = xs.length
  | [], _ => rfl
  | s :: ss, xs => by rw [back_cons, stepF_len, back_len ss]
theorem play_back {n : Nat} : ∀ {ss : List Step} {xs : List Int}, (∀ s ∈ ss, s.ok n) → xs.length = n → backF ss (playF ss xs) = xs
  | [], _, _, _ => rfl
  | s :: ss, xs, h, hx => by
    rw [back_cons]
    show stepF (-1) s (backF ss (playF ss (stepF 1 s xs))) = xs
    rw [play_back (fun t ht => h t (List.mem_cons_of_mem _ ht)) (by rw [stepF_len, hx])]
    exact step_back 1 (hx ▸ h s List.mem_cons_self)
theorem back_play {n : Nat} : ∀ {ss : List Step} {xs : List Int}, (∀ s ∈ ss, s.ok n) → xs.length = n → playF ss (backF ss xs) = xs
  | [], _, _, _ => rfl
  | s :: ss, xs, h, hx => by
    rw [back_cons]
    show playF ss (stepF 1 s (stepF (-1) s (backF ss xs))) = xs
    have e := step_back (-1) (s := s) (xs := backF ss xs) (by rw [back_len, hx]; exact h s List.mem_cons_self)
    rw [Int.neg_neg] at e
    rw [e, back_play (fun t ht => h t (List.mem_cons_of_mem _ ht)) hx]
end My

namespace My
open PySem PySem.Spec PyProof.Rows L2 Pre
/-! ### steps in a heap -/
def sT : V := .str ("turn" : String)
def sS : V := .str ("swap" : String)
def sL : V := .str ("lift" : String)
/-- a step as it is handed in; N holds of the list of a lift's weights -/
def StepV (N : Addr → Prop) (H : Hp) (v : V) : Step → Prop
  | .turn i => ∃ t, v = .ref t ∧ H t = some (.tup [sT, .int i])
  | .swap i j => ∃ t, v = .ref t ∧ H t = some (.tup [sS, .int i, .int j])
  | .lift a ws sh => ∃ t l, v = .ref t ∧ H t = some (.tup [sL, .int a, .ref l, .int sh]) ∧ H l = some (.lst (ws.map V.int)) ∧ N l
/-- a step as a mixer keeps it -/
def RowV (H : Hp) (v : V) : Step → Prop
  | .turn i => ∃ t, v = .ref t ∧ H t = some (.tup [sT, .int i])
  | .swap i j => ∃ t, v = .ref t ∧ H t = some (.tup [sS, .int i, .int j])
  | .lift a ws sh => ∃ t l, v = .ref t ∧ H t = some (.tup [sL, .int a, .ref l, .int sh]) ∧ H l = some (.tup (ws.map V.int))
def AllV (R : V → Step → Prop) : List V → List Step → Prop
  | [], [] => True
  | v :: vs, s :: ss => R v s ∧ AllV R vs ss
  | _, _ => False
theorem AllV.len {R : V → Step → Prop} : ∀ {vs : List V} {ss : List Step}, AllV R vs ss → vs.length = ss.length
  | [], [], _ => rfl
  | _ :: vs, _ :: ss, h => by rw [List.length_cons, List.length_cons, AllV.len h.2]
  | [], _ :: _, h => h.elim
  | _ :: _, [], h => h.elim
theorem AllV.get {R : V → Step → Prop} : ∀ {vs : List V} {ss : List Step} {i : Nat} {v : V}, AllV R vs ss → vs[i]? = some v → ∃ s, ss[i]? = some s ∧ R v s
  | [], _, _, _, _, k => by simp at k
  | _ :: _, [], _, _, h, _ => h.elim
  | _ :: _, s :: ss, 0, _, h, k => by
    rw [List.getElem?_cons_zero] at k
    cases k
    exact ⟨s, rfl, h.1⟩
  | _ :: vs, s :: ss, i + 1, _, h, k => by
    rw [List.getElem?_cons_succ] at k
    rw [List.getElem?_cons_succ]
    exact AllV.get h.2 k
theorem AllV.imp {R R' : V → Step → Prop} (f : ∀ v s, R v s → R' v s) : ∀ {vs : List V} {ss : List Step}, AllV R vs ss → AllV R' vs ss
  | [], [], _ => trivial
  | _ :: _, _ :: _, h => ⟨f _ _ h.1, AllV.imp f h.2⟩
  | [], _ :: _, h => h.elim
  | _ :: _, [], h => h.elim
theorem AllV.app {R : V → Step → Prop} : ∀ {vs us : List V} {ss ts : List Step}, AllV R vs ss → AllV R us ts → AllV R (vs ++ us) (ss ++ ts)
  | [], _, [], _, _, k => k
  | _ :: _, _, _ :: _, _, h, k => ⟨h.1, AllV.app h.2 k⟩
  | [], _, _ :: _, _, h, _ => h.elim
  | _ :: _, _, [], _, h, _ => h.elim
theorem AllV.rev {R : V → Step → Prop} : ∀ {vs : List V} {ss : List Step}, AllV R vs ss → AllV R vs.reverse ss.reverse
  | [], [], _ => trivial
  | v :: vs, s :: ss, h => by
    rw [List.reverse_cons, List.reverse_cons]
    exact AllV.app (AllV.rev h.2) ⟨h.1, trivial⟩
  | [], _ :: _, h => h.elim
  | _ :: _, [], h => h.elim
theorem StepV.mono {N N' : Addr → Prop} {H : Hp} {v : V} {s : Step} (f : ∀ l, N l → N' l) (h : StepV N H v s) : StepV N' H v s := by
  cases s with
  | turn i => exact h
  | swap i j => exact h
  | lift a ws sh =>
    obtain ⟨t, l, e, h1, h2, h3⟩ := h
    exact ⟨t, l, e, h1, h2, f _ h3⟩
theorem StepV.same {N : Addr → Prop} {H H' : Hp} {v : V} {s : Step} (k : Same H H') (h : StepV N H v s) : StepV N H' v s := by
  cases s with
  | turn i => obtain ⟨t, e, h1⟩ := h; exact ⟨t, e, k _ _ h1⟩
  | swap i j => obtain ⟨t, e, h1⟩ := h; exact ⟨t, e, k _ _ h1⟩
  | lift a ws sh =>
    obtain ⟨t, l, e, h1, h2, h3⟩ := h
    exact ⟨t, l, e, k _ _ h1, k _ _ h2, h3⟩
/-- what changes are things of M alone -/
def Lk (M : Addr → Prop) (H H' : Hp) : Prop := ∀ b o, ¬ M b → H b = some o → H' b = some o
/-- lists that were not there before -/
def Fl (H0 H : Hp) (b : Addr) : Prop := H0 b = none ∧ ∃ xs, H b = some (.lst xs)
theorem Lk.refl {M : Addr → Prop} {H : Hp} : Lk M H H := fun _ _ _ h => h
theorem Lk.trans {M : Addr → Prop} {H H1 H2 : Hp} (a : Lk M H H1) (b : Lk M H1 H2) : Lk M H H2 := fun c o n h => b c o n (a c o n h)
theorem Lk.of {M : Addr → Prop} {H H1 : Hp} (s : Same H H1) : Lk M H H1 := fun c o _ h => s c o h
theorem Lk.at_ {M : Addr → Prop} {H : Hp} {p : Addr} {o : HO} (m : M p) : Lk M H (upd H p o) := fun c u n h => by
  rw [upd_ne (fun z => n (by rw [z]; exact m))]
  exact h
theorem Lk.tup {H0 H H' : Hp} {M : Addr → Prop} (k : Lk M H H') (a : ∀ b, M b → ∃ xs, H b = some (.lst xs)) {t : Addr} {xs : List V} (h : H t = some (.tup xs)) : H' t = some (.tup xs) := k _ _ (fun m => by
  obtain ⟨ys, e⟩ := a t m
  rw [h] at e
  cases e) h
theorem Lk.same {M : Addr → Prop} {H H1 H' : Hp} (k : Lk M H1 H') (s : Same H H1) (n : ∀ b, M b → H b = none) : Same H H' := fun b o e => k b o (fun m => by rw [n b m] at e; cases e) (s b o e)
theorem StepV.lk {M N : Addr → Prop} {H H' : Hp} {v : V} {s : Step} (k : Lk M H H') (a : ∀ b, M b → ∃ xs, H b = some (.lst xs)) (n : ∀ l, N l → ¬ M l) (h : StepV N H v s) : StepV N H' v s := by
  cases s with
  | turn i => obtain ⟨t, e, h1⟩ := h; exact ⟨t, e, Lk.tup (H0 := H) k a h1⟩
  | swap i j => obtain ⟨t, e, h1⟩ := h; exact ⟨t, e, Lk.tup (H0 := H) k a h1⟩
  | lift b ws sh =>
    obtain ⟨t, l, e, h1, h2, h3⟩ := h
    exact ⟨t, l, e, Lk.tup (H0 := H) k a h1, k _ _ (n l h3) h2, h3⟩
theorem RowV.same {H H' : Hp} {v : V} {s : Step} (k : Same H H') (h : RowV H v s) : RowV H' v s := by
  cases s with
  | turn i => obtain ⟨t, e, h1⟩ := h; exact ⟨t, e, k _ _ h1⟩
  | swap i j => obtain ⟨t, e, h1⟩ := h; exact ⟨t, e, k _ _ h1⟩
  | lift a ws sh =>
    obtain ⟨t, l, e, h1, h2⟩ := h
    exact ⟨t, l, e, k _ _ h1, k _ _ h2⟩
theorem RowV.lk {M : Addr → Prop} {H H' : Hp} {v : V} {s : Step} (k : Lk M H H') (a : ∀ b, M b → ∃ xs, H b = some (.lst xs)) (h : RowV H v s) : RowV H' v s := by
  cases s with
  | turn i => obtain ⟨t, e, h1⟩ := h; exact ⟨t, e, Lk.tup (H0 := H) k a h1⟩
  | swap i j => obtain ⟨t, e, h1⟩ := h; exact ⟨t, e, Lk.tup (H0 := H) k a h1⟩
  | lift b ws sh =>
    obtain ⟨t, l, e, h1, h2⟩ := h
    exact ⟨t, l, e, Lk.tup (H0 := H) k a h1, Lk.tup (H0 := H) k a h2⟩
/-- a list of steps; N holds of the lists of weights -/
def StepsAt (N : Addr → Prop) (H : Hp) (p : Addr) (ss : List Step) : Prop := ∃ vs, H p = some (.lst vs) ∧ AllV (StepV N H) vs ss
/-- a mixer at a, its rows at r -/
def MixAt (C : Addr) (H : Hp) (a r : Addr) (n : Nat) (ss : List Step) : Prop := ∃ dx vs, H a = some (.ins C dx [("many", .int n), ("rows", .ref r)]) ∧ H r = some (.lst vs) ∧ AllV (RowV H) vs ss
theorem StepsAt.same {N : Addr → Prop} {H H' : Hp} {p : Addr} {ss : List Step} (h : StepsAt N H p ss) (k : Same H H') : StepsAt N H' p ss := by
  obtain ⟨vs, h1, h2⟩ := h
  exact ⟨vs, k _ _ h1, h2.imp fun v s => StepV.same k⟩
theorem StepsAt.mono {N N' : Addr → Prop} {H : Hp} {p : Addr} {ss : List Step} (h : StepsAt N H p ss) (f : ∀ l, N l → N' l) : StepsAt N' H p ss := by
  obtain ⟨vs, h1, h2⟩ := h
  exact ⟨vs, h1, h2.imp fun v s => StepV.mono f⟩
theorem StepsAt.lk {M N : Addr → Prop} {H H' : Hp} {p : Addr} {ss : List Step} (h : StepsAt N H p ss) (k : Lk M H H') (a : ∀ b, M b → ∃ xs, H b = some (.lst xs)) (n : ∀ l, N l → ¬ M l) (np : ¬ M p) : StepsAt N H' p ss := by
  obtain ⟨vs, h1, h2⟩ := h
  exact ⟨vs, k _ _ np h1, h2.imp fun v s => StepV.lk k a n⟩
theorem MixAt.same {C : Addr} {H H' : Hp} {a r : Addr} {n : Nat} {ss : List Step} (h : MixAt C H a r n ss) (k : Same H H') : MixAt C H' a r n ss := by
  obtain ⟨dx, vs, h1, h2, h3⟩ := h
  exact ⟨dx, vs, k _ _ h1, k _ _ h2, h3.imp fun v s => RowV.same k⟩
theorem MixAt.lk {C : Addr} {M : Addr → Prop} {H H' : Hp} {a r : Addr} {n : Nat} {ss : List Step} (h : MixAt C H a r n ss) (k : Lk M H H') (al : ∀ b, M b → ∃ xs, H b = some (.lst xs)) (nr : ¬ M r) : MixAt C H' a r n ss := by
  obtain ⟨dx, vs, h1, h2, h3⟩ := h
  exact ⟨dx, vs, k _ _ (fun m => by obtain ⟨xs, e⟩ := al a m; rw [h1] at e; cases e) h1, k _ _ nr h2, h3.imp fun v s => RowV.lk k al⟩
/-! ### steps as data -/
def stepD : Step → PyData
  | .turn i => .tuple [.str ("turn" : String), .int i]
  | .swap i j => .tuple [.str ("swap" : String), .int i, .int j]
  | .lift a ws sh => .tuple [.str ("lift" : String), .int a, .list (ws.map PyData.int), .int sh]
def rowT : Step → PyData
  | .turn i => .tuple [.str ("turn" : String), .int i]
  | .swap i j => .tuple [.str ("swap" : String), .int i, .int j]
  | .lift a ws sh => .tuple [.str ("lift" : String), .int a, .tuple (ws.map PyData.int), .int sh]
theorem StepV.dt {N : Addr → Prop} {H : Hp} {v : V} {s : Step} (h : StepV N H v s) : Dt H v (stepD s) := by
  cases s with
  | turn i => obtain ⟨t, rfl, h1⟩ := h; exact .tup h1 (.cons (.str _) (.cons (.int _) .nil))
  | swap i j => obtain ⟨t, rfl, h1⟩ := h; exact .tup h1 (.cons (.str _) (.cons (.int _) (.cons (.int _) .nil)))
  | lift a ws sh =>
    obtain ⟨t, l, rfl, h1, h2, _⟩ := h
    exact .tup h1 (.cons (.str _) (.cons (.int _) (.cons (.lst h2 (DtA.ints ws)) (.cons (.int _) .nil))))
theorem RowV.dt {H : Hp} {v : V} {s : Step} (h : RowV H v s) : Dt H v (rowT s) := by
  cases s with
  | turn i => obtain ⟨t, rfl, h1⟩ := h; exact .tup h1 (.cons (.str _) (.cons (.int _) .nil))
  | swap i j => obtain ⟨t, rfl, h1⟩ := h; exact .tup h1 (.cons (.str _) (.cons (.int _) (.cons (.int _) .nil)))
  | lift a ws sh =>
    obtain ⟨t, l, rfl, h1, h2⟩ := h
    exact .tup h1 (.cons (.str _) (.cons (.int _) (.cons (.tup h2 (DtA.ints ws)) (.cons (.int _) .nil))))
theorem AllV.dts {N : Addr → Prop} {H : Hp} : ∀ {vs : List V} {ss : List Step}, AllV (StepV N H) vs ss → DtA H vs (ss.map stepD)
  | [], [], _ => .nil
  | _ :: _, _ :: _, h => .cons h.1.dt (AllV.dts h.2)
  | [], _ :: _, h => h.elim
  | _ :: _, [], h => h.elim
theorem AllV.dtr {H : Hp} : ∀ {vs : List V} {ss : List Step}, AllV (RowV H) vs ss → DtA H vs (ss.map rowT)
  | [], [], _ => .nil
  | _ :: _, _ :: _, h => .cons h.1.dt (AllV.dtr h.2)
  | [], _ :: _, h => h.elim
  | _ :: _, [], h => h.elim
theorem stepD_lay (s : Step) : PyData.canLay0 (stepD s) = true := by
  cases s with
  | turn i => simp only [stepD, PyData.canLay0, PyData.canLayAll0, Bool.and_true]; decide +kernel
  | swap i j => simp only [stepD, PyData.canLay0, PyData.canLayAll0, Bool.and_true]; decide +kernel
  | lift a ws sh => simp only [stepD, PyData.canLay0, PyData.canLayAll0, lay_ints, Bool.and_true]; decide +kernel
theorem rowT_lay (s : Step) : PyData.canLay0 (rowT s) = true := by
  cases s with
  | turn i => simp only [rowT, PyData.canLay0, PyData.canLayAll0, Bool.and_true]; decide +kernel
  | swap i j => simp only [rowT, PyData.canLay0, PyData.canLayAll0, Bool.and_true]; decide +kernel
  | lift a ws sh => simp only [rowT, PyData.canLay0, PyData.canLayAll0, lay_ints, Bool.and_true]; decide +kernel
theorem stepD_deep (s : Step) : PyData.depth (stepD s) ≤ 2 := by
  cases s <;> simp [stepD, PyData.depth, PyData.depthAll, depth_ints]
theorem rowT_deep (s : Step) : PyData.depth (rowT s) ≤ 2 := by
  cases s <;> simp [rowT, PyData.depth, PyData.depthAll, depth_ints]
theorem all_lay {f : Step → PyData} (h : ∀ s, PyData.canLay0 (f s) = true) : ∀ ss : List Step, PyData.canLayAll0 (ss.map f) = true
  | [] => rfl
  | s :: ss => by
    show (PyData.canLay0 (f s) && PyData.canLayAll0 (ss.map f)) = true
    rw [h, all_lay h ss]
    rfl
theorem all_deep {f : Step → PyData} (h : ∀ s, PyData.depth (f s) ≤ 2) : ∀ ss : List Step, PyData.depthAll (ss.map f) ≤ 2
  | [] => by simp [PyData.depthAll]
  | s :: ss => by
    show PyData.depthAll (f s :: ss.map f) ≤ 2
    rw [PyData.depthAll]
    have := h s
    have := all_deep h ss
    omega
theorem steps_shaped (ss : List Step) : SeqAt.shaped (.list (ss.map stepD)) = true := by
  show (PyData.canLay0 (.list (ss.map stepD)) && decide (PyData.depth (.list (ss.map stepD)) ≤ 64)) = true
  rw [Bool.and_eq_true]
  have := all_deep stepD_deep ss
  exact ⟨by rw [PyData.canLay0]; exact all_lay stepD_lay ss, decide_eq_true (by rw [PyData.depth]; omega)⟩
def mixD (n : Nat) (ss : List Step) : PyData := .tuple [.int n, .list (ss.map rowT)]
theorem mix_lay (n : Nat) (ss : List Step) : PyData.canLay0 (mixD n ss) = true := by
  unfold mixD
  simp only [PyData.canLay0, PyData.canLayAll0, all_lay rowT_lay ss, Bool.and_true]
theorem mix_shaped (n : Nat) (ss : List Step) : SeqAt.shaped (mixD n ss) = true := by
  show (PyData.canLay0 (mixD n ss) && decide (PyData.depth (mixD n ss) ≤ 64)) = true
  rw [Bool.and_eq_true]
  have := all_deep rowT_deep ss
  refine ⟨mix_lay n ss, decide_eq_true ?_⟩
  unfold mixD
  simp only [PyData.depth, PyData.depthAll]
  omega
theorem eqv_len : ∀ {ds es : List PyData}, ds.length ≠ es.length → PyData.eqvAll ds es = false
  | [], [], h => absurd rfl h
  | [], _ :: _, _ => by simp [PyData.eqvAll]
  | _ :: _, [], _ => by simp [PyData.eqvAll]
  | d :: ds, e :: es, h => by
    rw [PyData.eqvAll, eqv_len (ds := ds) (es := es) (fun z => h (by rw [List.length_cons, List.length_cons, z])), Bool.and_false]
theorem mix_other (n : Nat) {ss ts : List Step} (h : ss.length ≠ ts.length) : PyData.eqv (mixD n ss) (mixD n ts) = false := by
  unfold mixD
  rw [PyData.eqv, PyData.eqvAll, PyData.eqvAll, PyData.eqv, PyData.eqv, eqv_len (by rw [List.length_map, List.length_map]; exact h), Bool.false_and, Bool.and_false]
end My

namespace My
open PySem PySem.Spec PyProof.Rows L2 Pre
local macro_rules | `(tactic| walk_at "go") => `(tactic| repeat (first | (with_reducible first | refine iteT ?_ | refine iteF ?_ | refine iteNtt ?_ | refine iteNff ?_ | refine iteET (by omega) ?_ | refine iteEF (by omega) ?_ | refine iteENT (by omega) ?_ | refine iteENF (by omega) ?_ | refine iteDT (by omega) ?_ | refine iteDF (by omega) ?_ | refine iteNT (by omega) ?_ | refine iteNF (by omega) ?_) | refine ⟨_, rfl, ?_⟩ | refine ⟨_, _, rfl, rfl, ?_⟩ | refine ⟨_, _, rfl, ?_⟩ | refine ⟨rfl, ?_⟩ | refine .inl ⟨_, rfl, ?_⟩ | refine .inr ⟨_, rfl, ?_⟩))
local macro_rules | `(tactic| walk_at "b") => `(tactic| try dsimp (config := { proj := false, iota := false, eta := false, zeta := false }) only)
section
variable {P : Program} {w : World} {K : PySem.W.Frag} {mg : Str → Option Value} {base : Heap}
def sp_law_purse (K : PySem.W.Frag) : Sp := fun vs H Q _ => ∃ (a : Addr) (ns : List Int) (i : Nat), vs = [.ref a, .int i] ∧ SqL K H a (ns.map V.int) ∧ ∀ H' g, Same H H' → H g = none → GenAt H' g (1000 * i) → Q (.ref g) H'
theorem G_law_purse (T : Top K mg) : FnOk P w K mg base CX0 1 T.f_law_purse T.fd_law_purse ["_law_script", "_law_at"] (sp_law_purse K) := by
  refine T.F_law_purse.ok sc_law_purse (fun vs H Q E h => by obtain ⟨a, ns, i, rfl, _⟩ := h; rfl) (fun cdv A outer s H vs Q E hr h => ?_)
  obtain ⟨a, ns, i, rfl, hS, q⟩ := h
  refine ⟨_, PSs.nox (pss_cons (ps_set (i := 2) sc_law_purse.nd rfl (by first | exact Or.inl rfl | exact Or.inr rfl) (pe_callTy call_int1 (by rfl) T.n_int (by decide +kernel) (pa_cons (pe_ifExp (pt_cmpR op_lt (pv 1) (pe_callB (k_len K rfl) (by rfl) T.n_len (by decide +kernel) (pa_cons (pv 0) pa_nil)) (nomark _)) (pe_ix (k_ixL K rfl) (pv 0) (pv 1) (fun _ _ => rfl)) (pe_op op_mod (pe_callB (k_sum K rfl rfl) (by rfl) T.n_sum (by decide +kernel) (pa_cons (pe_slice (k_slL K rfl) (pv 0) po_none (po_some pe_int)) pa_nil)) pe_int)) pa_nil)))
  (pss_one (ps_ret (pe_lst (pa_cons (pe_op op_mul (pe_callTy call_int1 (by rfl) T.n_int (by decide +kernel) (pa_cons (pe_cmpR op_ge (pv 2) (pe_op op_powW pe_int pe_int) (nomark _)) pa_nil)) (pe_op op_mod (pv 2) (pe_op op_powW (pe_op op_powW pe_int pe_int) pe_int))) (pa_cons (pe_op op_mod (pv 2) pe_int) (pa_cons (pe_op op_mul pe_int (pv 1)) pa_nil))))))), ?_⟩
  refine ⟨_, rfl, _, rfl, a, _, rfl, .inl hS, _, _, rfl, rfl, _, rfl, ite2 (fun e => ?_) (fun e => ?_)⟩
  · have e1 : (i : Int) < (((ns.map V.int).length : Nat) : Int) := of_decide_eq_true e
    rw [List.length_map] at e1
    have hi : i < ns.length := by omega
    have s1 : Same H H := Same.refl _
    refine ⟨_, rfl, _, rfl, a, _, _, .int ns[i], rfl, rfl, hS, atI_nat (by rw [List.getElem?_map, List.getElem?_eq_getElem hi]; rfl), ?_⟩
    refine .inl ⟨_, rfl, ?_⟩
    walk_at "go"
    refine ⟨⟨by decide, by decide +kernel⟩, ?_⟩
    walk_at "go"
    refine ⟨⟨by decide, by decide +kernel⟩, ?_⟩
    walk_at "go"
    refine ⟨⟨by decide, by decide +kernel⟩, ?_⟩
    walk_at "go"
    refine ⟨(by show (0 : Int) < _; decide +kernel), ?_⟩
    refine ⟨_, _, rfl, rfl, .inl ⟨by split <;> decide, by split <;> decide⟩, ?_⟩
    walk_at "go"
    refine ⟨(by show (0 : Int) < _; decide), ?_⟩
    walk_at "go"
    refine ⟨.inl ⟨by decide, by decide⟩, (show 3 ≤ sizeLine by decide), fun g ng => ?_⟩
    exact q _ g (s1.trans (same_upd ng)) (s1.free ng) ⟨_, _, _, upd_same, by omega, by omega⟩
  · refine ⟨_, rfl, _, rfl, a, _, rfl, hS, fun p np => ?_⟩
    have ec : ∃ ms : List Int, cutV (ns.map V.int) none (some 1) = ms.map V.int := by
      unfold cutV
      exact ⟨(ns.drop (HT.sIx (ns.map V.int).length 0 none)).take (HT.sIx (ns.map V.int).length (ns.map V.int).length (some 1) - HT.sIx (ns.map V.int).length 0 none), by rw [List.map_take, List.map_drop]⟩
    obtain ⟨ms, em⟩ := ec
    have s1 : Same H (upd H p (.lst (cutV (ns.map V.int) none (some 1)))) := same_upd np
    refine ⟨p, ms, rfl, .inl (.inl (by rw [upd_same, em])), _, _, rfl, rfl, (by show (0 : Int) < 1000003; decide), ?_⟩
    refine .inl ⟨_, rfl, ?_⟩
    walk_at "go"
    refine ⟨⟨by decide, by decide +kernel⟩, ?_⟩
    walk_at "go"
    refine ⟨⟨by decide, by decide +kernel⟩, ?_⟩
    walk_at "go"
    refine ⟨⟨by decide, by decide +kernel⟩, ?_⟩
    walk_at "go"
    refine ⟨(by show (0 : Int) < _; decide +kernel), ?_⟩
    refine ⟨_, _, rfl, rfl, .inl ⟨by split <;> decide, by split <;> decide⟩, ?_⟩
    walk_at "go"
    refine ⟨(by show (0 : Int) < _; decide), ?_⟩
    walk_at "go"
    refine ⟨.inl ⟨by decide, by decide⟩, (show 3 ≤ sizeLine by decide), fun g ng => ?_⟩
    exact q _ g (s1.trans (same_upd ng)) (s1.free ng) ⟨_, _, _, upd_same, by omega, by omega⟩
def sp_law_draw : Sp := fun vs H Q _ => ∃ (g : Addr) (b : Int) (n : Nat), vs = [.ref g, .int b] ∧ GenAt H g n ∧ n ≤ 10 ^ 12 ∧ 0 < b ∧ b < 2 ^ 2900 ∧ ∀ (d : Int) H', 0 ≤ d → d < b → GenAt H' g (n + 100) → But g H H' → Q (.int d) H'
theorem G_law_draw (T : Top K mg) : FnOk P w K mg base CX0 1 T.f_law_draw T.fd_law_draw ["_law_purse_here", "_law_many"] sp_law_draw := by
  refine T.F_law_draw.ok sc_law_draw (fun vs H Q E h => by obtain ⟨g, b, n, rfl, _⟩ := h; rfl) (fun cdv A outer s H vs Q E hr h => ?_)
  obtain ⟨g, b, n, rfl, ⟨x, y, z, hg, z0, z1⟩, hn, b0, b1, q⟩ := h
  refine ⟨_, PSs.nox (pss_cons (ps_if (pt_cmpR op_gt (pe_ix (k_ixL K rfl) (pv 0) pe_int (fun _ _ => rfl)) pe_int (nomark _))
    (pss_cons (ps_set (i := 3) sc_law_draw.nd rfl (by first | exact Or.inl rfl | exact Or.inr rfl) (pe_op op_mod (pe_ix (k_ixL K rfl) (pv 0) pe_int (fun _ _ => rfl)) (pv 1)))
  (pss_cons (ps_asg (pe_op op_fdivW (pe_ix (k_ixL K rfl) (pv 0) pe_int (fun _ _ => rfl)) (pv 1)) (pg_sub (pv 0) pe_int set_list))
  (pss_one (ps_ret (pv 3)))))
    pss_nil)
  (pss_cons (ps_asg (pe_op op_add (pe_ix (k_ixL K rfl) (pv 0) pe_int (fun _ _ => rfl)) pe_int) (pg_sub (pv 0) pe_int set_list))
  (pss_cons (ps_set (i := 2) sc_law_draw.nd rfl (by first | exact Or.inl rfl | exact Or.inr rfl) (pe_op op_mod (pe_op op_add (pe_op op_add (pe_op op_mul (pe_ix (k_ixL K rfl) (pv 0) pe_int (fun _ _ => rfl)) pe_int) (pe_op op_mul (pe_ix (k_ixL K rfl) (pv 0) pe_int (fun _ _ => rfl)) pe_int)) pe_int) pe_int))
  (pss_cons (ps_set (i := 2) sc_law_draw.nd rfl (by first | exact Or.inl rfl | exact Or.inr rfl) (pe_op op_mod (pe_op op_add (pe_op op_mul (pv 2) (pv 2)) (pe_ix (k_ixL K rfl) (pv 0) pe_int (fun _ _ => rfl))) pe_int))
  (pss_cons (ps_set (i := 2) sc_law_draw.nd rfl (by first | exact Or.inl rfl | exact Or.inr rfl) (pe_op op_mod (pe_op op_add (pe_op op_mul (pv 2) (pv 2)) pe_int) pe_int))
  (pss_one (ps_ret (pe_op op_mod (pe_op op_fdivW (pv 2) pe_int) (pv 1))))))))), ?_⟩
  have a0 : ∀ x y z : Int, atI [V.int x, .int y, .int z] 0 = some (.int x) := fun _ _ _ => rfl
  have a1 : ∀ x y z : Int, atI [V.int x, .int y, .int z] 1 = some (.int y) := fun _ _ _ => rfl
  have a2 : ∀ x y z : Int, atI [V.int x, .int y, .int z] 2 = some (.int z) := fun _ _ _ => rfl
  have hS : SqL K H g [.int x, .int y, .int z] := .inl (.inl hg)
  have nb : b.natAbs < 2 ^ 2900 := by
    have e : ((b.natAbs : Nat) : Int) < ((2 ^ 2900 : Nat) : Int) := by
      rw [Int.natCast_pow]
      omega
    exact Int.ofNat_lt.mp e
  refine ⟨_, rfl, g, _, 0, _, rfl, rfl, hS, a0 x y z, _, _, rfl, rfl, _, rfl, ite2 (fun e => ?_) (fun e => ?_)⟩
  · refine ⟨_, rfl, g, _, 0, _, rfl, rfl, hS, a0 x y z, _, rfl, _, _, rfl, rfl, b0, ?_⟩
    refine ⟨_, rfl, g, _, 0, _, rfl, rfl, hS, a0 x y z, _, rfl, _, _, rfl, rfl, wide_div b0 nb (by decide) (by decide), _, rfl, g, _, 0, 0, rfl, rfl, hg, rfl, _, rfl, ?_⟩
    exact q _ _ (Int.emod_nonneg _ (by omega)) (Int.emod_lt_of_pos _ b0) ⟨_, _, _, upd_same, z0, by omega⟩ (But.upd But.refl)
  · refine ⟨_, rfl, g, _, 2, _, rfl, rfl, hS, a2 x y z, _, _, rfl, rfl, _, rfl, g, _, 2, 2, rfl, rfl, hg, rfl, ?_⟩
    have hg2 : upd H g (.lst [V.int x, .int y, .int (z + 1)]) g = some (.lst [V.int x, .int y, .int (z + 1)]) := upd_same
    have b2 : But g H (upd H g (.lst [V.int x, .int y, .int (z + 1)])) := But.upd But.refl
    rw [show ([V.int x, V.int y, V.int z].set 2 (V.int (z + 1))) = [V.int x, .int y, .int (z + 1)] from rfl]
    generalize upd H g (.lst [V.int x, .int y, .int (z + 1)]) = H2 at *
    have hS2 : SqL K H2 g [.int x, .int y, .int (z + 1)] := .inl (.inl hg2)
    walk_at "go"
    refine ⟨g, _, 1, _, rfl, rfl, hS2, a1 _ _ _, ?_⟩
    walk_at "go"
    refine ⟨.inr ⟨by decide, by decide⟩, ?_⟩
    walk_at "go"
    refine ⟨g, _, 2, _, rfl, rfl, hS2, a2 _ _ _, ?_⟩
    walk_at "go"
    refine ⟨.inr ⟨by decide, by decide⟩, ?_⟩
    walk_at "go"
    refine ⟨(by show (0 : Int) < _; decide), ?_⟩
    walk_at "go"
    refine ⟨cmul_mod _ _ _ (by decide) (by decide), ?_⟩
    walk_at "go"
    refine ⟨g, _, 2, _, rfl, rfl, hS2, a2 _ _ _, ?_⟩
    walk_at "go"
    refine ⟨(by show (0 : Int) < _; decide), ?_⟩
    walk_at "go"
    refine ⟨cmul_mod _ _ _ (by decide) (by decide), ?_⟩
    walk_at "go"
    refine ⟨(by show (0 : Int) < _; decide), ?_⟩
    walk_at "go"
    refine ⟨⟨by decide, by decide⟩, ?_⟩
    walk_at "go"
    refine ⟨b0, ?_⟩
    exact q _ _ (Int.emod_nonneg _ (by omega)) (Int.emod_lt_of_pos _ b0) ⟨_, _, _, hg2, by omega, by omega⟩ b2
end
end My

namespace My
open PySem PySem.Spec PyProof.Rows L2 Pre
theorem ty_list {K : PySem.W.Frag} {H : Hp} {a : Addr} {xs : List V} (h : H a = some (.lst xs)) : TyX K H (.ref a) (.type "list") := .base (.lst h)
theorem ty_tup {K : PySem.W.Frag} {H : Hp} {a : Addr} {xs : List V} (h : H a = some (.tup xs)) : TyX K H (.ref a) (.type "tuple") := .base (.tup h)
theorem fm_non0 {α β : Type} (l : List α) : (l.map fun _ => (none : Option β)).filterMap id = [] := by
  induction l with
  | nil => rfl
  | cons n r ih => simp
local macro_rules | `(tactic| walk_at "go") => `(tactic| repeat (first | (with_reducible first | refine iteT ?_ | refine iteF ?_ | refine iteNtt ?_ | refine iteNff ?_ | refine iteET (by omega) ?_ | refine iteEF (by omega) ?_ | refine iteENT (by omega) ?_ | refine iteENF (by omega) ?_ | refine iteDT (by omega) ?_ | refine iteDF (by omega) ?_ | refine iteNT (by omega) ?_ | refine iteNF (by omega) ?_) | refine ⟨_, rfl, ?_⟩ | refine ⟨_, _, rfl, rfl, ?_⟩ | refine ⟨_, _, rfl, ?_⟩ | refine ⟨rfl, ?_⟩ | refine .inl ⟨_, rfl, ?_⟩ | refine .inr ⟨_, rfl, ?_⟩))
local macro_rules | `(tactic| walk_at "b") => `(tactic| try dsimp (config := { proj := false, iota := false, eta := false, zeta := false }) only)
section
variable {P : Program} {w : World} {K : PySem.W.Frag} {mg : Str → Option Value} {base : Heap}
def sp_are_wholes : Sp := fun vs H Q _ => ∃ (a : Addr) (ns : List Int), vs = [.ref a] ∧ H a = some (.lst (ns.map V.int)) ∧ ns.length ≤ 1000 ∧ ∀ H', Same H H' → Q (.bl true) H'
theorem G_are_wholes (T : Top K mg) : FnOk P w K mg base CX0 2 T.f_are_wholes T.fd_are_wholes ["value"] sp_are_wholes := by
  refine T.F_are_wholes.ok sc_are_wholes (fun vs H Q E h => by obtain ⟨a, ns, rfl, _⟩ := h; rfl) (fun cdv A outer s H vs Q E hr h => ?_)
  obtain ⟨a, ns, rfl, hA, hn, q⟩ := h
  refine ⟨_, PSs.nox (pss_one (ps_ret (pe_and (pe_callB (k_isi K rfl) (by rfl) T.n_isinstance (by decide +kernel) (pa_cons (pv 0) (pa_cons (pe_bltn (v := .ty "list") (by rfl) T.n_list (by decide +kernel) rfl) pa_nil))) (pe_one (pe_cmpR (k_eqD K rfl hr.units) (pe_lc (own := [("item", 1)]) (g := gName 1) (by rfl) sc_are_wholes.nd (k_piL K rfl (pv 0)) (blkOk_by (own := [("item", 1)]) (N := N_are_wholes) (sc := defScope s_are_wholes) (by decide +kernel)) (fun _ _ _ _ _ => (pg_name (i := 1) sc_are_wholes.nd rfl (by first | exact Or.inl rfl | exact Or.inr rfl))) (fun _ _ _ _ _ => (pts_one (pt_not (pt_val (pe_call (G_is_whole T) (hr.mono (by decide)) (by rfl) T.g_is_whole T.F_is_whole.kp T.b_is_whole .nil pass0 (pa_cons (pv 1) pa_nil)))))) (fun _ _ _ _ _ => (pv 1))) (pe_lst pa_nil) (nomark _)))))), ?_⟩
  have hS : SqL K H a (ns.map V.int) := .inl (.inl hA)
  refine ⟨_, rfl, _, _, _, _, true, rfl, .ty _, ty_list hA, kit_ty (by decide +kernel), true, rfl, iteT ?_⟩
  refine ⟨_, rfl, a, rfl, ⟨_, hS⟩, fun D nD => ?_⟩
  refine lc_selL (K := K) (xs := ns.map V.int) (ns.map fun _ => none) nD hS (by rw [List.length_map, List.length_map]) (by rw [List.length_map]; exact small1000 hn) (fun x => rfl) ?_ ?_
  · intro i x o H' hx ho s Qt qt
    obtain ⟨n, hn, rfl⟩ := int_at hx
    rw [List.getElem?_map, hn] at ho
    cases ho
    refine ⟨_, rfl, n, rfl, true, rfl, ?_⟩
    exact qt _ (Same.refl _)
  · intro H' s hD
    rw [fm_non0] at hD
    refine ⟨Nat.zero_le _, fun p np => ?_⟩
    refine eq_lst (ns := []) (.inl (.inl (same_upd np _ _ hD))) (.inl (.inl upd_same)) ?_
    exact q _ (s.trans (same_upd np))
def sp_is_lift : Sp := fun vs H Q _ => ∃ (v : V) (n : Nat) (s : Step), vs = [v, .int n] ∧ StepV (fun _ => True) H v s ∧ s.ok n ∧ n ≤ 4 ∧ ∀ H', Same H H' → Q (.bl (match s with | .lift .. => true | _ => false)) H'
theorem G_is_lift (T : Top K mg) : FnOk P w K mg base CX0 3 T.f_is_lift T.fd_is_lift ["value", "wide"] sp_is_lift := by
  refine T.F_is_lift.ok sc_is_lift (fun vs H Q E h => by obtain ⟨v, n, s, rfl, _⟩ := h; rfl) (fun cdv A outer s H vs Q E hr h => ?_)
  obtain ⟨v, n, s, rfl, hV, hO, hn, q⟩ := h
  refine ⟨_, PSs.nox (pss_cons (ps_if (PW.pt (pw_or (pt_not (pt_val (pe_callB (k_isi K rfl) (by rfl) T.n_isinstance (by decide +kernel) (pa_cons (pv 0) (pa_cons (pe_bltn (v := .ty "tuple") (by rfl) T.n_tuple (by decide +kernel) rfl) pa_nil))))) (pw_or (pt_cmpR op_ne (pe_callB (k_len K rfl) (by rfl) T.n_len (by decide +kernel) (pa_cons (pv 0) pa_nil)) pe_int (nomark _)) (pw_or1 (pt_cmpR op_ne (pe_ix (k_ixT K rfl) (pv 0) pe_int (fun _ _ => rfl)) pe_str (nomark _))))))
    (pss_one (ps_ret pe_bl))
    pss_nil)
  (pss_cons (ps_if (PW.pt (pw_or (pt_not (pt_val (pe_call (G_is_between T) (hr.mono (by decide)) (by rfl) T.g_is_between T.F_is_between.kp T.b_is_between .nil pass0 (pa_cons (pe_ix (k_ixT K rfl) (pv 0) pe_int (fun _ _ => rfl)) (pa_cons pe_int (pa_cons (pe_op op_sub (pv 1) pe_int) pa_nil)))))) (pw_or1 (pt_not (pt_val (pe_call (G_is_between T) (hr.mono (by decide)) (by rfl) T.g_is_between T.F_is_between.kp T.b_is_between .nil pass0 (pa_cons (pe_ix (k_ixT K rfl) (pv 0) pe_int (fun _ _ => rfl)) (pa_cons pe_int (pa_cons pe_non pa_nil)))))))))
    (pss_one (ps_ret pe_bl))
    pss_nil)
  (pss_one (ps_ret (pe_and (pe_call (G_are_wholes T) (hr.mono (by decide)) (by rfl) T.g_are_wholes T.F_are_wholes.kp T.b_are_wholes .nil pass0 (pa_cons (pe_ix (k_ixT K rfl) (pv 0) pe_int (fun _ _ => rfl)) pa_nil)) (pe_and (pe_cmpR op_eq (pe_callB (k_len K rfl) (by rfl) T.n_len (by decide +kernel) (pa_cons (pe_ix (k_ixT K rfl) (pv 0) pe_int (fun _ _ => rfl)) pa_nil)) (pv 1) (nomark _)) (pe_one (pe_cmpR op_eq (pe_ix (k_ixL K rfl) (pe_ix (k_ixT K rfl) (pv 0) pe_int (fun _ _ => rfl)) (pe_ix (k_ixT K rfl) (pv 0) pe_int (fun _ _ => rfl)) (fun _ _ => rfl)) pe_int (nomark _))))))))), ?_⟩
  cases s with
  | turn i =>
    obtain ⟨t, rfl, ht⟩ := hV
    refine ⟨_, rfl, _, _, _, _, true, rfl, .ty _, ty_tup ht, kit_ty (by decide +kernel), true, rfl, ?_⟩
    walk_at "go"
    refine ⟨t, _, rfl, .inr (.inl (.inl ht)), ?_⟩
    walk_at "go"
    walk_at "b"
    refine iteENT (by show ¬ ((2 : Int) = 4); decide) ?_
    walk_at "go"
    exact q _ (Same.refl _)
  | swap i j =>
    obtain ⟨t, rfl, ht⟩ := hV
    refine ⟨_, rfl, _, _, _, _, true, rfl, .ty _, ty_tup ht, kit_ty (by decide +kernel), true, rfl, ?_⟩
    walk_at "go"
    refine ⟨t, _, rfl, .inr (.inl (.inl ht)), ?_⟩
    walk_at "go"
    walk_at "b"
    refine iteENT (by show ¬ ((3 : Int) = 4); decide) ?_
    walk_at "go"
    exact q _ (Same.refl _)
  | lift b ws sh =>
    obtain ⟨t, l, rfl, ht, hl, _⟩ := hV
    have hT : SqT K H t [sL, .int b, .ref l, .int sh] := .inl (.inl ht)
    refine ⟨_, rfl, _, _, _, _, true, rfl, .ty _, ty_tup ht, kit_ty (by decide +kernel), true, rfl, ?_⟩
    walk_at "go"
    refine ⟨t, _, rfl, .inr hT, ?_⟩
    walk_at "go"
    obtain ⟨hb, hwl, hw0, hs15, hws⟩ := hO
    have x0 : atI [sL, V.int b, .ref l, .int sh] 0 = some sL := rfl
    have x1 : atI [sL, V.int b, .ref l, .int sh] 1 = some (.int b) := rfl
    have x2 : atI [sL, V.int b, .ref l, .int sh] 2 = some (.ref l) := rfl
    have x3 : atI [sL, V.int b, .ref l, .int sh] 3 = some (.int sh) := rfl
    refine ⟨t, _, _, _, rfl, rfl, hT, x0, ?_⟩
    walk_at "go"
    refine ⟨t, _, _, _, rfl, rfl, hT, x1, ?_⟩
    walk_at "go"
    refine ⟨b, 0, some ((n : Int) - 1), rfl, ?_⟩
    rw [decide_eq_true ⟨by omega, fun j h => by cases h; omega⟩]
    refine ⟨true, rfl, ?_⟩
    walk_at "go"
    refine ⟨t, _, _, _, rfl, rfl, hT, x3, ?_⟩
    walk_at "go"
    refine ⟨sh, 0, none, rfl, ?_⟩
    rw [decide_eq_true ⟨by omega, fun j h => nomatch h⟩]
    refine ⟨true, rfl, ?_⟩
    walk_at "go"
    refine ⟨t, _, _, _, rfl, rfl, hT, x2, ?_⟩
    walk_at "go"
    refine ⟨l, ws, rfl, hl, by omega, fun H1 s1 => ?_⟩
    have hT1 := Same.tup s1 hT
    have hl1 := s1 _ _ hl
    refine ⟨true, rfl, iteT ?_⟩
    walk_at "go"
    refine ⟨t, _, _, _, rfl, rfl, hT1, x2, ?_⟩
    walk_at "go"
    refine ⟨l, _, rfl, .inl (.inl (.inl hl1)), ?_⟩
    rw [List.length_map, hwl]
    walk_at "go"
    have hz : (ws.map V.int)[b]? = some (.int 0) := by
      rw [List.getElem?_map, List.getElem?_eq_getElem (show b < ws.length by omega)]
      rw [List.getD_eq_getElem?_getD, List.getElem?_eq_getElem (show b < ws.length by omega)] at hw0
      exact congrArg (fun z => some (V.int z)) hw0
    refine ⟨t, _, _, _, rfl, rfl, hT1, x2, ?_⟩
    walk_at "go"
    refine ⟨t, _, _, _, rfl, rfl, hT1, x1, ?_⟩
    walk_at "go"
    refine ⟨l, _, _, _, rfl, rfl, .inl (.inl hl1), atI_nat hz, ?_⟩
    walk_at "go"
    exact q _ s1
def sp_is_step : Sp := fun vs H Q _ => ∃ (v : V) (n : Nat) (s : Step), vs = [v, .int n] ∧ StepV (fun _ => True) H v s ∧ s.ok n ∧ n ≤ 4 ∧ ∀ H', Same H H' → Q (.bl true) H'
theorem G_is_step (T : Top K mg) : FnOk P w K mg base CX0 4 T.f_is_step T.fd_is_step ["value", "wide"] sp_is_step := by
  refine T.F_is_step.ok sc_is_step (fun vs H Q E h => by obtain ⟨v, n, s, rfl, _⟩ := h; rfl) (fun cdv A outer s H vs Q E hr h => ?_)
  obtain ⟨v, n, s, rfl, hV, hO, hn, q⟩ := h
  refine ⟨_, PSs.nox (pss_cons (ps_if (pt_val (pe_call (G_is_lift T) (hr.mono (by decide)) (by rfl) T.g_is_lift T.F_is_lift.kp T.b_is_lift .nil pass0 (pa_cons (pv 0) (pa_cons (pv 1) pa_nil))))
    (pss_one (ps_ret pe_bl))
    pss_nil)
  (pss_cons (ps_if (PW.pt (pw_or (pt_not (pt_val (pe_callB (k_isi K rfl) (by rfl) T.n_isinstance (by decide +kernel) (pa_cons (pv 0) (pa_cons (pe_bltn (v := .ty "tuple") (by rfl) T.n_tuple (by decide +kernel) rfl) pa_nil))))) (pw_or (pt_cmpR op_lt (pe_callB (k_len K rfl) (by rfl) T.n_len (by decide +kernel) (pa_cons (pv 0) pa_nil)) pe_int (nomark _)) (pw_or1 (pt_cmpR (k_notIn K rfl) (pe_ix (k_ixT K rfl) (pv 0) pe_int (fun _ _ => rfl)) (pe_tup (pa_cons pe_str (pa_cons pe_str pa_nil))) (by rfl))))))
    (pss_one (ps_ret pe_bl))
    pss_nil)
  (pss_cons (ps_if (pt_cmpR (k_neD K rfl hr.units) (pe_lc (own := [("at", 2)]) (g := gName 2) (by rfl) sc_is_step.nd (k_piT K rfl (pe_slice (k_slT K rfl) (pv 0) (po_some pe_int) po_none)) (blkOk_by (own := [("at", 2)]) (N := N_is_step) (sc := defScope s_is_step) (by decide +kernel)) (fun _ _ _ _ _ => (pg_name (i := 2) sc_is_step.nd rfl (by first | exact Or.inl rfl | exact Or.inr rfl))) (fun _ _ _ _ _ => (pts_one (pt_not (pt_val (pe_call (G_is_between T) (hr.mono (by decide)) (by rfl) T.g_is_between T.F_is_between.kp T.b_is_between .nil pass0 (pa_cons (pv 2) (pa_cons pe_int (pa_cons (pe_op op_sub (pv 1) pe_int) pa_nil)))))))) (fun _ _ _ _ _ => (pv 2))) (pe_lst pa_nil) (nomark _))
    (pss_one (ps_ret pe_bl))
    pss_nil)
  (pss_cons (ps_if (pt_cmpR op_eq (pe_ix (k_ixT K rfl) (pv 0) pe_int (fun _ _ => rfl)) pe_str (nomark _))
    (pss_one (ps_ret (pe_cmpR op_eq (pe_callB (k_len K rfl) (by rfl) T.n_len (by decide +kernel) (pa_cons (pv 0) pa_nil)) pe_int (nomark _))))
    pss_nil)
  (pss_one (ps_ret (pe_and (pe_cmpR op_eq (pe_callB (k_len K rfl) (by rfl) T.n_len (by decide +kernel) (pa_cons (pv 0) pa_nil)) pe_int (nomark _)) (pe_one (pe_cmpR op_ne (pe_ix (k_ixT K rfl) (pv 0) pe_int (fun _ _ => rfl)) (pe_ix (k_ixT K rfl) (pv 0) pe_int (fun _ _ => rfl)) (nomark _)))))))))), ?_⟩
  refine ⟨_, rfl, _, rfl, v, n, s, rfl, hV, hO, hn, fun H1 s1 => ?_⟩
  cases s with
  | lift b ws sh =>
    refine ⟨true, rfl, ?_⟩
    walk_at "go"
    exact q _ s1
  | turn i =>
    obtain ⟨t, rfl, ht⟩ := hV
    have ht1 := s1 _ _ ht
    have hT : SqT K H1 t [sT, .int i] := .inl (.inl ht1)
    have x0 : atI [sT, V.int i] 0 = some sT := rfl
    have x1 : atI [sT, V.int i] 1 = some (.int i) := rfl
    have hi : i < n := hO
    refine ⟨false, rfl, ?_⟩
    walk_at "go"
    refine ⟨_, _, _, _, true, rfl, .ty _, ty_tup ht1, kit_ty (by decide +kernel), true, rfl, ?_⟩
    walk_at "go"
    refine ⟨t, _, rfl, .inr hT, ?_⟩
    walk_at "go"
    refine ⟨t, _, _, _, rfl, rfl, hT, x0, ?_⟩
    refine ⟨(show 2 ≤ sizeLine by decide), fun p2 np2 => ?_⟩
    obtain ⟨H2, e2, s2, h2⟩ := fresh (.tup [sT, sS]) np2
    rw [show upd H1 p2 (HO.tup [V.str (Str.ofString "turn"), V.str (Str.ofString "swap")]) = H2 from e2]
    refine ⟨p2, _, rfl, .inr (.inl (.inl h2)), rfl, rfl, ?_⟩
    rw [show (!inV sT [sT, sS]) = false by decide +kernel]
    walk_at "go"
    have hT2 := Same.tup s2 hT
    refine ⟨t, _, rfl, hT2, (show ¬ (HT.sIx 2 0 (some 1) = 0 ∧ HT.sIx 2 2 none = 2) by decide), fun p3 np3 => ?_⟩
    obtain ⟨H3, e3, s3, h3⟩ := fresh (.tup [V.int (i : Int)]) np3
    rw [show upd H2 p3 (.tup (cutV [sT, .int i] (some 1) none)) = H3 from e3]
    walk_at "go"
    refine ⟨⟨_, .inl (.inl h3)⟩, fun D nD => ?_⟩
    refine lc_dW (walk_tup (K := K) (a := p3) (xs := [V.int (i : Int)])) (S := []) Has.nil [none] nD rfl (small1000 (show 1 ≤ 1000 by decide)) (fun H' s => .inl (.inl (s _ _ h3))) ?_ ?_
    · rintro k o H0 x H'' hk ho s0 hH ⟨rfl, hx⟩ Qt qt
      obtain ⟨a, ha, rfl⟩ : ∃ a : Nat, a < n ∧ x = .int (a : Int) := by
        match k, hx with
        | 0, hx => cases hx; exact ⟨i, hi, rfl⟩
        | k + 1, hx => simp at hx
      have eo : o = none := by
        match k, ho with
        | 0, ho => cases ho; rfl
        | k + 1, ho => simp at ho
      subst eo
      refine ⟨rfl, ?_⟩
      walk_at "go"
      refine ⟨a, 0, some ((n : Int) - 1), rfl, ?_⟩
      rw [decide_eq_true ⟨by omega, fun j h => by cases h; omega⟩]
      refine ⟨true, rfl, ?_⟩
      walk_at "go"
      exact qt none _ (Same.refl _) trivial
    intro H4 s4 _ dD
    rw [show ([none] : List (Option PyData)).filterMap id = ([] : List Int).map PyData.int from rfl, rs_nil] at dD
    obtain ⟨_, e, hD⟩ := Dt.intsE (ns := []) dD
    cases e
    walk_at "go"
    refine ⟨Nat.zero_le _, fun p4 np4 => ?_⟩
    obtain ⟨H5, e5, s5, h5⟩ := fresh (.lst []) np4
    rw [e5]
    refine ne_lst (ns := []) (.inl (.inl (s5 _ _ hD))) (.inl (.inl h5)) ?_
    have s25 := s3.trans (s4.trans s5)
    have hT5 := Same.tup s25 hT2
    have s05 := s1.trans (s2.trans s25)
    walk_at "go"
    refine ⟨t, _, _, _, rfl, rfl, hT5, x0, ?_⟩
    refine ⟨rfl, _, rfl, iteDT rfl ?_⟩
    walk_at "go"
    refine ⟨t, _, rfl, .inr hT5, ?_⟩
    exact ⟨rfl, q _ s05⟩
  | swap i j =>
    obtain ⟨t, rfl, ht⟩ := hV
    have ht1 := s1 _ _ ht
    have hT : SqT K H1 t [sS, .int i, .int j] := .inl (.inl ht1)
    have x0 : atI [sS, V.int i, .int j] 0 = some sS := rfl
    have x1 : atI [sS, V.int i, .int j] 1 = some (.int i) := rfl
    have x2 : atI [sS, V.int i, .int j] 2 = some (.int j) := rfl
    obtain ⟨hi, hj, hij⟩ := hO
    refine ⟨false, rfl, ?_⟩
    walk_at "go"
    refine ⟨_, _, _, _, true, rfl, .ty _, ty_tup ht1, kit_ty (by decide +kernel), true, rfl, ?_⟩
    walk_at "go"
    refine ⟨t, _, rfl, .inr hT, ?_⟩
    walk_at "go"
    refine ⟨t, _, _, _, rfl, rfl, hT, x0, ?_⟩
    refine ⟨(show 2 ≤ sizeLine by decide), fun p2 np2 => ?_⟩
    obtain ⟨H2, e2, s2, h2⟩ := fresh (.tup [sT, sS]) np2
    rw [show upd H1 p2 (HO.tup [V.str (Str.ofString "turn"), V.str (Str.ofString "swap")]) = H2 from e2]
    refine ⟨p2, _, rfl, .inr (.inl (.inl h2)), rfl, rfl, ?_⟩
    rw [show (!inV sS [sT, sS]) = false by decide +kernel]
    walk_at "go"
    have hT2 := Same.tup s2 hT
    refine ⟨t, _, rfl, hT2, (show ¬ (HT.sIx 3 0 (some 1) = 0 ∧ HT.sIx 3 3 none = 3) by decide), fun p3 np3 => ?_⟩
    obtain ⟨H3, e3, s3, h3⟩ := fresh (.tup [V.int (i : Int), V.int (j : Int)]) np3
    rw [show upd H2 p3 (.tup (cutV [sS, .int i, .int j] (some 1) none)) = H3 from e3]
    walk_at "go"
    refine ⟨⟨_, .inl (.inl h3)⟩, fun D nD => ?_⟩
    refine lc_dW (walk_tup (K := K) (a := p3) (xs := [V.int (i : Int), V.int (j : Int)])) (S := []) Has.nil [none, none] nD rfl (small1000 (show 2 ≤ 1000 by decide)) (fun H' s => .inl (.inl (s _ _ h3))) ?_ ?_
    · rintro k o H0 x H'' hk ho s0 hH ⟨rfl, hx⟩ Qt qt
      obtain ⟨a, ha, rfl⟩ : ∃ a : Nat, a < n ∧ x = .int (a : Int) := by
        match k, hx with
        | 0, hx => cases hx; exact ⟨i, hi, rfl⟩
        | 1, hx => cases hx; exact ⟨j, hj, rfl⟩
        | k + 2, hx => simp at hx
      have eo : o = none := by
        match k, ho with
        | 0, ho => cases ho; rfl
        | 1, ho => cases ho; rfl
        | k + 2, ho => simp at ho
      subst eo
      refine ⟨rfl, ?_⟩
      walk_at "go"
      refine ⟨a, 0, some ((n : Int) - 1), rfl, ?_⟩
      rw [decide_eq_true ⟨by omega, fun j h => by cases h; omega⟩]
      refine ⟨true, rfl, ?_⟩
      walk_at "go"
      exact qt none _ (Same.refl _) trivial
    intro H4 s4 _ dD
    rw [show ([none, none] : List (Option PyData)).filterMap id = ([] : List Int).map PyData.int from rfl, rs_nil] at dD
    obtain ⟨_, e, hD⟩ := Dt.intsE (ns := []) dD
    cases e
    walk_at "go"
    refine ⟨Nat.zero_le _, fun p4 np4 => ?_⟩
    obtain ⟨H5, e5, s5, h5⟩ := fresh (.lst []) np4
    rw [e5]
    refine ne_lst (ns := []) (.inl (.inl (s5 _ _ hD))) (.inl (.inl h5)) ?_
    have s25 := s3.trans (s4.trans s5)
    have hT5 := Same.tup s25 hT2
    have s05 := s1.trans (s2.trans s25)
    walk_at "go"
    refine ⟨t, _, _, _, rfl, rfl, hT5, x0, ?_⟩
    refine ⟨rfl, _, rfl, iteDF (by decide) ?_⟩
    walk_at "go"
    refine ⟨t, _, rfl, .inr hT5, ?_⟩
    refine ⟨rfl, _, rfl, iteDT rfl ?_⟩
    walk_at "go"
    refine ⟨t, _, _, _, rfl, rfl, hT5, x1, ?_⟩
    walk_at "go"
    refine ⟨t, _, _, _, rfl, rfl, hT5, x2, ?_⟩
    have z := q _ s05
    rw [show true = (!decide (V.int (i : Int) = V.int (j : Int))) by rw [decide_eq_false (fun z => hij (by have := V.int.inj z; omega))]; rfl] at z
    exact ⟨rfl, z⟩
end
end My

namespace My
open PySem PySem.Spec PyProof.Rows L2 Pre
theorem take_snoc {α : Type} {l : List α} {i : Nat} {x : α} (h : l[i]? = some x) : l.take (i + 1) = l.take i ++ [x] := by
  rw [List.take_add_one, h]
  rfl
theorem tyx_insC {K : PySem.W.Frag} {H : Hp} {a C dx : Addr} {fs : List (Str × V)} (c : C8.InsC K C) (h : H a = some (.ins C dx fs)) : TyX K H (.ref a) (.ref C) := .base (.ins h c.cl c.ha c.hn c.htk c.hm)
/-- a comprehension that makes steps or rows of the items of a list -/
theorem lc_stp {K : PySem.W.Frag} {a : Addr} {xs : List V} {j : Nat} {te : TE} {vs : List Nat} {σ : L2.St} {H1 : Hp} {D : Addr} {Qd : Hp → Prop} {ss : List Step} (R : Hp → V → Step → Prop) (hR : ∀ {H H' : Hp}, (∃ ys, H D = some (.lst ys)) → (∀ b o, b ≠ D → H b = some o → H' b = some o) → ∀ v s, R H v s → R H' v s)
    (nD : H1 D = none) (hA : SqL K H1 a xs) (hl : xs.length = ss.length) (hz : xs.length < sizeLine)
    (hw : ∀ x, wipe ((wipe σ vs).set j (some x)) vs = wipe σ vs)
    (hs : ∀ (i : Nat) (x : V) (s : Step) (H' : Hp), xs[i]? = some x → ss[i]? = some s → Same H1 H' → (∃ ys, H' D = some (.lst ys)) → ∀ Qt : V → Hp → Prop, (∀ y H'', Same H' H'' → R H'' y s → Qt y H'') → te ((wipe σ vs).set j (some x)) H' Qt)
    (hd : ∀ H' ys, Same H1 H' → H' D = some (.lst ys) → AllV (R H') ys ss → Qd H') :
    ∃ W : Nat → Nat → Hp → Prop, (∃ m, W 0 m (upd H1 D (.lst []))) ∧ ∀ i m H, W i m H →
      ((Itl K a).stop i H ∧ Qd H) ∨ ((Itl K a).go i H ∧ ∃ Nx : Hp → Prop, (∀ H', Nx H' → ∃ m', m' < m ∧ W (i + 1) m' H') ∧ ∀ x H', (Itl K a).yld i H x H' → gName j x (wipe σ vs) H' fun σ2 H2 => wipe σ2 vs = wipe σ vs ∧ tYes σ2 H2 fun b H3 =>
        if b = true then te σ2 H3 fun y H4 => ∃ acc, H4 D = some (.lst acc) ∧ acc.length < sizeLine ∧ Nx (upd H4 D (.lst (acc ++ [y]))) else Nx H3) := by
  refine lc_list (K := K) (a := a) (xs := xs) (fun i H => Same H1 H ∧ ∃ ys, H D = some (.lst ys) ∧ AllV (R H) ys (ss.take i)) ⟨same_upd nD, [], upd_same, trivial⟩ (fun i H _ p => p.1.seq hA) ?_ ?_
  · rintro i x H hx ⟨s1, ys, hD, hy⟩
    refine ⟨hw _, ?_⟩
    have hi := (List.getElem?_eq_some_iff.mp hx).1
    have hsi : ss[i]? = some (ss[i]'(by omega)) := List.getElem?_eq_getElem (by omega)
    unfold tYes
    dsimp only
    rw [if_pos (show true = true from rfl)]
    refine hs i x _ H hx hsi s1 ⟨ys, hD⟩ _ fun y H2 s2 r => ?_
    have hD2 := s2 _ _ hD
    have hyl := hy.len
    rw [List.length_take] at hyl
    refine ⟨ys, hD2, by omega, same_over nD (s1.trans s2), ys ++ [y], upd_same, ?_⟩
    rw [take_snoc hsi]
    have k : ∀ b o, b ≠ D → H2 b = some o → upd H2 D (.lst (ys ++ [y])) b = some o := fun b o nb h => by rw [upd_ne nb]; exact h
    exact (hy.imp fun v s h => hR ⟨_, hD2⟩ k v s (hR ⟨_, hD⟩ (fun b o _ h => s2 b o h) v s h)).app ⟨hR ⟨_, hD2⟩ k _ _ r, trivial⟩
  · rintro H ⟨s1, ys, hD, hy⟩
    rw [hl, List.take_length] at hy
    exact hd H ys s1 hD hy
theorem row_off {D : Addr} {H H' : Hp} (h : ∃ ys, H D = some (.lst ys)) (k : ∀ b o, b ≠ D → H b = some o → H' b = some o) (v : V) (s : Step) (r : RowV H v s) : RowV H' v s :=
  RowV.lk (M := fun b => b = D) (fun b o n e => k b o n e) (fun b e => by rw [e]; exact h) r
theorem step_off {D : Addr} {H0 H H' : Hp} (h : ∃ ys, H D = some (.lst ys)) (k : ∀ b o, b ≠ D → H b = some o → H' b = some o) (v : V) (s : Step) (r : StepV (fun l => l ≠ D ∧ H0 l = none) H v s) : StepV (fun l => l ≠ D ∧ H0 l = none) H' v s :=
  StepV.lk (M := fun b => b = D) (fun b o n e => k b o n e) (fun b e => by rw [e]; exact h) (fun l n e => n.1 e) r
local macro_rules | `(tactic| walk_at "go") => `(tactic| repeat (first | (with_reducible first | refine iteT ?_ | refine iteF ?_ | refine iteNtt ?_ | refine iteNff ?_ | refine iteET (by omega) ?_ | refine iteEF (by omega) ?_ | refine iteENT (by omega) ?_ | refine iteENF (by omega) ?_ | refine iteDT (by omega) ?_ | refine iteDF (by omega) ?_ | refine iteNT (by omega) ?_ | refine iteNF (by omega) ?_) | refine ⟨_, rfl, ?_⟩ | refine ⟨_, _, rfl, rfl, ?_⟩ | refine ⟨_, _, rfl, ?_⟩ | refine ⟨rfl, ?_⟩ | refine .inl ⟨_, rfl, ?_⟩ | refine .inr ⟨_, rfl, ?_⟩))
local macro_rules | `(tactic| walk_at "b") => `(tactic| try dsimp (config := { proj := false, iota := false, eta := false, zeta := false }) only)
section
variable {P : Program} {w : World} {K : PySem.W.Frag} {mg : Str → Option Value} {base : Heap}
def sp_check_number : Sp := fun vs H Q _ => ∃ (i lo : Int) (hi : Option Int), vs = [.int i, .int lo, (match hi with | some j => .int j | none => .non)] ∧ lo ≤ i ∧ (∀ j, hi = some j → i ≤ j) ∧ Q .non H
theorem G_check_number (T : Top K mg) : FnOk P w K mg base CX0 3 T.f_check_number T.fd_check_number ["number", "low", "high"] sp_check_number := by
  refine T.F_check_number.ok sc_check_number (fun vs H Q E h => by obtain ⟨i, lo, hi, rfl, _⟩ := h; rfl) (fun cdv A outer s H vs Q E hr h => ?_)
  obtain ⟨i, lo, hi, rfl, h0, h1, q⟩ := h
  refine ⟨_, PSs.nox (pss_one (ps_if (pt_not (pt_val (pe_call (G_is_between T) (hr.mono (by decide)) (by rfl) T.g_is_between T.F_is_between.kp T.b_is_between .nil pass0 (pa_cons (pv 0) (pa_cons (pv 1) (pa_cons (pv 2) pa_nil))))))
    (pss_one ps_never)
    pss_nil)), ?_⟩
  refine ⟨_, rfl, _, rfl, _, rfl, i, lo, hi, rfl, _, rfl, ?_⟩
  rw [decide_eq_true ⟨h0, h1⟩]
  exact iteF q
def sp_closed : Sp := fun vs H Q _ => ∃ (v : V) (s : Step), vs = [v] ∧ StepV (fun _ => True) H v s ∧ ∀ H' v', Same H H' → RowV H' v' s → Q v' H'
theorem G_closed (T : Top K mg) : FnOk P w K mg base CX0 1 T.f_closed T.fd_closed ["step"] sp_closed := by
  refine T.F_closed.ok sc_closed (fun vs H Q E h => by obtain ⟨v, s, rfl, _⟩ := h; rfl) (fun cdv A outer s H vs Q E hr h => ?_)
  obtain ⟨v, s, rfl, hV, q⟩ := h
  refine ⟨_, PSs.nox (pss_one (ps_ret (pe_ifExp (pt_cmpR op_eq (pe_ix (k_ixT K rfl) (pv 0) pe_int (fun _ _ => rfl)) pe_str (nomark _)) (pe_tup (pa_cons (pe_ix (k_ixT K rfl) (pv 0) pe_int (fun _ _ => rfl)) (pa_cons (pe_ix (k_ixT K rfl) (pv 0) pe_int (fun _ _ => rfl)) (pa_cons (pe_callTy (k_tupleOf K rfl) (by rfl) T.n_tuple (by decide +kernel) (pa_cons (pe_ix (k_ixT K rfl) (pv 0) pe_int (fun _ _ => rfl)) pa_nil)) (pa_cons (pe_ix (k_ixT K rfl) (pv 0) pe_int (fun _ _ => rfl)) pa_nil))))) (pv 0)))), ?_⟩
  cases s with
  | turn i =>
    obtain ⟨t, rfl, ht⟩ := hV
    have hT : SqT K H t [sT, .int i] := .inl (.inl ht)
    refine ⟨_, rfl, t, _, _, _, rfl, rfl, hT, rfl, rfl, _, rfl, iteDF (by decide) ?_⟩
    exact ⟨_, rfl, q _ _ (Same.refl _) ⟨t, rfl, ht⟩⟩
  | swap i j =>
    obtain ⟨t, rfl, ht⟩ := hV
    have hT : SqT K H t [sS, .int i, .int j] := .inl (.inl ht)
    refine ⟨_, rfl, t, _, _, _, rfl, rfl, hT, rfl, rfl, _, rfl, iteDF (by decide) ?_⟩
    exact ⟨_, rfl, q _ _ (Same.refl _) ⟨t, rfl, ht⟩⟩
  | lift b ws sh =>
    obtain ⟨t, l, rfl, ht, hl, _⟩ := hV
    have hT : SqT K H t [sL, .int b, .ref l, .int sh] := .inl (.inl ht)
    refine ⟨_, rfl, t, _, _, _, rfl, rfl, hT, rfl, rfl, _, rfl, iteDT rfl ?_⟩
    refine ⟨_, rfl, t, _, _, _, rfl, rfl, hT, rfl, ?_⟩
    refine ⟨_, rfl, t, _, _, _, rfl, rfl, hT, rfl, ?_⟩
    refine ⟨_, rfl, t, _, _, _, rfl, rfl, hT, rfl, ?_⟩
    refine ⟨l, _, rfl, .inl ⟨.inl (.inl hl), fun p np => ?_⟩⟩
    obtain ⟨H1, e1, s1, h1⟩ := fresh (.tup (ws.map V.int)) np
    rw [e1]
    refine ⟨_, rfl, t, _, _, _, rfl, rfl, Same.tup s1 hT, rfl, (show 4 ≤ sizeLine by decide), fun p2 np2 => ?_⟩
    obtain ⟨H2, e2, s2, h2⟩ := fresh (.tup [sL, V.int b, .ref p, .int sh]) np2
    rw [e2]
    exact q _ _ (s1.trans s2) ⟨p2, p, rfl, h2, s2 _ _ h1⟩
def sp_opened : Sp := fun vs H Q _ => ∃ (v : V) (s : Step), vs = [v] ∧ RowV H v s ∧ ∀ H' v', Same H H' → StepV (Fl H H') H' v' s → Q v' H'
theorem G_opened (T : Top K mg) : FnOk P w K mg base CX0 1 T.f_opened T.fd_opened ["row"] sp_opened := by
  refine T.F_opened.ok sc_opened (fun vs H Q E h => by obtain ⟨v, s, rfl, _⟩ := h; rfl) (fun cdv A outer s H vs Q E hr h => ?_)
  obtain ⟨v, s, rfl, hV, q⟩ := h
  refine ⟨_, PSs.nox (pss_one (ps_ret (pe_ifExp (pt_cmpR op_eq (pe_ix (k_ixT K rfl) (pv 0) pe_int (fun _ _ => rfl)) pe_str (nomark _)) (pe_tup (pa_cons (pe_ix (k_ixT K rfl) (pv 0) pe_int (fun _ _ => rfl)) (pa_cons (pe_ix (k_ixT K rfl) (pv 0) pe_int (fun _ _ => rfl)) (pa_cons (pe_callTy (k_listOf K rfl) (by rfl) T.n_list (by decide +kernel) (pa_cons (pe_ix (k_ixT K rfl) (pv 0) pe_int (fun _ _ => rfl)) pa_nil)) (pa_cons (pe_ix (k_ixT K rfl) (pv 0) pe_int (fun _ _ => rfl)) pa_nil))))) (pv 0)))), ?_⟩
  cases s with
  | turn i =>
    obtain ⟨t, rfl, ht⟩ := hV
    have hT : SqT K H t [sT, .int i] := .inl (.inl ht)
    refine ⟨_, rfl, t, _, _, _, rfl, rfl, hT, rfl, rfl, _, rfl, iteDF (by decide) ?_⟩
    exact ⟨_, rfl, q _ _ (Same.refl _) ⟨t, rfl, ht⟩⟩
  | swap i j =>
    obtain ⟨t, rfl, ht⟩ := hV
    have hT : SqT K H t [sS, .int i, .int j] := .inl (.inl ht)
    refine ⟨_, rfl, t, _, _, _, rfl, rfl, hT, rfl, rfl, _, rfl, iteDF (by decide) ?_⟩
    exact ⟨_, rfl, q _ _ (Same.refl _) ⟨t, rfl, ht⟩⟩
  | lift b ws sh =>
    obtain ⟨t, l, rfl, ht, hl⟩ := hV
    have hT : SqT K H t [sL, .int b, .ref l, .int sh] := .inl (.inl ht)
    refine ⟨_, rfl, t, _, _, _, rfl, rfl, hT, rfl, rfl, _, rfl, iteDT rfl ?_⟩
    refine ⟨_, rfl, t, _, _, _, rfl, rfl, hT, rfl, ?_⟩
    refine ⟨_, rfl, t, _, _, _, rfl, rfl, hT, rfl, ?_⟩
    refine ⟨_, rfl, t, _, _, _, rfl, rfl, hT, rfl, ?_⟩
    refine ⟨l, _, rfl, .inr (.inl (.inl hl)), fun p np => ?_⟩
    obtain ⟨H1, e1, s1, h1⟩ := fresh (.lst (ws.map V.int)) np
    rw [e1]
    refine ⟨_, rfl, t, _, _, _, rfl, rfl, Same.tup s1 hT, rfl, (show 4 ≤ sizeLine by decide), fun p2 np2 => ?_⟩
    obtain ⟨H2, e2, s2, h2⟩ := fresh (.tup [sL, V.int b, .ref p, .int sh]) np2
    rw [e2]
    exact q _ _ (s1.trans s2) ⟨p2, p, rfl, h2, s2 _ _ h1, np, _, s2 _ _ h1⟩
def sp_Mixer___init__ (C : Addr) (K : PySem.W.Frag) : Sp := fun vs H Q _ => ∃ (x dx p : Addr) (n : Nat) (ss : List Step), vs = [.ref x, .int n, .ref p] ∧ H x = some (.ins C dx []) ∧ 1 ≤ n ∧ n ≤ 4 ∧ StepsAt (fun _ => True) H p ss ∧ (∀ s ∈ ss, s.ok n) ∧ ss.length ≤ 100 ∧
  ∀ H' r, (∀ b o, b ≠ x → H b = some o → H' b = some o) → H r = none → MixAt C H' x r n ss → Q .non H'
theorem G_Mixer___init__ (T : Top K mg) : FnOk P w K mg base CX0 5 T.f_Mixer___init__ T.fd_Mixer___init__ ["self", "wide", "steps"] (sp_Mixer___init__ T.C_Mixer K) := by
  refine T.F_Mixer___init__.ok sc_Mixer___init__ (fun vs H Q E h => by obtain ⟨x, dx, p, n, ss, rfl, _⟩ := h; rfl) (fun cdv A outer s H vs Q E hr h => ?_)
  obtain ⟨x, dx, p, n, ss, rfl, hx, hn1, hn4, hS, hO, hl, q⟩ := h
  refine ⟨_, PSs.nox (pss_cons (ps_expr (pe_call (G_check_number T) (hr.mono (by decide)) (by rfl) T.g_check_number T.F_check_number.kp T.b_check_number .nil pass0 (pa_cons (pv 1) (pa_cons pe_int (pa_cons (pe_glob (v := .int 4) rfl T.m_MOST_WAYS ⟨_, rfl⟩) pa_nil)))))
  (pss_cons (ps_if (pt_not (pt_val (pe_callB (k_isi K rfl) (by rfl) T.n_isinstance (by decide +kernel) (pa_cons (pv 2) (pa_cons (pe_bltn (v := .ty "list") (by rfl) T.n_list (by decide +kernel) rfl) pa_nil)))))
    (pss_one ps_never)
    pss_nil)
  (pss_cons (ps_for PassesOwn.never rfl (k_piL K rfl (pv 2)) (pg_name (i := 3) sc_Mixer___init__.nd rfl (by first | exact Or.inl rfl | exact Or.inr rfl))
    (pss_one (ps_if (pt_not (pt_val (pe_call (G_is_step T) (hr.mono (by decide)) (by rfl) T.g_is_step T.F_is_step.kp T.b_is_step .nil pass0 (pa_cons (pv 3) (pa_cons (pv 1) pa_nil)))))
    (pss_one ps_never)
    pss_nil)))
  (pss_cons (ps_fld (pv 0) (pv 1) rfl)
  (pss_one (ps_fld (pv 0) (pe_lc (own := [("item", 3)]) (g := gName 3) (tt := tYes) (by rfl) sc_Mixer___init__.nd (k_piL K rfl (pv 2)) (blkOk_by (own := [("item", 3)]) (N := N_Mixer___init__) (sc := defScope s_Mixer___init__) (by decide +kernel)) (fun _ _ _ _ _ => (pg_name (i := 3) sc_Mixer___init__.nd rfl (by first | exact Or.inl rfl | exact Or.inr rfl))) (fun _ _ _ _ _ => pts_nil) (fun _ _ _ _ _ => (pe_call (G_closed T) (hr.mono (by decide)) (by rfl) T.g_closed T.F_closed.kp T.b_closed .nil pass0 (pa_cons (pv 3) pa_nil)))) rfl)))))), ?_⟩
  obtain ⟨vs, hp, hv⟩ := hS
  have hvl := hv.len
  refine ⟨_, rfl, n, 1, some 4, rfl, by omega, (fun j h => by cases h; omega), ?_⟩
  refine ⟨_, rfl, _, _, _, _, true, rfl, .ty _, ty_list hp, kit_ty (by decide +kernel), true, rfl, iteF ?_⟩
  refine ⟨_, rfl, p, rfl, ⟨_, .inl (.inl hp)⟩, for_list (K := K) (a := p) (xs := vs) (fun i σ H1 => ∃ v3 : Option V, σ = [some (.ref x), some (.int n), some (.ref p), v3] ∧ Same H H1) ⟨none, rfl, Same.refl _⟩ (fun i σ H1 _ ⟨_, _, s⟩ => .inl (.inl (s _ _ hp))) ?_ ?_⟩
  · rintro i v σ H1 hi ⟨v3, rfl, s1⟩
    obtain ⟨s, hs, hvs⟩ := hv.get hi
    walk_at "go"
    refine ⟨v, n, s, rfl, hvs.same s1, hO s (List.mem_of_getElem? hs), hn4, fun H2 s2 => ?_⟩
    walk_at "go"
    exact s1.trans s2
  rintro σ H1 ⟨v3, rfl, s1⟩
  walk_at "go"
  refine ⟨x, T.C_Mixer, dx, [], rfl, s1 _ _ hx, T.cl_Mixer, T.na_Mixer_many, by decide, ?_⟩
  obtain ⟨H2, e2⟩ : ∃ H2, upd H1 x (.ins T.C_Mixer dx (putF (Str.ofString "many") (V.int n) [])) = H2 := ⟨_, rfl⟩
  rw [e2]
  have k12 : ∀ b o, b ≠ x → H b = some o → H2 b = some o := fun b o nb h => by rw [← e2, upd_ne nb]; exact s1 b o h
  have hx2 : H2 x = some (.ins T.C_Mixer dx [("many", V.int n)]) := by rw [← e2, upd_same]; rfl
  have px : p ≠ x := fun z => by rw [z, hx] at hp; cases hp
  have hp2 := k12 _ _ px hp
  have hv2 : AllV (StepV (fun _ => True) H2) vs ss := hv.imp fun v s h => by
    cases s with
    | turn i => obtain ⟨t, e, h1⟩ := h; exact ⟨t, e, k12 _ _ (fun z => by rw [z, hx] at h1; cases h1) h1⟩
    | swap i j => obtain ⟨t, e, h1⟩ := h; exact ⟨t, e, k12 _ _ (fun z => by rw [z, hx] at h1; cases h1) h1⟩
    | lift b ws sh =>
      obtain ⟨t, l, e, h1, h2, _⟩ := h
      exact ⟨t, l, e, k12 _ _ (fun z => by rw [z, hx] at h1; cases h1) h1, k12 _ _ (fun z => by rw [z, hx] at h2; cases h2) h2, trivial⟩
  refine ⟨_, rfl, p, rfl, ⟨_, .inl (.inl hp2)⟩, fun D nD => ?_⟩
  refine lc_stp (K := K) (xs := vs) (ss := ss) (fun H => RowV H) row_off nD (.inl (.inl hp2)) hvl (small1000 (by omega)) (fun x => rfl) ?_ ?_
  · intro i y s H' hy hs s' _ Qt qt
    obtain ⟨s2, hs2, hys⟩ := hv2.get hy
    rw [hs] at hs2
    cases hs2
    walk_at "go"
    exact ⟨y, s, rfl, hys.same s', fun H3 v' s3 r => qt v' H3 s3 r⟩
  intro H3 ys s3 hD hys
  walk_at "go"
  refine ⟨x, T.C_Mixer, dx, _, rfl, s3 _ _ hx2, T.cl_Mixer, T.na_Mixer_rows, (by show 1 < 1000; decide), ?_⟩
  have nDH : H D = none := by
    cases e : H D with
    | none => rfl
    | some o =>
      exfalso
      by_cases z : D = x
      · rw [z, hx2] at nD; cases nD
      · rw [k12 D o z e] at nD; cases nD
  have Dx : D ≠ x := fun z => by rw [z, hx2] at nD; cases nD
  refine q _ D (fun b o nb hb => ?_) nDH ⟨dx, ys, ?_, ?_, ?_⟩
  · rw [upd_ne nb]
    exact s3 _ _ (k12 b o nb hb)
  · rw [upd_same]
    rfl
  · rw [upd_ne Dx]
    exact hD
  · have hx3 := s3 _ _ hx2
    have off : ∀ {t : Addr} {xs : List V}, H3 t = some (.tup xs) → t ≠ x := fun h z => by rw [z, hx3] at h; cases h
    refine hys.imp fun v s h => ?_
    cases s with
    | turn i => obtain ⟨t, e, h1⟩ := h; exact ⟨t, e, by rw [upd_ne (off h1)]; exact h1⟩
    | swap i j => obtain ⟨t, e, h1⟩ := h; exact ⟨t, e, by rw [upd_ne (off h1)]; exact h1⟩
    | lift b ws sh =>
      obtain ⟨t, l, e, h1, h2⟩ := h
      exact ⟨t, l, e, by rw [upd_ne (off h1)]; exact h1, by rw [upd_ne (off h2)]; exact h2⟩
def sp_Mixer_wide (C : Addr) : Sp := fun vs H Q _ => ∃ (a r : Addr) (n : Nat) (ss : List Step), vs = [.ref a] ∧ MixAt C H a r n ss ∧ Q (.int n) H
theorem G_Mixer_wide (T : Top K mg) : FnOk P w K mg base CX0 1 T.f_Mixer_wide T.fd_Mixer_wide ["self"] (sp_Mixer_wide T.C_Mixer) := by
  refine T.F_Mixer_wide.ok sc_Mixer_wide (fun vs H Q E h => by obtain ⟨a, r, n, ss, rfl, _⟩ := h; rfl) (fun cdv A outer s H vs Q E hr h => ?_)
  obtain ⟨a, r, n, ss, rfl, hM, q⟩ := h
  refine ⟨_, PSs.nox (pss_one (ps_ret (pe_fld (pv 0) rfl))), ?_⟩
  obtain ⟨dx, vs, ha, hr0, hv⟩ := hM
  exact ⟨_, rfl, a, T.C_Mixer, dx, _, _, rfl, ha, T.cl_Mixer, T.na_Mixer_many, rfl, q⟩
def sp_Mixer_steps (C : Addr) (K : PySem.W.Frag) : Sp := fun vs H Q _ => ∃ (a r : Addr) (n : Nat) (ss : List Step), vs = [.ref a] ∧ MixAt C H a r n ss ∧ ss.length ≤ 100 ∧ ∀ H' p, Same H H' → H p = none → StepsAt (Fl H H') H' p ss → Q (.ref p) H'
theorem G_Mixer_steps (T : Top K mg) : FnOk P w K mg base CX0 2 T.f_Mixer_steps T.fd_Mixer_steps ["self"] (sp_Mixer_steps T.C_Mixer K) := by
  refine T.F_Mixer_steps.ok sc_Mixer_steps (fun vs H Q E h => by obtain ⟨a, r, n, ss, rfl, _⟩ := h; rfl) (fun cdv A outer s H vs Q E hr h => ?_)
  obtain ⟨a, r, n, ss, rfl, hM, hl, q⟩ := h
  refine ⟨_, PSs.nox (pss_one (ps_ret (pe_lc (own := [("row", 1)]) (g := gName 1) (tt := tYes) (by rfl) sc_Mixer_steps.nd (k_piL K rfl (pe_fld (pv 0) rfl)) (blkOk_by (own := [("row", 1)]) (N := N_Mixer_steps) (sc := defScope s_Mixer_steps) (by decide +kernel)) (fun _ _ _ _ _ => (pg_name (i := 1) sc_Mixer_steps.nd rfl (by first | exact Or.inl rfl | exact Or.inr rfl))) (fun _ _ _ _ _ => pts_nil) (fun _ _ _ _ _ => (pe_call (G_opened T) (hr.mono (by decide)) (by rfl) T.g_opened T.F_opened.kp T.b_opened .nil pass0 (pa_cons (pv 1) pa_nil)))))), ?_⟩
  obtain ⟨dx, vs, ha, hr0, hv⟩ := hM
  have hvl := hv.len
  refine ⟨_, rfl, a, T.C_Mixer, dx, _, _, rfl, ha, T.cl_Mixer, T.na_Mixer_rows, rfl, r, rfl, ⟨_, .inl (.inl hr0)⟩, fun D nD => ?_⟩
  refine lc_stp (K := K) (xs := vs) (ss := ss) (fun H1 => StepV (fun l => l ≠ D ∧ H l = none) H1) step_off nD (.inl (.inl hr0)) hvl (small1000 (by omega)) (fun x => rfl) ?_ ?_
  · intro i y s H' hy hs s' ⟨zs, hD⟩ Qt qt
    obtain ⟨s2, hs2, hys⟩ := hv.get hy
    rw [hs] at hs2
    cases hs2
    walk_at "go"
    refine ⟨y, s, rfl, hys.same s', fun H3 v' s3 k => ?_⟩
    exact qt v' H3 s3 (k.mono fun l hf => ⟨fun z => (by rw [z] at hf; rw [hf.1] at hD; cases hD), s'.free hf.1⟩)
  intro H3 ys s3 hD hys
  refine q _ D s3 nD ⟨ys, hD, hys.imp fun v s h => ?_⟩
  cases s with
  | turn i => exact h
  | swap i j => exact h
  | lift b ws sh =>
    obtain ⟨t, l, e, h1, h2, h3⟩ := h
    exact ⟨t, l, e, h1, h2, h3.2, _, h2⟩
def sp_Mixer___eq__ (C : Addr) : Sp := fun vs H Q _ => ∃ (a b r : Addr) (n : Nat) (ss : List Step), vs = [.ref a, .ref b] ∧ MixAt C H a r n ss ∧
  ((∃ r2 m ts, MixAt C H b r2 m ts ∧ ∀ H', Same H H' → Q (.bl (PyData.eqv (mixD n ss) (mixD m ts))) H') ∨ (∃ xs, H b = some (.lst xs) ∧ Q (.bl false) H))
theorem G_Mixer___eq__ (T : Top K mg) : FnOk P w K mg base CX0 1 T.f_Mixer___eq__ T.fd_Mixer___eq__ ["self", "other"] (sp_Mixer___eq__ T.C_Mixer) := by
  refine T.F_Mixer___eq__.ok sc_Mixer___eq__ (fun vs H Q E h => by obtain ⟨a, b, r, n, ss, rfl, _⟩ := h; rfl) (fun cdv A outer s H vs Q E hr h => ?_)
  obtain ⟨a, b, r, n, ss, rfl, hM, q⟩ := h
  refine ⟨_, PSs.nox (pss_cons (ps_if (pt_not (pt_val (pe_callB (k_isi K rfl) (by rfl) T.n_isinstance (by decide +kernel) (pa_cons (pv 1) (pa_cons (pe_glob (v := .ref T.C_Mixer) rfl T.gc_Mixer rfl) pa_nil)))))
    (pss_one (ps_ret pe_bl))
    pss_nil)
  (pss_one (ps_ret (pe_cmpR (k_eqD K rfl hr.units) (pe_tup (pa_cons (pe_fld (pv 0) rfl) (pa_cons (pe_fld (pv 0) rfl) pa_nil))) (pe_tup (pa_cons (pe_fld (pv 1) rfl) (pa_cons (pe_fld (pv 1) rfl) pa_nil))) (nomark _))))), ?_⟩
  rcases q with ⟨r2, m, ts, hM2, q⟩ | ⟨xs, hB, q⟩
  · obtain ⟨dx, vs, ha, hr0, hv⟩ := hM
    obtain ⟨dy, us, hb, hr2, hu⟩ := hM2
    refine ⟨_, rfl, _, _, _, _, true, rfl, .own _, tyx_insC T.ic_Mixer hb, T.ic_Mixer.me, true, rfl, ?_⟩
    walk_at "go"
    refine ⟨a, T.C_Mixer, dx, _, _, rfl, ha, T.cl_Mixer, T.na_Mixer_many, rfl, ?_⟩
    walk_at "go"
    refine ⟨a, T.C_Mixer, dx, _, _, rfl, ha, T.cl_Mixer, T.na_Mixer_rows, rfl, (show 2 ≤ sizeLine by decide), fun p np => ?_⟩
    obtain ⟨H1, e1, s1, h1⟩ := fresh (.tup [V.int n, V.ref r]) np
    rw [e1]
    walk_at "go"
    refine ⟨b, T.C_Mixer, dy, _, _, rfl, s1 _ _ hb, T.cl_Mixer, T.na_Mixer_many, rfl, ?_⟩
    walk_at "go"
    refine ⟨b, T.C_Mixer, dy, _, _, rfl, s1 _ _ hb, T.cl_Mixer, T.na_Mixer_rows, rfl, (show 2 ≤ sizeLine by decide), fun p2 np2 => ?_⟩
    obtain ⟨H2, e2, s2, h2⟩ := fresh (.tup [V.int m, V.ref r2]) np2
    rw [e2]
    have s02 := s1.trans s2
    have d1 : Dt H2 (.ref p) (mixD n ss) := .tup (s2 _ _ h1) (.cons (.int _) (.cons (.lst (s02 _ _ hr0) (AllV.dtr (hv.imp fun v s => RowV.same s02))) .nil))
    have d2 : Dt H2 (.ref p2) (mixD m ts) := .tup h2 (.cons (.int _) (.cons (.lst (s02 _ _ hr2) (AllV.dtr (hu.imp fun v s => RowV.same s02))) .nil))
    exact d_eq d1 d2 (mix_shaped n ss) (mix_shaped m ts) (q _ s02)
  · refine ⟨_, rfl, _, _, _, _, false, rfl, .own _, ty_list hB, T.ec_Mixer.ki, false, rfl, ?_⟩
    walk_at "go"
    exact q
def sp_check_mixer (C : Addr) : Sp := fun vs H Q _ => ∃ (a r : Addr) (n : Nat) (ss : List Step), vs = [.ref a] ∧ MixAt C H a r n ss ∧ Q .non H
theorem G_check_mixer (T : Top K mg) : FnOk P w K mg base CX0 1 T.f_check_mixer T.fd_check_mixer ["mixer"] (sp_check_mixer T.C_Mixer) := by
  refine T.F_check_mixer.ok sc_check_mixer (fun vs H Q E h => by obtain ⟨a, r, n, ss, rfl, _⟩ := h; rfl) (fun cdv A outer s H vs Q E hr h => ?_)
  obtain ⟨a, r, n, ss, rfl, hM, q⟩ := h
  refine ⟨_, PSs.nox (pss_one (ps_if (pt_not (pt_val (pe_callB (k_isi K rfl) (by rfl) T.n_isinstance (by decide +kernel) (pa_cons (pv 0) (pa_cons (pe_glob (v := .ref T.C_Mixer) rfl T.gc_Mixer rfl) pa_nil)))))
    (pss_one ps_never)
    pss_nil)), ?_⟩
  obtain ⟨dx, vs, ha, hr0, hv⟩ := hM
  refine ⟨_, rfl, _, _, _, _, true, rfl, .own _, tyx_insC T.ic_Mixer ha, T.ic_Mixer.me, true, rfl, iteF ?_⟩
  exact q
def sp_check_moment (C : Addr) : Sp := fun vs H Q _ => ∃ (a r p : Addr) (n : Nat) (ss : List Step) (xs : List Int), vs = [.ref a, .ref p] ∧ MixAt C H a r n ss ∧ n ≤ 4 ∧ H p = some (.lst (xs.map V.int)) ∧ xs.length = n ∧ ∀ H', Same H H' → Q .non H'
theorem G_check_moment (T : Top K mg) : FnOk P w K mg base CX0 3 T.f_check_moment T.fd_check_moment ["mixer", "samples"] (sp_check_moment T.C_Mixer) := by
  refine T.F_check_moment.ok sc_check_moment (fun vs H Q E h => by obtain ⟨a, r, p, n, ss, xs, rfl, _⟩ := h; rfl) (fun cdv A outer s H vs Q E hr h => ?_)
  obtain ⟨a, r, p, n, ss, xs, rfl, hM, hn, hp, hx, q⟩ := h
  refine ⟨_, PSs.nox (pss_one (ps_if (PW.pt (pw_or (pt_not (pt_val (pe_call (G_are_wholes T) (hr.mono (by decide)) (by rfl) T.g_are_wholes T.F_are_wholes.kp T.b_are_wholes .nil pass0 (pa_cons (pv 1) pa_nil)))) (pw_or1 (pt_cmpR op_ne (pe_callB (k_len K rfl) (by rfl) T.n_len (by decide +kernel) (pa_cons (pv 1) pa_nil)) (pe_fld (pv 0) rfl) (nomark _)))))
    (pss_one ps_never)
    pss_nil)), ?_⟩
  refine ⟨_, rfl, p, xs, rfl, hp, by omega, fun H1 s1 => ?_⟩
  obtain ⟨dx, vs, ha, hr0, hv⟩ := hM.same s1
  walk_at "go"
  refine ⟨p, _, rfl, .inl (.inl (.inl (s1 _ _ hp))), ?_⟩
  rw [List.length_map, hx]
  walk_at "go"
  refine ⟨a, T.C_Mixer, dx, _, _, rfl, ha, T.cl_Mixer, T.na_Mixer_many, rfl, rfl, _, rfl, iteENF rfl ?_⟩
  exact q _ s1
end
end My

namespace My
open PySem PySem.Spec PyProof.Rows L2 Pre
theorem dot_zip : ∀ ws xs : List Int, (List.zipWith (fun a b => a * b) ws xs).sum = dotP ws xs
  | [], xs => by cases xs <;> rfl
  | _ :: _, [] => rfl
  | w :: ws, x :: xs => by
    show w * x + (List.zipWith (fun a b => a * b) ws xs).sum = w * x + dotP ws xs
    rw [dot_zip ws xs]
theorem at_getD {xs : List Int} {i : Nat} (h : i < xs.length) : atI (xs.map V.int) (i : Int) = some (.int (xs.getD i 0)) := atI_nat (by
  rw [List.getElem?_map, List.getElem?_eq_getElem h, List.getD_eq_getElem?_getD, List.getElem?_eq_getElem h]
  rfl)
theorem ix_ok {xs : List V} {i : Nat} (h : i < xs.length) : ixN xs.length (i : Int) = some i := by
  unfold ixN
  rw [if_pos (by omega), Int.toNat_natCast, if_pos (Int.ofNat_lt.mpr h)]
theorem play_take {ss : List Step} {i : Nat} {s : Step} (h : ss[i]? = some s) (xs : List Int) : playF (ss.take (i + 1)) xs = stepF 1 s (playF (ss.take i) xs) := by
  unfold playF
  rw [take_snoc h, List.foldl_append]
  rfl
theorem back_take {ss : List Step} {i : Nat} {s : Step} (h : ss.reverse[i]? = some s) (xs : List Int) : (ss.reverse.take (i + 1)).foldl (fun x s => stepF (-1) s x) xs = stepF (-1) s ((ss.reverse.take i).foldl (fun x s => stepF (-1) s x) xs) := by
  rw [take_snoc h, List.foldl_append]
  rfl
theorem fold_len (way : Int) : ∀ (ss : List Step) (xs : List Int), (ss.foldl (fun x s => stepF way s x) xs).length = xs.length
  | [], _ => rfl
  | s :: ss, xs => by rw [List.foldl_cons, fold_len way ss, stepF_len]
local macro_rules | `(tactic| walk_at "go") => `(tactic| repeat (first | (with_reducible first | refine iteT ?_ | refine iteF ?_ | refine iteNtt ?_ | refine iteNff ?_ | refine iteET (by omega) ?_ | refine iteEF (by omega) ?_ | refine iteENT (by omega) ?_ | refine iteENF (by omega) ?_ | refine iteDT (by omega) ?_ | refine iteDF (by omega) ?_ | refine iteNT (by omega) ?_ | refine iteNF (by omega) ?_) | refine ⟨_, rfl, ?_⟩ | refine ⟨_, _, rfl, rfl, ?_⟩ | refine ⟨_, _, rfl, ?_⟩ | refine ⟨rfl, ?_⟩ | refine .inl ⟨_, rfl, ?_⟩ | refine .inr ⟨_, rfl, ?_⟩))
local macro_rules | `(tactic| walk_at "b") => `(tactic| try dsimp (config := { proj := false, iota := false, eta := false, zeta := false }) only)
section
variable {P : Program} {w : World} {K : PySem.W.Frag} {mg : Str → Option Value} {base : Heap}
def sp_summed (K : PySem.W.Frag) : Sp := fun vs H Q _ => ∃ (a b : Addr) (ws xs : List Int), vs = [.ref a, .ref b] ∧ (SqT K H a (ws.map V.int) ∨ SqL K H a (ws.map V.int)) ∧ SqL K H b (xs.map V.int) ∧ ws.length = xs.length ∧ ws.length ≤ 100 ∧ ((∀ w ∈ ws, -68719476736 ≤ w ∧ w ≤ 68719476736) ∨ ∀ w ∈ ws, ∀ x ∈ xs, CMulX w x) ∧ ∀ H', Same H H' → Q (.int (dotP ws xs)) H'
theorem G_summed (T : Top K mg) : FnOk P w K mg base CX0 1 T.f_summed T.fd_summed ["weights", "numbers"] (sp_summed K) := by
  refine T.F_summed.ok sc_summed (fun vs H Q E h => by obtain ⟨a, b, ws, xs, rfl, _⟩ := h; rfl) (fun cdv A outer s H vs Q E hr h => ?_)
  obtain ⟨a, b, ws, xs, rfl, hA, hB, hl, hz, hw, q⟩ := h
  refine ⟨_, PSs.nox (pss_one (ps_ret (pe_callB (k_sum K rfl rfl) (by rfl) T.n_sum (by decide +kernel) (pa_cons (pe_lc (own := [("weight", 2), ("number", 3)]) (g := gTup K 2 (gCons (gName 2) (gCons (gName 3) (gNil)))) (tt := tYes) (by rfl) sc_summed.nd (k_piZB K rfl (by rfl) T.n_zip (pa_cons (pv 0) (pa_cons (pv 1) pa_nil)) (pk_cons pe_bl pk_nil)) (blkOk_by (own := [("weight", 2), ("number", 3)]) (N := N_summed) (sc := defScope s_summed) (by decide +kernel)) (fun _ _ _ _ _ => (k_pgT K rfl (by rfl) (pgs_cons (pg_name (i := 2) sc_summed.nd rfl (by first | exact Or.inl rfl | exact Or.inr rfl)) (pgs_cons (pg_name (i := 3) sc_summed.nd rfl (by first | exact Or.inl rfl | exact Or.inr rfl)) pgs_nil)))) (fun _ _ _ _ _ => pts_nil) (fun _ _ _ _ _ => (pe_op op_mulA (pv 2) (pv 3)))) pa_nil)))), ?_⟩
  walk_at "go"
  have hzl : (List.zipWith (fun a b => a * b) ws xs).length = ws.length := by rw [List.length_zipWith, hl, Nat.min_self]
  have hm : ∀ {j n1 n2}, ws[j]? = some n1 → xs[j]? = some n2 → CMulA n1 n2 := fun h1 h2 => by
    rcases hw with hw | hw
    · have hb := hw _ (List.mem_of_getElem? h1)
      exact .inl (.inl ⟨by omega, by omega⟩)
    · exact .inr (hw _ (List.mem_of_getElem? h1) _ (List.mem_of_getElem? h2))
  rcases hA with hA | hA
  · refine ⟨a, b, _, _, rfl, hB, .inl ⟨hA, fun D nD => ?_⟩⟩
    refine lc_dW (walk_zs (K := K) (a := a) (b := b) (xs := ws.map V.int) (ys := xs.map V.int) (by rw [List.length_map, List.length_map, hl])) (S := []) Has.nil ((List.zipWith (fun a b => a * b) ws xs).map fun x => some (PyData.int x)) nD (by rw [List.length_map, hzl, List.length_map]) (by rw [List.length_map]; exact small1000 (by omega)) (fun H' s => ⟨Same.tup s hA, s.seq hB⟩) ?_ ?_
    · rintro j o H0 x H'' hj ho s0 hH ⟨T1, x1, y1, rfl, nT, rfl, e1, e2⟩ Qt qt
      have st := same_upd (o := .tup [x1, y1]) nT
      obtain ⟨n1, en1, rfl⟩ := int_at e1
      obtain ⟨n2, en2, rfl⟩ := int_at e2
      have eo : o = some (PyData.int (n1 * n2)) := by
        rw [List.getElem?_map, List.getElem?_zipWith, en1, en2] at ho
        exact (Option.some.inj ho).symm
      subst eo
      refine ⟨T1, _, rfl, .inl (.inl upd_same), rfl, ?_⟩
      generalize upd H0 T1 (.tup [V.int n1, V.int n2]) = H8 at st
      refine ⟨_, _, rfl, _, _, rfl, rfl, ⟨rfl, ?_⟩⟩
      walk_at "go"
      refine ⟨hm en1 en2, ?_⟩
      exact qt _ _ st (.int _)
    · intro H7 s7 _ dD
      have el : ((List.zipWith (fun a b => a * b) ws xs).map fun x => some (PyData.int x)).filterMap id = (List.zipWith (fun a b => a * b) ws xs).map PyData.int := sel_map _ _
      rw [el, rs_nil] at dD
      obtain ⟨_, e, hD⟩ := Dt.intsE (ns := List.zipWith (fun a b => a * b) ws xs) dD
      cases e
      refine ⟨D, _, rfl, .inl (.inl hD), ?_⟩
      rw [dot_zip]
      exact q _ s7
  · refine ⟨a, b, _, _, rfl, hB, .inr ⟨hA, fun D nD => ?_⟩⟩
    refine lc_dW (walk_zl (K := K) (a := a) (b := b) (xs := ws.map V.int) (ys := xs.map V.int) (by rw [List.length_map, List.length_map, hl])) (S := []) Has.nil ((List.zipWith (fun a b => a * b) ws xs).map fun x => some (PyData.int x)) nD (by rw [List.length_map, hzl, List.length_map]) (by rw [List.length_map]; exact small1000 (by omega)) (fun H' s => ⟨s.seq hA, s.seq hB⟩) ?_ ?_
    · rintro j o H0 x H'' hj ho s0 hH ⟨T1, x1, y1, rfl, nT, rfl, e1, e2⟩ Qt qt
      have st := same_upd (o := .tup [x1, y1]) nT
      obtain ⟨n1, en1, rfl⟩ := int_at e1
      obtain ⟨n2, en2, rfl⟩ := int_at e2
      have eo : o = some (PyData.int (n1 * n2)) := by
        rw [List.getElem?_map, List.getElem?_zipWith, en1, en2] at ho
        exact (Option.some.inj ho).symm
      subst eo
      refine ⟨T1, _, rfl, .inl (.inl upd_same), rfl, ?_⟩
      generalize upd H0 T1 (.tup [V.int n1, V.int n2]) = H8 at st
      refine ⟨_, _, rfl, _, _, rfl, rfl, ⟨rfl, ?_⟩⟩
      walk_at "go"
      refine ⟨hm en1 en2, ?_⟩
      exact qt _ _ st (.int _)
    · intro H7 s7 _ dD
      have el : ((List.zipWith (fun a b => a * b) ws xs).map fun x => some (PyData.int x)).filterMap id = (List.zipWith (fun a b => a * b) ws xs).map PyData.int := sel_map _ _
      rw [el, rs_nil] at dD
      obtain ⟨_, e, hD⟩ := Dt.intsE (ns := List.zipWith (fun a b => a * b) ws xs) dD
      cases e
      refine ⟨D, _, rfl, .inl (.inl hD), ?_⟩
      rw [dot_zip]
      exact q _ s7
def sp_stepped (K : PySem.W.Frag) : Sp := fun vs H Q _ => ∃ (v : V) (p : Addr) (way : Int) (s : Step) (xs : List Int), vs = [v, .ref p, .int way] ∧ RowV H v s ∧ H p = some (.lst (xs.map V.int)) ∧ s.ok xs.length ∧ xs.length ≤ 4 ∧ -1 ≤ way ∧ way ≤ 1 ∧
  ∀ H' p', Same H H' → H p' = none → H' p' = some (.lst ((stepF way s xs).map V.int)) → Q (.ref p') H'
theorem G_stepped (T : Top K mg) : FnOk P w K mg base CX0 2 T.f_stepped T.fd_stepped ["row", "numbers", "way"] (sp_stepped K) := by
  refine T.F_stepped.ok sc_stepped (fun vs H Q E h => by obtain ⟨v, p, way, s, xs, rfl, _⟩ := h; rfl) (fun cdv A outer s H vs Q E hr h => ?_)
  obtain ⟨v, p, way, s, xs, rfl, hV, hp, hO, hx, hw1, hw2, q⟩ := h
  refine ⟨_, PSs.nox (pss_cons (ps_set (i := 3) sc_stepped.nd rfl (by first | exact Or.inl rfl | exact Or.inr rfl) (pe_callTy (k_listOf K rfl) (by rfl) T.n_list (by decide +kernel) (pa_cons (pv 1) pa_nil)))
  (pss_cons (ps_if (pt_cmpR op_eq (pe_ix (k_ixT K rfl) (pv 0) pe_int (fun _ _ => rfl)) pe_str (nomark _))
    (pss_one (ps_asg (pe_op op_add (pe_ix (k_ixL K rfl) (pv 3) (pe_ix (k_ixT K rfl) (pv 0) pe_int (fun _ _ => rfl)) (fun _ _ => rfl)) (pe_op op_mul (pv 2) (pe_op op_shr (pe_call (G_summed T) (hr.mono (by decide)) (by rfl) T.g_summed T.F_summed.kp T.b_summed .nil pass0 (pa_cons (pe_ix (k_ixT K rfl) (pv 0) pe_int (fun _ _ => rfl)) (pa_cons (pv 3) pa_nil))) (pe_ix (k_ixT K rfl) (pv 0) pe_int (fun _ _ => rfl))))) (pg_sub (pv 3) (pe_ix (k_ixT K rfl) (pv 0) pe_int (fun _ _ => rfl)) set_list)))
    (pss_one (ps_if (pt_cmpR op_eq (pe_ix (k_ixT K rfl) (pv 0) pe_int (fun _ _ => rfl)) pe_str (nomark _))
    (pss_one (ps_asg (pe_op op_sub pe_int (pe_ix (k_ixL K rfl) (pv 3) (pe_ix (k_ixT K rfl) (pv 0) pe_int (fun _ _ => rfl)) (fun _ _ => rfl))) (pg_sub (pv 3) (pe_ix (k_ixT K rfl) (pv 0) pe_int (fun _ _ => rfl)) set_list)))
    (pss_one (ps_asg (pe_tup (pa_cons (pe_ix (k_ixL K rfl) (pv 3) (pe_ix (k_ixT K rfl) (pv 0) pe_int (fun _ _ => rfl)) (fun _ _ => rfl)) (pa_cons (pe_ix (k_ixL K rfl) (pv 3) (pe_ix (k_ixT K rfl) (pv 0) pe_int (fun _ _ => rfl)) (fun _ _ => rfl)) pa_nil))) (k_pgT K rfl (by rfl) (pgs_cons (pg_sub (pv 3) (pe_ix (k_ixT K rfl) (pv 0) pe_int (fun _ _ => rfl)) set_list) (pgs_cons (pg_sub (pv 3) (pe_ix (k_ixT K rfl) (pv 0) pe_int (fun _ _ => rfl)) set_list) pgs_nil))))))))
  (pss_one (ps_ret (pv 3))))), ?_⟩
  refine ⟨_, rfl, p, _, rfl, .inl (.inl (.inl hp)), fun l nl => ?_⟩
  obtain ⟨H1, e1, s1, h1⟩ := fresh (.lst (xs.map V.int)) nl
  rw [e1]
  have fin : ∀ {H2 : Hp} {ys : List Int}, Same H1 H2 → stepF way s xs = ys → Q (.ref l) (upd H2 l (.lst (ys.map V.int))) := fun s2 e => q _ l (same_over nl (s1.trans s2)) nl (by rw [upd_same, e])
  cases s with
  | turn i =>
    obtain ⟨t, rfl, ht⟩ := hV
    have hi : i < xs.length := hO
    have hT : SqT K H1 t [sT, .int i] := .inl (.inl (s1 _ _ ht))
    walk_at "go"
    refine ⟨t, _, _, _, rfl, rfl, hT, rfl, rfl, _, rfl, iteDF (by decide) ?_⟩
    walk_at "go"
    refine ⟨t, _, _, _, rfl, rfl, hT, rfl, rfl, _, rfl, iteDT rfl ?_⟩
    walk_at "go"
    refine ⟨t, _, _, _, rfl, rfl, hT, rfl, ?_⟩
    refine ⟨l, _, _, _, rfl, rfl, .inl (.inl h1), at_getD hi, ?_⟩
    walk_at "go"
    refine ⟨t, _, _, _, rfl, rfl, hT, rfl, ?_⟩
    refine ⟨l, _, _, i, rfl, rfl, h1, ix_ok (by rw [List.length_map]; exact hi), ?_⟩
    have z := fin (ys := xs.set i (0 - xs.getD i 0)) (Same.refl H1) rfl
    rw [List.map_set] at z
    exact ⟨_, rfl, z⟩
  | swap i j =>
    obtain ⟨t, rfl, ht⟩ := hV
    have hT : SqT K H1 t [sS, .int i, .int j] := .inl (.inl (s1 _ _ ht))
    walk_at "go"
    refine ⟨t, _, _, _, rfl, rfl, hT, rfl, rfl, _, rfl, iteDF (by decide) ?_⟩
    walk_at "go"
    refine ⟨t, _, _, _, rfl, rfl, hT, rfl, rfl, _, rfl, iteDF (by decide) ?_⟩
    walk_at "go"
    obtain ⟨hi, hj, hij⟩ := hO
    refine ⟨t, _, _, _, rfl, rfl, hT, rfl, ?_⟩
    refine ⟨l, _, _, _, rfl, rfl, .inl (.inl h1), at_getD hj, ?_⟩
    walk_at "go"
    refine ⟨t, _, _, _, rfl, rfl, hT, rfl, ?_⟩
    refine ⟨l, _, _, _, rfl, rfl, .inl (.inl h1), at_getD hi, ?_⟩
    refine ⟨(show 2 ≤ sizeLine by decide), fun tp ntp => ?_⟩
    obtain ⟨H2, e2, s2, h2⟩ := fresh (.tup [V.int (xs.getD j 0), V.int (xs.getD i 0)]) ntp
    rw [e2]
    have hT2 := Same.tup s2 hT
    have h12 := s2 _ _ h1
    refine ⟨tp, _, rfl, .inl (.inl h2), rfl, ?_⟩
    walk_at "go"
    refine ⟨t, _, _, _, rfl, rfl, hT2, rfl, ?_⟩
    refine ⟨l, _, _, i, rfl, rfl, h12, ix_ok (by rw [List.length_map]; exact hi), ?_⟩
    walk_at "go"
    have ht2 := s2 _ _ (s1 _ _ ht)
    have tl : t ≠ l := fun z => by rw [z, h12] at ht2; cases ht2
    refine ⟨t, _, _, _, rfl, rfl, .inl (.inl (by rw [upd_ne tl]; exact ht2)), rfl, ?_⟩
    refine ⟨l, _, _, j, rfl, rfl, upd_same, ix_ok (by rw [List.length_set, List.length_map]; exact hj), rfl, _, rfl, ?_⟩
    refine q _ l (same_over nl (same_over nl (s1.trans s2))) nl ?_
    rw [upd_same]
    show _ = some (HO.lst (((xs.set i (xs.getD j 0)).set j (xs.getD i 0)).map V.int))
    rw [List.map_set, List.map_set]
  | lift b ws sh =>
    obtain ⟨t, lw, rfl, ht, hlw⟩ := hV
    have hT : SqT K H1 t [sL, .int b, .ref lw, .int sh] := .inl (.inl (s1 _ _ ht))
    walk_at "go"
    refine ⟨t, _, _, _, rfl, rfl, hT, rfl, rfl, _, rfl, iteDT rfl ?_⟩
    walk_at "go"
    obtain ⟨hb, hwl, hw0, hs15, hws⟩ := hO
    refine ⟨t, _, _, _, rfl, rfl, hT, rfl, ?_⟩
    refine ⟨l, _, _, _, rfl, rfl, .inl (.inl h1), at_getD hb, ?_⟩
    walk_at "go"
    refine ⟨t, _, _, _, rfl, rfl, hT, rfl, ?_⟩
    walk_at "go"
    refine ⟨lw, l, ws, xs, rfl, .inl (.inl (.inl (s1 _ _ hlw))), .inl (.inl h1), hwl, by omega, .inl hws, fun H2 s2 => ?_⟩
    have hT2 := Same.tup s2 hT
    have h12 := s2 _ _ h1
    walk_at "go"
    refine ⟨t, _, _, _, rfl, rfl, hT2, rfl, ?_⟩
    refine ⟨_, _, rfl, rfl, Int.natCast_nonneg _, _, _, rfl, rfl, .inl ⟨by omega, by omega⟩, _, _, rfl, rfl, ?_⟩
    walk_at "go"
    refine ⟨t, _, _, _, rfl, rfl, hT2, rfl, ?_⟩
    refine ⟨l, _, _, b, rfl, rfl, h12, ix_ok (by rw [List.length_map]; exact hb), ?_⟩
    have z := fin (ys := xs.set b (xs.getD b 0 + way * (dotP ws xs / 2 ^ sh))) s2 rfl
    rw [List.map_set] at z
    exact ⟨_, rfl, z⟩
def sp_played (K : PySem.W.Frag) : Sp := fun vs H Q _ => ∃ (r p : Addr) (us : List V) (ss : List Step) (xs : List Int), vs = [.ref r, .ref p] ∧ H r = some (.lst us) ∧ AllV (RowV H) us ss ∧ H p = some (.lst (xs.map V.int)) ∧ (∀ s ∈ ss, s.ok xs.length) ∧ xs.length ≤ 4 ∧
  ∀ H' p', Same H H' → H' p' = some (.lst ((playF ss xs).map V.int)) → Q (.ref p') H'
theorem G_played (T : Top K mg) : FnOk P w K mg base CX0 3 T.f_played T.fd_played ["rows", "numbers"] (sp_played K) := by
  refine T.F_played.ok sc_played (fun vs H Q E h => by obtain ⟨r, p, us, ss, xs, rfl, _⟩ := h; rfl) (fun cdv A outer s H vs Q E hr h => ?_)
  obtain ⟨r, p, us, ss, xs, rfl, hr0, hv, hp, hO, hx, q⟩ := h
  refine ⟨_, PSs.nox (pss_cons (ps_set (i := 2) sc_played.nd rfl (by first | exact Or.inl rfl | exact Or.inr rfl) (pv 1))
  (pss_cons (ps_for PassesOwn.never rfl (k_piL K rfl (pv 0)) (pg_name (i := 3) sc_played.nd rfl (by first | exact Or.inl rfl | exact Or.inr rfl))
    (pss_one (ps_set (i := 2) sc_played.nd rfl (by first | exact Or.inl rfl | exact Or.inr rfl) (pe_call (G_stepped T) (hr.mono (by decide)) (by rfl) T.g_stepped T.F_stepped.kp T.b0_stepped T.v0_stepped pass0 (pa_cons (pv 3) (pa_cons (pv 2) pa_nil))))))
  (pss_one (ps_ret (pv 2))))), ?_⟩
  walk_at "go"
  refine ⟨⟨_, .inl (.inl hr0)⟩, for_list (K := K) (a := r) (xs := us) (fun i σ H1 => ∃ (v3 : Option V) (p' : Addr), σ = [some (.ref r), some (.ref p), some (.ref p'), v3] ∧ Same H H1 ∧ H1 p' = some (.lst ((playF (ss.take i) xs).map V.int))) ⟨none, p, rfl, Same.refl _, hp⟩ (fun i σ H1 _ ⟨_, _, _, s, _⟩ => .inl (.inl (s _ _ hr0))) ?_ ?_⟩
  · rintro i v σ H1 hi ⟨v3, p', rfl, s1, h1⟩
    obtain ⟨s, hs, hvs⟩ := hv.get hi
    have pl := play_len (ss.take i) xs
    walk_at "go"
    refine ⟨v, p', 1, s, playF (ss.take i) xs, rfl, hvs.same s1, h1, by rw [pl]; exact hO s (List.mem_of_getElem? hs), by omega, by decide, by decide, fun H2 p2 s2 np2 h2 => ?_⟩
    rw [← play_take hs] at h2
    exact ⟨_, _, rfl, s1.trans s2, h2⟩
  · rintro σ H1 ⟨v3, p', rfl, s1, h1⟩
    rw [hv.len, List.take_length] at h1
    exact ⟨_, rfl, q _ p' s1 h1⟩
def sp_mixed (C : Addr) : Sp := fun vs H Q _ => ∃ (a r p : Addr) (n : Nat) (ss : List Step) (xs : List Int), vs = [.ref a, .ref p] ∧ MixAt C H a r n ss ∧ n ≤ 4 ∧ H p = some (.lst (xs.map V.int)) ∧ xs.length = n ∧ (∀ s ∈ ss, s.ok n) ∧
  ∀ H' p', Same H H' → H p' = none → H' p' = some (.lst ((playF ss xs).map V.int)) → Q (.ref p') H'
theorem G_mixed (T : Top K mg) : FnOk P w K mg base CX0 4 T.f_mixed T.fd_mixed ["mixer", "samples"] (sp_mixed T.C_Mixer) := by
  refine T.F_mixed.ok sc_mixed (fun vs H Q E h => by obtain ⟨a, r, p, n, ss, xs, rfl, _⟩ := h; rfl) (fun cdv A outer s H vs Q E hr h => ?_)
  obtain ⟨a, r, p, n, ss, xs, rfl, hM, hn, hp, hx, hO, q⟩ := h
  refine ⟨_, PSs.nox (pss_cons (ps_expr (pe_call (G_check_mixer T) (hr.mono (by decide)) (by rfl) T.g_check_mixer T.F_check_mixer.kp T.b_check_mixer .nil pass0 (pa_cons (pv 0) pa_nil)))
  (pss_cons (ps_expr (pe_call (G_check_moment T) (hr.mono (by decide)) (by rfl) T.g_check_moment T.F_check_moment.kp T.b_check_moment .nil pass0 (pa_cons (pv 0) (pa_cons (pv 1) pa_nil))))
  (pss_one (ps_ret (pe_callTy (k_listOf K rfl) (by rfl) T.n_list (by decide +kernel) (pa_cons (pe_call (G_played T) (hr.mono (by decide)) (by rfl) T.g_played T.F_played.kp T.b_played .nil pass0 (pa_cons (pe_fld (pv 0) rfl) (pa_cons (pv 1) pa_nil))) pa_nil)))))), ?_⟩
  refine ⟨_, rfl, a, r, n, ss, rfl, hM, ?_⟩
  refine ⟨_, rfl, _, rfl, a, r, p, n, ss, xs, rfl, hM, hn, hp, hx, fun H1 s1 => ?_⟩
  have hp1 := s1 _ _ hp
  obtain ⟨dx, us, ha, hr0, hv⟩ := hM.same s1
  walk_at "go"
  refine ⟨a, T.C_Mixer, dx, _, _, rfl, ha, T.cl_Mixer, T.na_Mixer_rows, rfl, ?_⟩
  walk_at "go"
  refine ⟨r, p, us, ss, xs, rfl, hr0, hv, hp1, by rw [hx]; exact hO, by omega, fun H2 p2 s2 h2 => ?_⟩
  refine ⟨p2, _, rfl, .inl (.inl (.inl h2)), fun p3 np3 => ?_⟩
  exact q _ p3 (s1.trans (s2.trans (same_upd np3))) (s1.free (s2.free np3)) upd_same
def sp_unmixed (C : Addr) (K : PySem.W.Frag) : Sp := fun vs H Q _ => ∃ (a r p : Addr) (n : Nat) (ss : List Step) (xs : List Int), vs = [.ref a, .ref p] ∧ MixAt C H a r n ss ∧ n ≤ 4 ∧ H p = some (.lst (xs.map V.int)) ∧ xs.length = n ∧ (∀ s ∈ ss, s.ok n) ∧ ss.length ≤ 100 ∧
  ∀ H' p', Same H H' → H p' = none → H' p' = some (.lst ((backF ss xs).map V.int)) → Q (.ref p') H'
theorem G_unmixed (T : Top K mg) : FnOk P w K mg base CX0 4 T.f_unmixed T.fd_unmixed ["mixer", "samples"] (sp_unmixed T.C_Mixer K) := by
  refine T.F_unmixed.ok sc_unmixed (fun vs H Q E h => by obtain ⟨a, r, p, n, ss, xs, rfl, _⟩ := h; rfl) (fun cdv A outer s H vs Q E hr h => ?_)
  obtain ⟨a, r, p, n, ss, xs, rfl, hM, hn, hp, hx, hO, hl, q⟩ := h
  refine ⟨_, PSs.nox (pss_cons (ps_expr (pe_call (G_check_mixer T) (hr.mono (by decide)) (by rfl) T.g_check_mixer T.F_check_mixer.kp T.b_check_mixer .nil pass0 (pa_cons (pv 0) pa_nil)))
  (pss_cons (ps_expr (pe_call (G_check_moment T) (hr.mono (by decide)) (by rfl) T.g_check_moment T.F_check_moment.kp T.b_check_moment .nil pass0 (pa_cons (pv 0) (pa_cons (pv 1) pa_nil))))
  (pss_cons (ps_set (i := 2) sc_unmixed.nd rfl (by first | exact Or.inl rfl | exact Or.inr rfl) (pe_callTy (k_listOf K rfl) (by rfl) T.n_list (by decide +kernel) (pa_cons (pv 1) pa_nil)))
  (pss_cons (ps_for PassesOwn.never rfl (k_piL K rfl (pe_revL (pe_fld (pv 0) rfl))) (pg_name (i := 3) sc_unmixed.nd rfl (by first | exact Or.inl rfl | exact Or.inr rfl))
    (pss_one (ps_set (i := 2) sc_unmixed.nd rfl (by first | exact Or.inl rfl | exact Or.inr rfl) (pe_call (G_stepped T) (hr.mono (by decide)) (by rfl) T.g_stepped T.F_stepped.kp T.b_stepped .nil pass0 (pa_cons (pv 3) (pa_cons (pv 2) (pa_cons (pe_un un_neg pe_int) pa_nil)))))))
  (pss_one (ps_ret (pv 2))))))), ?_⟩
  refine ⟨_, rfl, a, r, n, ss, rfl, hM, ?_⟩
  refine ⟨_, rfl, _, rfl, a, r, p, n, ss, xs, rfl, hM, hn, hp, hx, fun H1 s1 => ?_⟩
  have hp1 := s1 _ _ hp
  obtain ⟨dx, us, ha, hr0, hv⟩ := hM.same s1
  walk_at "go"
  refine ⟨p, _, rfl, .inl (.inl (.inl hp1)), fun p2 np2 => ?_⟩
  obtain ⟨H2, e2, s2, h2⟩ := fresh (.lst (xs.map V.int)) np2
  rw [e2]
  walk_at "go"
  refine ⟨a, T.C_Mixer, dx, _, _, rfl, s2 _ _ ha, T.cl_Mixer, T.na_Mixer_rows, rfl, ?_⟩
  refine ⟨r, us, rfl, .inl (.inl (s2 _ _ hr0)), fun p3 np3 => ?_⟩
  obtain ⟨H3, e3, s3, h3⟩ := fresh (.lst us.reverse) np3
  rw [e3]
  have s03 := s1.trans (s2.trans s3)
  have hv3 : AllV (RowV H3) us.reverse ss.reverse := (hv.imp fun v s => RowV.same (s2.trans s3)).rev
  have np2H := s1.free np2
  refine ⟨p3, rfl, ⟨_, .inl (.inl h3)⟩, for_list (K := K) (a := p3) (xs := us.reverse) (fun i σ H4 => ∃ (v3 : Option V) (p' : Addr), σ = [some (.ref a), some (.ref p), some (.ref p'), v3] ∧ Same H3 H4 ∧ H p' = none ∧ H4 p' = some (.lst (((ss.reverse.take i).foldl (fun x s => stepF (-1) s x) xs).map V.int))) ⟨_, p2, rfl, Same.refl _, np2H, s3 _ _ h2⟩ (fun i σ H1 _ ⟨_, _, _, s, _⟩ => .inl (.inl (s _ _ h3))) ?_ ?_⟩
  · rintro i v σ H4 hi ⟨v3, p', rfl, s4, n4, h4⟩
    obtain ⟨s, hs, hvs⟩ := hv3.get hi
    have pl := fold_len (-1) (ss.reverse.take i) xs
    walk_at "go"
    refine ⟨v, p', -1, s, _, rfl, hvs.same s4, h4, by rw [pl, hx]; exact hO s (List.mem_reverse.mp (List.mem_of_getElem? hs)), by omega, by decide, by decide, fun H5 p5 s5 np5 h5 => ?_⟩
    rw [← back_take hs] at h5
    exact ⟨_, p5, rfl, s4.trans s5, (s03.trans s4).free np5, h5⟩
  · rintro σ H4 ⟨v3, p', rfl, s4, n4, h4⟩
    rw [hv3.len, List.take_length] at h4
    exact ⟨_, rfl, q _ p' (s03.trans s4) n4 h4⟩
end
end My

namespace My
/-! ### mixers as matrices: what 2 ^ bits times a row more does -/
def shS : Step → Nat
  | .lift _ _ sh => sh
  | _ => 0
def bitsS (ss : List Step) : Nat := (ss.map shS).sum
def colM (M : List (List Int)) (k : Nat) : List Int := M.map fun l => l.getD k 0
def numS (n : Nat) : Step → List (List Int) → List (List Int)
  | .lift t ws sh, M => (M.map fun l => l.map fun x => x * 2 ^ sh).set t (List.zipWith (fun a b => a + b) ((M.getD t []).map fun x => x * 2 ^ sh) ((List.range n).map fun k => dotP ws (colM M k)))
  | .turn i, M => M.set i ((M.getD i []).map fun x => 0 - x)
  | .swap i j, M => (M.set i (M.getD j [])).set j (M.getD i [])
def unitM (n : Nat) : List (List Int) := (List.range n).map fun i => (List.range n).map fun j => if i = j then 1 else 0
def numF (n : Nat) (ss : List Step) : List (List Int) := ss.foldl (fun M s => numS n s M) (unitM n)
def mulV (M : List (List Int)) (y : List Int) : List Int := M.map fun l => dotP l y
def addM (u : List Int) (c : Int) (v : List Int) : List Int := List.zipWith (fun a b => a + c * b) u v
def linS : Step → List Int → List Int
  | .lift t ws sh, v => (v.map fun x => x * 2 ^ sh).set t (v.getD t 0 * 2 ^ sh + dotP ws v)
  | .turn i, v => v.set i (0 - v.getD i 0)
  | .swap i j, v => (v.set i (v.getD j 0)).set j (v.getD i 0)
def Sq (n : Nat) (M : List (List Int)) : Prop := M.length = n ∧ ∀ l ∈ M, l.length = n
theorem dot_add : ∀ {a b : List Int} (y : List Int), a.length = b.length → dotP (List.zipWith (fun a b => a + b) a b) y = dotP a y + dotP b y
  | [], [], y, _ => by cases y <;> rfl
  | x :: a, z :: b, [], _ => rfl
  | x :: a, z :: b, w :: y, h => by
    show (x + z) * w + dotP (List.zipWith (fun a b => a + b) a b) y = x * w + dotP a y + (z * w + dotP b y)
    rw [dot_add y (by simpa using h), Int.add_mul]
    omega
  | [], _ :: _, _, h => by simp at h
  | _ :: _, [], _, h => by simp at h
theorem dot_mul (c : Int) : ∀ (a y : List Int), dotP (a.map fun x => c * x) y = c * dotP a y
  | [], y => by cases y <;> simp [dotP]
  | x :: a, [] => by simp [dotP]
  | x :: a, w :: y => by
    show c * x * w + dotP (a.map fun x => c * x) y = c * (x * w + dotP a y)
    rw [dot_mul c a y, Int.mul_add, Int.mul_assoc]
theorem dot_mulr (c : Int) (a y : List Int) : dotP (a.map fun x => x * c) y = dotP a y * c := by
  rw [Int.mul_comm, ← dot_mul]
  congr 1
  exact List.map_congr_left fun x _ => Int.mul_comm x c
theorem dot_neg (a y : List Int) : dotP (a.map fun x => 0 - x) y = 0 - dotP a y := by
  have := dot_mul (-1) a y
  rw [show (a.map fun x => 0 - x) = a.map fun x => -1 * x from List.map_congr_left fun x _ => by omega, this]
  omega
/-- sums the other way about -/
theorem dot_cols {n : Nat} : ∀ (ws : List Int) (M : List (List Int)) (y : List Int), (∀ l ∈ M, l.length = n) → y.length = n → dotP ((List.range n).map fun k => dotP ws (colM M k)) y = dotP ws (mulV M y)
  | [], M, y, _, hy => by
    have : ∀ (m : Nat) (y : List Int), dotP ((List.replicate m (0 : Int))) y = 0 := by
      intro m
      induction m with
      | zero => intro y; cases y <;> rfl
      | succ m ih =>
        intro y
        cases y with
        | nil => rfl
        | cons w y =>
          show 0 * w + dotP (List.replicate m 0) y = 0
          rw [ih]
          omega
    have e : ((List.range n).map fun k => dotP [] (colM M k)) = List.replicate n 0 := by
      apply List.ext_getElem
      · simp
      · intro i h1 h2
        simp [dotP]
    rw [e, this]
    cases M <;> rfl
  | w :: ws, [], y, _, hy => by
    have : ∀ (m : Nat) (y : List Int), dotP ((List.replicate m (0 : Int))) y = 0 := by
      intro m
      induction m with
      | zero => intro y; cases y <;> rfl
      | succ m ih =>
        intro y
        cases y with
        | nil => rfl
        | cons w y =>
          show 0 * w + dotP (List.replicate m 0) y = 0
          rw [ih]
          omega
    have e : ((List.range n).map fun k => dotP (w :: ws) (colM [] k)) = List.replicate n 0 := by
      apply List.ext_getElem
      · simp
      · intro i h1 h2
        simp [dotP, colM]
    rw [e, this]
    rfl
  | w :: ws, l :: M, y, hM, hy => by
    have hl : l.length = n := hM l List.mem_cons_self
    have e : ((List.range n).map fun k => dotP (w :: ws) (colM (l :: M) k)) = List.zipWith (fun a b => a + b) (l.map fun x => w * x) ((List.range n).map fun k => dotP ws (colM M k)) := by
      apply List.ext_getElem
      · simp [hl]
      · intro i h1 h2
        have hi : i < n := by simpa using h1
        simp [dotP, colM, List.getElem?_eq_getElem (show i < l.length by omega)]
    rw [e, dot_add y (by simp [hl]), dot_mul, dot_cols ws M y (fun k hk => hM k (List.mem_cons_of_mem _ hk)) hy]
    rfl
theorem mul_getD {M : List (List Int)} {y : List Int} {i : Nat} : (mulV M y).getD i 0 = dotP (M.getD i []) y := by
  unfold mulV
  rw [List.getD_eq_getElem?_getD, List.getElem?_map, List.getD_eq_getElem?_getD]
  cases M[i]? with
  | none => rfl
  | some l => rfl
theorem getD_mem {M : List (List Int)} {i : Nat} (h : i < M.length) : M.getD i [] ∈ M := by
  rw [List.getD_eq_getElem?_getD, List.getElem?_eq_getElem h]
  exact List.getElem_mem h
theorem numS_sq {n : Nat} {s : Step} {M : List (List Int)} (h : Sq n M) (ok : s.ok n) : Sq n (numS n s M) := by
  obtain ⟨h1, h2⟩ := h
  cases s with
  | turn i =>
    have hi : i < n := ok
    refine ⟨by simp [numS, h1], fun l hl => ?_⟩
    rcases List.mem_or_eq_of_mem_set hl with hl | rfl
    · exact h2 l hl
    · rw [List.length_map]
      exact h2 _ (getD_mem (by omega))
  | swap i j =>
    obtain ⟨hi, hj, _⟩ := ok
    refine ⟨by simp [numS, h1], fun l hl => ?_⟩
    rcases List.mem_or_eq_of_mem_set hl with hl | rfl
    · rcases List.mem_or_eq_of_mem_set hl with hl | rfl
      · exact h2 l hl
      · exact h2 _ (getD_mem (by omega))
    · exact h2 _ (getD_mem (by omega))
  | lift t ws sh =>
    obtain ⟨ht, _⟩ := ok
    refine ⟨by simp [numS, h1], fun l hl => ?_⟩
    rcases List.mem_or_eq_of_mem_set hl with hl | rfl
    · obtain ⟨k, hk, rfl⟩ := List.mem_map.mp hl
      rw [List.length_map]
      exact h2 k hk
    · rw [List.length_zipWith, List.length_map, List.length_map, List.length_range, h2 _ (getD_mem (by omega)), Nat.min_self]
theorem mul_num {n : Nat} {s : Step} {M : List (List Int)} {y : List Int} (h : Sq n M) (ok : s.ok n) (hy : y.length = n) : mulV (numS n s M) y = linS s (mulV M y) := by
  obtain ⟨h1, h2⟩ := h
  have hm : ∀ (A : List (List Int)) (i : Nat) (l : List Int), mulV (A.set i l) y = (mulV A y).set i (dotP l y) := fun A i l => by
    unfold mulV
    rw [List.map_set]
  cases s with
  | turn i =>
    show mulV (M.set i ((M.getD i []).map fun x => 0 - x)) y = (mulV M y).set i (0 - (mulV M y).getD i 0)
    rw [hm, dot_neg, mul_getD]
  | swap i j =>
    show mulV ((M.set i (M.getD j [])).set j (M.getD i [])) y = ((mulV M y).set i ((mulV M y).getD j 0)).set j ((mulV M y).getD i 0)
    rw [hm, hm, mul_getD, mul_getD]
  | lift t ws sh =>
    obtain ⟨ht, hw, _⟩ := ok
    have hl : (M.getD t []).length = n := h2 _ (getD_mem (by omega))
    show mulV ((M.map fun l => l.map fun x => x * 2 ^ sh).set t _) y = ((mulV M y).map fun x => x * 2 ^ sh).set t ((mulV M y).getD t 0 * 2 ^ sh + dotP ws (mulV M y))
    rw [hm, dot_add y (by rw [List.length_map, List.length_map, List.length_range, hl]), dot_cols ws M y h2 hy, dot_mulr, mul_getD]
    congr 1
    unfold mulV
    rw [List.map_map, List.map_map]
    exact List.map_congr_left fun l _ => dot_mulr _ l y
theorem addM_len {u v : List Int} {c : Int} (h : u.length = v.length) : (addM u c v).length = u.length := by
  unfold addM
  rw [List.length_zipWith, h, Nat.min_self]
theorem addM_getD {u v : List Int} {c : Int} (h : u.length = v.length) (i : Nat) : (addM u c v).getD i 0 = u.getD i 0 + c * v.getD i 0 := by
  unfold addM
  rw [List.getD_eq_getElem?_getD, List.getElem?_zipWith, List.getD_eq_getElem?_getD, List.getD_eq_getElem?_getD]
  by_cases k : i < u.length
  · rw [List.getElem?_eq_getElem k, List.getElem?_eq_getElem (show i < v.length by omega)]
    rfl
  · rw [List.getElem?_eq_none (by omega), List.getElem?_eq_none (by omega)]
    simp
theorem dot_addM (c : Int) : ∀ (ws u v : List Int), u.length = v.length → dotP ws (addM u c v) = dotP ws u + c * dotP ws v
  | [], u, v, _ => by cases u <;> cases v <;> simp [dotP, addM]
  | w :: ws, [], [], _ => by simp [dotP, addM]
  | w :: ws, x :: u, z :: v, h => by
    show w * (x + c * z) + dotP ws (addM u c v) = w * x + dotP ws u + c * (w * z + dotP ws v)
    rw [dot_addM c ws u v (by simpa using h), Int.mul_add, Int.mul_add, Int.mul_left_comm w c z]
    omega
  | w :: ws, [], _ :: _, h => by simp at h
  | w :: ws, _ :: _, [], h => by simp at h
theorem linS_len (s : Step) (v : List Int) : (linS s v).length = v.length := by
  cases s <;> simp [linS]
theorem step_add {n : Nat} {s : Step} {u v : List Int} (c : Int) (ok : s.ok n) (hu : u.length = n) (hv : v.length = n) : stepF 1 s (addM u (2 ^ shS s * c) v) = addM (stepF 1 s u) c (linS s v) := by
  have huv : u.length = v.length := by omega
  refine ext_getD (by rw [stepF_len, addM_len huv, addM_len (by rw [stepF_len, linS_len, huv]), stepF_len]) fun k hk => ?_
  rw [stepF_len, addM_len huv] at hk
  rw [addM_getD (by rw [stepF_len, linS_len, huv])]
  cases s with
  | turn i =>
    have hi : i < n := ok
    have e1 : (2 : Int) ^ shS (.turn i) * c = c := by show (2 : Int) ^ 0 * c = c; omega
    rw [e1]
    show ((addM u c v).set i (0 - (addM u c v).getD i 0)).getD k 0 = (u.set i (0 - u.getD i 0)).getD k 0 + c * (v.set i (0 - v.getD i 0)).getD k 0
    rw [getD_set (by rw [addM_len huv]; omega), getD_set (by omega), getD_set (by omega), addM_getD huv, addM_getD huv]
    by_cases e : i = k
    · rw [if_pos e, if_pos e, if_pos e, Int.mul_sub]
      omega
    · rw [if_neg e, if_neg e, if_neg e]
  | swap i j =>
    obtain ⟨hi, hj, _⟩ := ok
    have e1 : (2 : Int) ^ shS (.swap i j) * c = c := by show (2 : Int) ^ 0 * c = c; omega
    rw [e1]
    show (((addM u c v).set i ((addM u c v).getD j 0)).set j ((addM u c v).getD i 0)).getD k 0 = ((u.set i (u.getD j 0)).set j (u.getD i 0)).getD k 0 + c * ((v.set i (v.getD j 0)).set j (v.getD i 0)).getD k 0
    rw [getD_set (by rw [List.length_set, addM_len huv]; omega), getD_set (by rw [addM_len huv]; omega), getD_set (by rw [List.length_set]; omega), getD_set (by omega), getD_set (by rw [List.length_set]; omega), getD_set (by omega), addM_getD huv, addM_getD huv, addM_getD huv]
    by_cases e : j = k
    · rw [if_pos e, if_pos e, if_pos e]
    · rw [if_neg e, if_neg e, if_neg e]
      by_cases e' : i = k
      · rw [if_pos e', if_pos e', if_pos e']
      · rw [if_neg e', if_neg e', if_neg e']
  | lift t ws sh =>
    obtain ⟨ht, _⟩ := ok
    show ((addM u (2 ^ sh * c) v).set t ((addM u (2 ^ sh * c) v).getD t 0 + 1 * (dotP ws (addM u (2 ^ sh * c) v) / 2 ^ sh))).getD k 0 = (u.set t (u.getD t 0 + 1 * (dotP ws u / 2 ^ sh))).getD k 0 + c * ((v.map fun x => x * 2 ^ sh).set t (v.getD t 0 * 2 ^ sh + dotP ws v)).getD k 0
    rw [getD_set (by rw [addM_len huv]; omega), getD_set (by omega), getD_set (by rw [List.length_map]; omega), addM_getD huv, addM_getD huv, dot_addM _ _ _ _ huv]
    have hp : (2 : Int) ^ sh ≠ 0 := Int.ne_of_gt (Int.pow_pos (by decide))
    have e2 : (dotP ws u + 2 ^ sh * c * dotP ws v) / 2 ^ sh = dotP ws u / 2 ^ sh + c * dotP ws v := by
      rw [Int.mul_assoc, Int.add_mul_ediv_left _ _ hp]
    rw [e2]
    by_cases e : t = k
    · rw [if_pos e, if_pos e, if_pos e, Int.mul_add c]
      have : c * (v.getD t 0 * 2 ^ sh) = 2 ^ sh * c * v.getD t 0 := by
        rw [Int.mul_comm (v.getD t 0), ← Int.mul_assoc, Int.mul_comm c]
      omega
    · rw [if_neg e, if_neg e, if_neg e]
      have e3 : (v.map fun x => x * 2 ^ sh).getD k 0 = v.getD k 0 * 2 ^ sh := by
        rw [List.getD_eq_getElem?_getD, List.getElem?_map, List.getD_eq_getElem?_getD]
        cases v[k]? with
        | none => simp
        | some x => rfl
      rw [e3, Int.mul_comm (v.getD k 0), ← Int.mul_assoc, Int.mul_comm c]
theorem mulV_len (M : List (List Int)) (y : List Int) : (mulV M y).length = M.length := List.length_map ..
theorem play_addM {n : Nat} (c : Int) {y : List Int} (hy : y.length = n) : ∀ (ss : List Step) (M : List (List Int)) (u : List Int), (∀ s ∈ ss, s.ok n) → Sq n M → u.length = n →
    playF ss (addM u (2 ^ bitsS ss * c) (mulV M y)) = addM (playF ss u) c (mulV (ss.foldl (fun M s => numS n s M) M) y)
  | [], M, u, _, hM, hu => by
    show addM u (2 ^ 0 * c) (mulV M y) = addM u c (mulV M y)
    rw [Int.pow_zero, Int.one_mul]
  | s :: ss, M, u, ok, hM, hu => by
    have e : (2 : Int) ^ bitsS (s :: ss) * c = 2 ^ shS s * (2 ^ bitsS ss * c) := by
      show (2 : Int) ^ (shS s + bitsS ss) * c = _
      rw [Int.pow_add, Int.mul_assoc]
    have o1 := ok s List.mem_cons_self
    show playF ss (stepF 1 s (addM u (2 ^ bitsS (s :: ss) * c) (mulV M y))) = addM (playF ss (stepF 1 s u)) c (mulV (ss.foldl (fun M s => numS n s M) (numS n s M)) y)
    rw [e, step_add _ o1 hu (by rw [mulV_len]; exact hM.1), ← mul_num hM o1 hy]
    exact play_addM c hy ss _ _ (fun s hs => ok s (List.mem_cons_of_mem _ hs)) (numS_sq hM o1) (by rw [stepF_len, hu])
theorem unit_sq (n : Nat) : Sq n (unitM n) := ⟨by simp [unitM], fun l hl => by
  obtain ⟨i, _, rfl⟩ := List.mem_map.mp hl
  simp⟩
theorem dot_unit {i : Nat} : ∀ (n lo : Nat) (y : List Int), y.length = n → dotP ((List.range' lo n).map fun j => if i = j then (1 : Int) else 0) y = if lo ≤ i then y.getD (i - lo) 0 else 0
  | 0, lo, [], _ => by simp [dotP]
  | n + 1, lo, z :: y, h => by
    rw [List.range'_succ, List.map_cons]
    show (if i = lo then (1 : Int) else 0) * z + dotP ((List.range' (lo + 1) n).map fun j => if i = j then (1 : Int) else 0) y = _
    rw [dot_unit n (lo + 1) y (by simpa using h)]
    by_cases c : i = lo
    · rw [if_pos c, if_neg (by omega), if_pos (by omega), c, Nat.sub_self]
      simp
    · rw [if_neg c]
      by_cases d : lo + 1 ≤ i
      · rw [if_pos d, if_pos (by omega)]
        obtain ⟨k, rfl⟩ : ∃ k, i = lo + 1 + k := ⟨i - (lo + 1), by omega⟩
        rw [show lo + 1 + k - lo = k + 1 by omega, show lo + 1 + k - (lo + 1) = k by omega, List.getD_cons_succ]
        omega
      · rw [if_neg d, if_neg (by omega)]
        omega
  | 0, lo, _ :: _, h => by simp at h
  | _ + 1, lo, [], h => by simp at h
theorem mul_unit {n : Nat} {y : List Int} (hy : y.length = n) : mulV (unitM n) y = y := by
  refine ext_getD (by rw [mulV_len, (unit_sq n).1, hy]) fun i hi => ?_
  rw [mulV_len, (unit_sq n).1] at hi
  rw [mul_getD]
  have e : (unitM n).getD i [] = (List.range' 0 n).map fun j => if i = j then (1 : Int) else 0 := by
    unfold unitM
    rw [List.getD_eq_getElem?_getD, List.getElem?_map, List.getElem?_range hi]
    rw [List.range_eq_range']
    rfl
  rw [e, dot_unit n 0 y hy, if_pos (Nat.zero_le _), Nat.sub_zero]
theorem play_add {n : Nat} (c : Int) {ss : List Step} {x y : List Int} (ok : ∀ s ∈ ss, s.ok n) (hx : x.length = n) (hy : y.length = n) : playF ss (addM x (2 ^ bitsS ss * c) y) = addM (playF ss x) c (mulV (numF n ss) y) := by
  have := play_addM c hy ss (unitM n) x ok (unit_sq n) hx
  rw [mul_unit hy] at this
  exact this
/-! #### how great the numbers grow -/
def Bd (c : Nat) (M : List (List Int)) : Prop := ∀ l ∈ M, ∀ x ∈ l, x.natAbs < 2 ^ c
theorem dot_bd {c : Nat} : ∀ (ws xs : List Int), (∀ w ∈ ws, -68719476736 ≤ w ∧ w ≤ 68719476736) → (∀ x ∈ xs, x.natAbs < 2 ^ c) → (dotP ws xs).natAbs ≤ ws.length * (2 ^ 36 * 2 ^ c)
  | [], xs, _, _ => by cases xs <;> exact Nat.zero_le _
  | _ :: _, [], _, _ => Nat.zero_le _
  | w :: ws, x :: xs, h, k => by
    have ih := dot_bd ws xs (fun w hw => h w (List.mem_cons_of_mem _ hw)) (fun x hx => k x (List.mem_cons_of_mem _ hx))
    have hw := h w List.mem_cons_self
    have hx := k x List.mem_cons_self
    have e : (w * x).natAbs ≤ 2 ^ 36 * 2 ^ c := by
      rw [Int.natAbs_mul]
      exact Nat.mul_le_mul (by omega) (by omega)
    have e2 : (dotP (w :: ws) (x :: xs)).natAbs ≤ (w * x).natAbs + (dotP ws xs).natAbs := Int.natAbs_add_le _ _
    rw [List.length_cons, Nat.add_mul, Nat.one_mul]
    omega
theorem numS_bd {n c : Nat} {s : Step} {M : List (List Int)} (hM : Sq n M) (ok : s.ok n) (hn : n ≤ 4) (h : Bd c M) : Bd (c + 39) (numS n s M) := by
  have up : ∀ {x : Int}, x.natAbs < 2 ^ c → x.natAbs < 2 ^ (c + 39) := fun hx => Nat.lt_of_lt_of_le hx (Nat.pow_le_pow_right (by decide) (by omega))
  have pe : 2 ^ (c + 39) = 2 ^ c * 549755813888 := Nat.pow_add 2 c 39
  cases s with
  | turn i =>
    have hi : i < n := ok
    intro l hl x hx
    rcases List.mem_or_eq_of_mem_set hl with hl | rfl
    · exact up (h l hl x hx)
    · obtain ⟨y, hy, rfl⟩ := List.mem_map.mp hx
      have := up (h _ (getD_mem (by rw [hM.1]; exact hi)) y hy)
      omega
  | swap i j =>
    obtain ⟨hi, hj, _⟩ := ok
    intro l hl x hx
    rcases List.mem_or_eq_of_mem_set hl with hl | rfl
    · rcases List.mem_or_eq_of_mem_set hl with hl | rfl
      · exact up (h l hl x hx)
      · exact up (h _ (getD_mem (by rw [hM.1]; exact hj)) x hx)
    · exact up (h _ (getD_mem (by rw [hM.1]; exact hi)) x hx)
  | lift t ws sh =>
    obtain ⟨ht, hw, _, hs, hws⟩ := ok
    have psh : 2 ^ sh ≤ 2 ^ 15 := Nat.pow_le_pow_right (by decide) hs
    have grow : ∀ {y : Int}, y.natAbs < 2 ^ c → (y * 2 ^ sh).natAbs ≤ 2 ^ c * 2 ^ 15 := fun {y} hy => by
      rw [Int.natAbs_mul, Int.natAbs_pow]
      exact Nat.mul_le_mul (by omega) psh
    have p0 : 0 < 2 ^ c := Nat.two_pow_pos c
    intro l hl x hx
    rcases List.mem_or_eq_of_mem_set hl with hl | rfl
    · obtain ⟨k, hk, rfl⟩ := List.mem_map.mp hl
      obtain ⟨y, hy, rfl⟩ := List.mem_map.mp hx
      have := grow (h k hk y hy)
      omega
    · obtain ⟨i, hi, rfl⟩ := List.mem_iff_getElem.mp hx
      rw [List.getElem_zipWith, List.getElem_map, List.getElem_map]
      have hi1 : i < (M.getD t []).length := by
        rw [List.length_zipWith, List.length_map] at hi
        omega
      have h1 := grow (h _ (getD_mem (by rw [hM.1]; exact ht)) _ (List.getElem_mem hi1))
      generalize hk : (List.range n)[i]'_ = k
      have hk' : k < n := by
        rw [← hk]
        exact List.mem_range.mp (List.getElem_mem _)
      have h2 := dot_bd (c := c) ws (colM M k) hws (fun x hx => by
        obtain ⟨l, hl, rfl⟩ := List.mem_map.mp hx
        have hlk : k < l.length := by rw [hM.2 l hl]; exact hk'
        rw [List.getD_eq_getElem?_getD, List.getElem?_eq_getElem hlk]
        exact h l hl _ (List.getElem_mem hlk))
      have h3 : ws.length * (2 ^ 36 * 2 ^ c) ≤ 4 * (2 ^ 36 * 2 ^ c) := Nat.mul_le_mul_right _ (by omega)
      have := Int.natAbs_add_le ((M.getD t [])[i] * 2 ^ sh) (dotP ws (colM M k))
      omega
theorem unit_bd (n : Nat) : Bd 1 (unitM n) := fun l hl x hx => by
  obtain ⟨i, _, rfl⟩ := List.mem_map.mp hl
  obtain ⟨j, _, rfl⟩ := List.mem_map.mp hx
  split <;> decide
theorem num_bd {n : Nat} (hn : n ≤ 4) : ∀ {ss : List Step} {M : List (List Int)} {c : Nat}, (∀ s ∈ ss, s.ok n) → Sq n M → Bd c M → Bd (c + 39 * ss.length) (ss.foldl (fun M s => numS n s M) M)
  | [], M, c, _, _, h => h
  | s :: ss, M, c, ok, hM, h => by
    have := num_bd hn (ss := ss) (fun t ht => ok t (List.mem_cons_of_mem _ ht)) (numS_sq hM (ok s List.mem_cons_self)) (numS_bd hM (ok s List.mem_cons_self) hn h)
    rw [show c + 39 + 39 * ss.length = c + 39 * (s :: ss).length by rw [List.length_cons]; omega] at this
    exact this
theorem num_sq {n : Nat} : ∀ {ss : List Step} {M : List (List Int)}, (∀ s ∈ ss, s.ok n) → Sq n M → Sq n (ss.foldl (fun M s => numS n s M) M)
  | [], M, _, h => h
  | s :: ss, M, ok, h => num_sq (ss := ss) (fun t ht => ok t (List.mem_cons_of_mem _ ht)) (numS_sq h (ok s List.mem_cons_self))
end My

namespace My
open PySem PySem.Spec PyProof.Rows L2 Pre
theorem dot_range : ∀ ws xs : List Int, ws.length = xs.length → ((List.range xs.length).map fun i => ws.getD i 0 * xs.getD i 0).sum = dotP ws xs
  | [], [], _ => rfl
  | [], _ :: _, h => by simp at h
  | _ :: _, [], h => by simp at h
  | w :: ws, x :: xs, h => by
    rw [List.length_cons, List.range_succ_eq_map, List.map_cons, List.sum_cons, List.map_map]
    show w * x + _ = w * x + dotP ws xs
    rw [← dot_range ws xs (by simpa using h)]
    rfl
local macro_rules | `(tactic| walk_at "go") => `(tactic| repeat (first | (with_reducible first | refine iteT ?_ | refine iteF ?_ | refine iteNtt ?_ | refine iteNff ?_ | refine iteET (by omega) ?_ | refine iteEF (by omega) ?_ | refine iteENT (by omega) ?_ | refine iteENF (by omega) ?_ | refine iteDT (by omega) ?_ | refine iteDF (by omega) ?_ | refine iteNT (by omega) ?_ | refine iteNF (by omega) ?_) | refine ⟨_, rfl, ?_⟩ | refine ⟨_, _, rfl, rfl, ?_⟩ | refine ⟨_, _, rfl, ?_⟩ | refine ⟨rfl, ?_⟩ | refine .inl ⟨_, rfl, ?_⟩ | refine .inr ⟨_, rfl, ?_⟩))
local macro_rules | `(tactic| walk_at "b") => `(tactic| try dsimp (config := { proj := false, iota := false, eta := false, zeta := false }) only)
section
variable {P : Program} {w : World} {K : PySem.W.Frag} {mg : Str → Option Value} {base : Heap}
def sp_law_whole : Sp := fun vs H Q _ => ∃ i : Int, vs = [.int i] ∧ Q (.bl true) H
/-- value a whole number, low one, high None or one -/
def sp_law_numbers_right : Sp := fun vs H Q _ => ∃ (a : Addr) (ns : List Int) (n : Nat), vs = [.ref a, .int n] ∧ H a = some (.lst (ns.map V.int)) ∧ ns.length = n ∧ n ≤ 4 ∧ ∀ H', Same H H' → Q (.bl true) H'
def sp_law_stepped : Sp := fun vs H Q _ => ∃ (N : Addr → Prop) (v : V) (p : Addr) (way : Int) (s : Step) (xs : List Int), vs = [v, .ref p, .int way] ∧ StepV N H v s ∧ H p = some (.lst (xs.map V.int)) ∧ s.ok xs.length ∧ xs.length ≤ 4 ∧ -1 ≤ way ∧ way ≤ 1 ∧
  ∀ H' p', Same H H' → H p' = none → H' p' = some (.lst ((stepF way s xs).map V.int)) → Q (.ref p') H'
theorem G_law_stepped (T : Top K mg) : FnOk P w K mg base CX0 1 T.f_law_stepped T.fd_law_stepped ["_law_step", "_law_row", "_law_way"] sp_law_stepped := by
  refine T.F_law_stepped.ok sc_law_stepped (fun vs H Q E h => by obtain ⟨N, v, p, way, s, xs, rfl, _⟩ := h; rfl) (fun cdv A outer s H vs Q E hr h => ?_)
  obtain ⟨N, v, p, way, s, xs, rfl, hV, hp, hO, hx, hw1, hw2, q⟩ := h
  refine ⟨_, PSs.nox (pss_cons (ps_set (i := 3) sc_law_stepped.nd rfl (by first | exact Or.inl rfl | exact Or.inr rfl) (pe_callTy (k_listOf K rfl) (by rfl) T.n_list (by decide +kernel) (pa_cons (pv 1) pa_nil)))
  (pss_cons (ps_if (pt_cmpR op_eq (pe_ix (k_ixT K rfl) (pv 0) pe_int (fun _ _ => rfl)) pe_str (nomark _))
    (pss_cons (ps_set (i := 4) sc_law_stepped.nd rfl (by first | exact Or.inl rfl | exact Or.inr rfl) (pe_callB (k_sum K rfl rfl) (by rfl) T.n_sum (by decide +kernel) (pa_cons (pe_lc (own := [("_law_at", 5)]) (g := gName 5) (tt := tYes) (by rfl) sc_law_stepped.nd (pi_range1 (by rfl) T.n_range (pa_cons (pe_callB (k_len K rfl) (by rfl) T.n_len (by decide +kernel) (pa_cons (pv 1) pa_nil)) pa_nil)) (blkOk_by (own := [("_law_at", 5)]) (N := N_law_stepped) (sc := defScope s_law_stepped) (by decide +kernel)) (fun _ _ _ _ _ => (pg_name (i := 5) sc_law_stepped.nd rfl (by first | exact Or.inl rfl | exact Or.inr rfl))) (fun _ _ _ _ _ => pts_nil) (fun _ _ _ _ _ => (pe_op op_mul (pe_ix (k_ixL K rfl) (pe_ix (k_ixT K rfl) (pv 0) pe_int (fun _ _ => rfl)) (pv 5) (fun _ _ => rfl)) (pe_ix (k_ixL K rfl) (pv 1) (pv 5) (fun _ _ => rfl))))) pa_nil)))
  (pss_one (ps_asg (pe_op op_add (pe_ix (k_ixL K rfl) (pv 3) (pe_ix (k_ixT K rfl) (pv 0) pe_int (fun _ _ => rfl)) (fun _ _ => rfl)) (pe_op op_mul (pv 2) (pe_op op_fdivW (pv 4) (pe_op op_shl pe_int (pe_ix (k_ixT K rfl) (pv 0) pe_int (fun _ _ => rfl)))))) (pg_sub (pv 3) (pe_ix (k_ixT K rfl) (pv 0) pe_int (fun _ _ => rfl)) set_list))))
    (pss_one (ps_if (pt_cmpR op_eq (pe_ix (k_ixT K rfl) (pv 0) pe_int (fun _ _ => rfl)) pe_str (nomark _))
    (pss_one (ps_asg (pe_op op_sub pe_int (pe_ix (k_ixL K rfl) (pv 3) (pe_ix (k_ixT K rfl) (pv 0) pe_int (fun _ _ => rfl)) (fun _ _ => rfl))) (pg_sub (pv 3) (pe_ix (k_ixT K rfl) (pv 0) pe_int (fun _ _ => rfl)) set_list)))
    (pss_cons (ps_asg (pe_ix (k_ixL K rfl) (pv 1) (pe_ix (k_ixT K rfl) (pv 0) pe_int (fun _ _ => rfl)) (fun _ _ => rfl)) (pg_sub (pv 3) (pe_ix (k_ixT K rfl) (pv 0) pe_int (fun _ _ => rfl)) set_list))
  (pss_one (ps_asg (pe_ix (k_ixL K rfl) (pv 1) (pe_ix (k_ixT K rfl) (pv 0) pe_int (fun _ _ => rfl)) (fun _ _ => rfl)) (pg_sub (pv 3) (pe_ix (k_ixT K rfl) (pv 0) pe_int (fun _ _ => rfl)) set_list)))))))
  (pss_one (ps_ret (pv 3))))), ?_⟩
  refine ⟨_, rfl, p, _, rfl, .inl (.inl (.inl hp)), fun l nl => ?_⟩
  obtain ⟨H1, e1, s1, h1⟩ := fresh (.lst (xs.map V.int)) nl
  rw [e1]
  have hp1 := s1 _ _ hp
  have pl : p ≠ l := fun z => by rw [z, nl] at hp; cases hp
  have fin : ∀ {H2 : Hp} {ys : List Int}, Same H1 H2 → stepF way s xs = ys → Q (.ref l) (upd H2 l (.lst (ys.map V.int))) := fun s2 e => q _ l (same_over nl (s1.trans s2)) nl (by rw [upd_same, e])
  cases s with
  | turn i =>
    obtain ⟨t, rfl, ht⟩ := hV
    have hi : i < xs.length := hO
    have hT : SqT K H1 t [sT, .int i] := .inl (.inl (s1 _ _ ht))
    walk_at "go"
    refine ⟨t, _, _, _, rfl, rfl, hT, rfl, rfl, _, rfl, iteDF (by decide) ?_⟩
    walk_at "go"
    refine ⟨t, _, _, _, rfl, rfl, hT, rfl, rfl, _, rfl, iteDT rfl ?_⟩
    walk_at "go"
    refine ⟨t, _, _, _, rfl, rfl, hT, rfl, ?_⟩
    refine ⟨l, _, _, _, rfl, rfl, .inl (.inl h1), at_getD hi, ?_⟩
    walk_at "go"
    refine ⟨t, _, _, _, rfl, rfl, hT, rfl, ?_⟩
    refine ⟨l, _, _, i, rfl, rfl, h1, ix_ok (by rw [List.length_map]; exact hi), ?_⟩
    have z := fin (ys := xs.set i (0 - xs.getD i 0)) (Same.refl H1) rfl
    rw [List.map_set] at z
    exact ⟨_, rfl, z⟩
  | swap i j =>
    obtain ⟨t, rfl, ht⟩ := hV
    have hT : SqT K H1 t [sS, .int i, .int j] := .inl (.inl (s1 _ _ ht))
    obtain ⟨hi, hj, hij⟩ := hO
    walk_at "go"
    refine ⟨t, _, _, _, rfl, rfl, hT, rfl, rfl, _, rfl, iteDF (by decide) ?_⟩
    walk_at "go"
    refine ⟨t, _, _, _, rfl, rfl, hT, rfl, rfl, _, rfl, iteDF (by decide) ?_⟩
    walk_at "go"
    refine ⟨t, _, _, _, rfl, rfl, hT, rfl, ?_⟩
    refine ⟨p, _, _, _, rfl, rfl, .inl (.inl hp1), at_getD hj, ?_⟩
    walk_at "go"
    refine ⟨t, _, _, _, rfl, rfl, hT, rfl, ?_⟩
    refine ⟨l, _, _, i, rfl, rfl, h1, ix_ok (by rw [List.length_map]; exact hi), ?_⟩
    have ht2 := s1 _ _ ht
    have tl : t ≠ l := fun z => by rw [z, h1] at ht2; cases ht2
    have hT2 : SqT K (upd H1 l (.lst ((xs.map V.int).set i (.int (xs.getD j 0))))) t [sS, .int i, .int j] := .inl (.inl (by rw [upd_ne tl]; exact ht2))
    have hp2 : upd H1 l (.lst ((xs.map V.int).set i (.int (xs.getD j 0)))) p = some (.lst (xs.map V.int)) := by rw [upd_ne pl]; exact hp1
    walk_at "go"
    refine ⟨t, _, _, _, rfl, rfl, hT2, rfl, ?_⟩
    refine ⟨p, _, _, _, rfl, rfl, .inl (.inl hp2), at_getD hi, ?_⟩
    walk_at "go"
    refine ⟨t, _, _, _, rfl, rfl, hT2, rfl, ?_⟩
    refine ⟨l, _, _, j, rfl, rfl, upd_same, ix_ok (by rw [List.length_set, List.length_map]; exact hj), _, rfl, ?_⟩
    refine q _ l (same_over nl (same_over nl s1)) nl ?_
    rw [upd_same]
    show _ = some (HO.lst (((xs.set i (xs.getD j 0)).set j (xs.getD i 0)).map V.int))
    rw [List.map_set, List.map_set]
  | lift b ws sh =>
    obtain ⟨t, lw, rfl, ht, hlw, _⟩ := hV
    have hT : SqT K H1 t [sL, .int b, .ref lw, .int sh] := .inl (.inl (s1 _ _ ht))
    have hlw1 := s1 _ _ hlw
    obtain ⟨hb, hwl, hw0, hs15, hws⟩ := hO
    walk_at "go"
    refine ⟨t, _, _, _, rfl, rfl, hT, rfl, rfl, _, rfl, iteDT rfl ?_⟩
    walk_at "go"
    refine ⟨p, _, rfl, .inl (.inl (.inl hp1)), ?_⟩
    rw [List.length_map]
    walk_at "go"
    refine ⟨by omega, by omega, fun D nD => ?_⟩
    rw [Int.toNat_natCast]
    refine lc_mapR (lo := 0) (n := xs.length) (((List.range xs.length).map fun i => ws.getD i 0 * xs.getD i 0).map V.int) nD (by rw [List.length_map, List.length_map, List.length_range]) (small1000 (by omega)) (fun x => rfl) ?_ ?_
    · intro k y H' hk hy s Qt qt
      rw [List.getElem?_map, List.getElem?_map, List.getElem?_range hk] at hy
      cases hy
      rw [Int.zero_add]
      walk_at "go"
      refine ⟨t, _, _, _, rfl, rfl, Same.tup s hT, rfl, ?_⟩
      walk_at "go"
      refine ⟨lw, _, _, _, rfl, rfl, .inl (.inl (s _ _ hlw1)), at_getD (by omega), ?_⟩
      walk_at "go"
      refine ⟨p, _, _, _, rfl, rfl, .inl (.inl (s _ _ hp1)), at_getD hk, ?_⟩
      have hb2 := hws (ws.getD k 0) (by
        rw [List.getD_eq_getElem?_getD, List.getElem?_eq_getElem (show k < ws.length by omega)]
        exact List.getElem_mem _)
      refine ⟨_, _, rfl, rfl, .inl ⟨by omega, by omega⟩, ?_⟩
      exact qt _ (Same.refl _)
    intro H2 s2 hD
    refine ⟨D, _, rfl, .inl (.inl hD), ?_⟩
    rw [dot_range ws xs hwl]
    have hT2 := Same.tup s2 hT
    have h12 := s2 _ _ h1
    walk_at "go"
    refine ⟨t, _, _, _, rfl, rfl, hT2, rfl, ?_⟩
    refine ⟨l, _, _, _, rfl, rfl, .inl (.inl h12), at_getD hb, ?_⟩
    walk_at "go"
    refine ⟨t, _, _, _, rfl, rfl, hT2, rfl, ?_⟩
    refine ⟨_, _, rfl, rfl, ⟨by omega, by omega, by decide⟩, ?_⟩
    walk_at "b"
    have e2 : (1 : Int) * 2 ^ ((sh : Int)).toNat = ((2 ^ sh : Nat) : Int) := by rw [Int.one_mul, Int.toNat_natCast, Int.natCast_pow]; rfl
    have h15 : 2 ^ sh ≤ 2 ^ 15 := Nat.pow_le_pow_right (by decide) hs15
    have h0 : (0 : Int) < ((2 ^ sh : Nat) : Int) := Int.natCast_pos.mpr (Nat.two_pow_pos sh)
    rw [e2]
    refine ⟨_, _, rfl, rfl, wide_div (b := 60) h0 (by rw [Int.natAbs_natCast]; omega) (by decide) (by decide), ?_⟩
    refine ⟨_, _, rfl, rfl, .inl ⟨by omega, by omega⟩, _, _, rfl, rfl, ?_⟩
    walk_at "go"
    refine ⟨t, _, _, _, rfl, rfl, hT2, rfl, ?_⟩
    refine ⟨l, _, _, b, rfl, rfl, h12, ix_ok (by rw [List.length_map]; exact hb), ?_⟩
    have z := fin (ys := xs.set b (xs.getD b 0 + way * (dotP ws xs / 2 ^ sh))) s2 rfl
    rw [List.map_set, show (2 : Int) ^ sh = ((2 ^ sh : Nat) : Int) by rw [Int.natCast_pow]; rfl] at z
    exact ⟨_, rfl, z⟩
def sp_law_played (K : PySem.W.Frag) : Sp := fun vs H Q _ => ∃ (N : Addr → Prop) (r p : Addr) (ss : List Step) (xs : List Int), vs = [.ref r, .ref p] ∧ StepsAt N H r ss ∧ H p = some (.lst (xs.map V.int)) ∧ (∀ s ∈ ss, s.ok xs.length) ∧ xs.length ≤ 4 ∧
  ∀ H' p', Same H H' → H p' = none → H' p' = some (.lst ((playF ss xs).map V.int)) → Q (.ref p') H'
theorem G_law_played (T : Top K mg) : FnOk P w K mg base CX0 2 T.f_law_played T.fd_law_played ["_law_steps_here", "_law_row"] (sp_law_played K) := by
  refine T.F_law_played.ok sc_law_played (fun vs H Q E h => by obtain ⟨N, r, p, ss, xs, rfl, _⟩ := h; rfl) (fun cdv A outer s H vs Q E hr h => ?_)
  obtain ⟨N, r, p, ss, xs, rfl, hS, hp, hO, hx, q⟩ := h
  refine ⟨_, PSs.nox (pss_cons (ps_set (i := 2) sc_law_played.nd rfl (by first | exact Or.inl rfl | exact Or.inr rfl) (pe_callTy (k_listOf K rfl) (by rfl) T.n_list (by decide +kernel) (pa_cons (pv 1) pa_nil)))
  (pss_cons (ps_for PassesOwn.never rfl (k_piL K rfl (pv 0)) (pg_name (i := 3) sc_law_played.nd rfl (by first | exact Or.inl rfl | exact Or.inr rfl))
    (pss_one (ps_set (i := 2) sc_law_played.nd rfl (by first | exact Or.inl rfl | exact Or.inr rfl) (pe_call (G_law_stepped T) (hr.mono (by decide)) (by rfl) T.g_law_stepped T.F_law_stepped.kp T.b_law_stepped .nil pass0 (pa_cons (pv 3) (pa_cons (pv 2) (pa_cons pe_int pa_nil)))))))
  (pss_one (ps_ret (pv 2))))), ?_⟩
  obtain ⟨us, hr0, hv⟩ := hS
  refine ⟨_, rfl, p, _, rfl, .inl (.inl (.inl hp)), fun p0 np0 => ?_⟩
  obtain ⟨H1, e1, s1, h1⟩ := fresh (.lst (xs.map V.int)) np0
  rw [e1]
  have hr1 := s1 _ _ hr0
  walk_at "go"
  refine ⟨⟨_, .inl (.inl hr1)⟩, for_list (K := K) (a := r) (xs := us) (fun i σ H2 => ∃ (v3 : Option V) (p' : Addr), σ = [some (.ref r), some (.ref p), some (.ref p'), v3] ∧ Same H1 H2 ∧ H p' = none ∧ H2 p' = some (.lst ((playF (ss.take i) xs).map V.int))) ⟨none, p0, rfl, Same.refl _, np0, h1⟩ (fun i σ H1 _ ⟨_, _, _, s, _⟩ => .inl (.inl (s _ _ hr1))) ?_ ?_⟩
  · rintro i v σ H2 hi ⟨v3, p', rfl, s2, np', h2⟩
    obtain ⟨s, hs, hvs⟩ := hv.get hi
    have pl := play_len (ss.take i) xs
    walk_at "go"
    refine ⟨N, v, p', 1, s, playF (ss.take i) xs, rfl, hvs.same (s1.trans s2), h2, by rw [pl]; exact hO s (List.mem_of_getElem? hs), by omega, by decide, by decide, fun H3 p2 s3 np2 h3 => ?_⟩
    rw [← play_take hs] at h3
    exact ⟨_, _, rfl, s2.trans s3, (s1.trans s2).free np2, h3⟩
  · rintro σ H2 ⟨v3, p', rfl, s2, np', h2⟩
    rw [hv.len, List.take_length] at h2
    exact ⟨_, rfl, q _ p' (s1.trans s2) np' h2⟩
def sp_law_led_back (K : PySem.W.Frag) : Sp := fun vs H Q _ => ∃ (N : Addr → Prop) (r p : Addr) (ss : List Step) (xs : List Int), vs = [.ref r, .ref p] ∧ StepsAt N H r ss ∧ H p = some (.lst (xs.map V.int)) ∧ (∀ s ∈ ss, s.ok xs.length) ∧ xs.length ≤ 4 ∧
  ∀ H' p', Same H H' → H' p' = some (.lst ((backF ss xs).map V.int)) → Q (.ref p') H'
end
end My

namespace My
open PySem PySem.Spec PyProof.Rows L2 Pre
local macro_rules | `(tactic| walk_at "go") => `(tactic| repeat (first | (with_reducible first | refine iteT ?_ | refine iteF ?_ | refine iteNtt ?_ | refine iteNff ?_ | refine iteET (by omega) ?_ | refine iteEF (by omega) ?_ | refine iteENT (by omega) ?_ | refine iteENF (by omega) ?_ | refine iteDT (by omega) ?_ | refine iteDF (by omega) ?_ | refine iteNT (by omega) ?_ | refine iteNF (by omega) ?_) | refine ⟨_, rfl, ?_⟩ | refine ⟨_, _, rfl, rfl, ?_⟩ | refine ⟨_, _, rfl, ?_⟩ | refine ⟨rfl, ?_⟩ | refine .inl ⟨_, rfl, ?_⟩ | refine .inr ⟨_, rfl, ?_⟩))
local macro_rules | `(tactic| walk_at "b") => `(tactic| try dsimp (config := { proj := false, iota := false, eta := false, zeta := false }) only)
section
variable {P : Program} {w : World} {K : PySem.W.Frag} {mg : Str → Option Value} {base : Heap}
def sp_law_number : Sp := fun vs H Q _ => ∃ (g : Addr) (N : Nat), vs = [.ref g] ∧ GenAt H g N ∧ N ≤ 10 ^ 11 ∧ ∀ (n : Int) H', But g H H' → GenAt H' g (N + 1000) → Q (.int n) H'
theorem G_law_number (T : Top K mg) : FnOk P w K mg base CX0 2 T.f_law_number T.fd_law_number ["_law_purse_here"] sp_law_number := by
  refine T.F_law_number.ok sc_law_number (fun vs H Q E h => by obtain ⟨g, N, rfl, _⟩ := h; rfl) (fun cdv A outer s H vs Q E hr h => ?_)
  obtain ⟨g, N, rfl, hG, hN, q⟩ := h
  refine ⟨_, PSs.nox (pss_cons (ps_set (i := 1) sc_law_number.nd rfl (by first | exact Or.inl rfl | exact Or.inr rfl) (pe_ix (k_ixL K rfl) (pe_lst (pa_cons pe_int (pa_cons pe_int (pa_cons pe_int (pa_cons pe_int (pa_cons (pe_op op_powW pe_int pe_int) (pa_cons (pe_op op_powW pe_int pe_int) pa_nil))))))) (pe_call (G_law_draw T) (hr.mono (by decide)) (by rfl) T.g_law_draw T.F_law_draw.kp T.b_law_draw .nil pass0 (pa_cons (pv 0) (pa_cons pe_int pa_nil))) (fun _ _ => rfl)))
  (pss_cons (ps_if (pt_cmpR op_lt (pv 1) (pe_op op_powW pe_int pe_int) (nomark _))
    (pss_one (ps_ret (pe_op op_sub (pe_call (G_law_draw T) (hr.mono (by decide)) (by rfl) T.g_law_draw T.F_law_draw.kp T.b_law_draw .nil pass0 (pa_cons (pv 0) (pa_cons (pe_op op_add (pe_op op_mul pe_int (pv 1)) pe_int) pa_nil))) (pv 1))))
    pss_nil)
  (pss_cons (ps_set (i := 2) sc_law_number.nd rfl (by first | exact Or.inl rfl | exact Or.inr rfl) pe_int)
  (pss_cons (ps_for PassesOwn.never rfl (pi_range1 (by rfl) T.n_range (pa_cons pe_int pa_nil)) (pg_name (i := 3) sc_law_number.nd rfl (by first | exact Or.inl rfl | exact Or.inr rfl))
    (pss_one (ps_set (i := 2) sc_law_number.nd rfl (by first | exact Or.inl rfl | exact Or.inr rfl) (pe_op op_add (pe_op op_mul (pv 2) (pe_op op_powW pe_int pe_int)) (pe_call (G_law_draw T) (hr.mono (by decide)) (by rfl) T.g_law_draw T.F_law_draw.kp T.b_law_draw .nil pass0 (pa_cons (pv 0) (pa_cons (pe_op op_powW pe_int pe_int) pa_nil)))))))
  (pss_one (ps_ret (pe_op op_sub (pe_op op_mod (pv 2) (pe_op op_add (pe_op op_mul pe_int (pv 1)) pe_int)) (pv 1)))))))), ?_⟩
  have e9 : (10 : Int) ^ ((9 : Int)).toNat = 1000000000 := by decide
  have e29 : (10 : Int) ^ ((29 : Int)).toNat = 100000000000000000000000000000 := by decide
  have e6 : (10 : Int) ^ ((6 : Int)).toNat = 1000000 := by decide
  walk_at "go"
  refine ⟨⟨by decide, by decide⟩, ?_⟩
  walk_at "go"
  refine ⟨⟨by decide, by decide +kernel⟩, ?_⟩
  walk_at "b"
  rw [e9, e29]
  refine ⟨(show 6 ≤ sizeLine by decide), fun F nF => ?_⟩
  obtain ⟨H1, e1, s1, h1⟩ := fresh (.lst [V.int 4, V.int 4, V.int 20, V.int 1000, V.int 1000000000, V.int 100000000000000000000000000000]) nF
  rw [e1]
  have Fg : F ≠ g := hG.ne nF
  walk_at "go"
  refine ⟨g, _, _, rfl, hG.same s1, by omega, by decide, small_2900 (by decide), fun r1 H2 r10 r11 g2 b2 => ?_⟩
  have h2 := b2 _ _ Fg h1
  obtain ⟨br, hb1, hb2, hbr⟩ : ∃ br : Int, 4 ≤ br ∧ br ≤ 100000000000000000000000000000 ∧ atI [V.int 4, V.int 4, V.int 20, V.int 1000, V.int 1000000000, V.int 100000000000000000000000000000] r1 = some (.int br) := by
    obtain ⟨i, rfl⟩ : ∃ i : Nat, r1 = (i : Int) := ⟨r1.toNat, by omega⟩
    match i, r11 with
    | 0, _ => exact ⟨4, by decide, by decide, atI_nat rfl⟩
    | 1, _ => exact ⟨4, by decide, by decide, atI_nat rfl⟩
    | 2, _ => exact ⟨20, by decide, by decide, atI_nat rfl⟩
    | 3, _ => exact ⟨1000, by decide, by decide, atI_nat rfl⟩
    | 4, _ => exact ⟨1000000000, by decide, by decide, atI_nat rfl⟩
    | 5, _ => exact ⟨100000000000000000000000000000, by decide, by decide, atI_nat rfl⟩
    | i + 6, h => omega
  refine ⟨F, _, _, _, rfl, rfl, .inl (.inl h2), hbr, ?_⟩
  have b02 : But g H H2 := (But.of s1).trans b2
  walk_at "go"
  refine ⟨⟨by decide, by decide⟩, ?_⟩
  walk_at "b"
  rw [e6]
  refine ⟨_, _, rfl, rfl, _, rfl, ite2 (fun e => ?_) (fun e => ?_)⟩
  · have e1 : br < 1000000 := of_decide_eq_true e
    walk_at "go"
    refine ⟨.inl ⟨by decide, by decide⟩, ?_⟩
    walk_at "go"
    refine ⟨g, _, _, rfl, g2, by omega, by omega, small_2900 (by omega), fun r3 H3 r30 r31 g3 b3 => ?_⟩
    walk_at "go"
    exact q _ _ (b02.trans b3) (g3.mono (by omega))
  · walk_at "go"
    refine ⟨by decide, by decide, ?_⟩
    refine for_range (lo := 0) (n := ((5 : Int)).toNat) (fun i σ H3 => ∃ (v3 : Option V) (m : Int), σ = [some (.ref g), some (.int br), some (.int m), v3] ∧ But g H H3 ∧ GenAt H3 g (N + 100 + 100 * i)) ⟨none, 0, rfl, b02, g2⟩ ?_ ?_
    · rintro i σ H3 hi ⟨v3, m, rfl, b3, g3⟩
      have hi5 : i < 5 := hi
      walk_at "go"
      refine ⟨⟨by decide, by decide⟩, ?_⟩
      walk_at "b"
      rw [e6]
      refine ⟨_, _, rfl, rfl, .inr ⟨by decide, by decide⟩, ?_⟩
      walk_at "go"
      refine ⟨⟨by decide, by decide⟩, ?_⟩
      walk_at "b"
      rw [e6]
      walk_at "go"
      refine ⟨g, _, _, rfl, g3, by omega, by decide, small_2900 (by decide), fun r4 H4 r40 r41 g4 b4 => ?_⟩
      refine ⟨_, _, rfl, rfl, ?_⟩
      exact ⟨_, _, rfl, b3.trans b4, g4.mono (by omega)⟩
    · rintro σ H3 ⟨v3, m, rfl, b3, g3⟩
      walk_at "go"
      refine ⟨.inl ⟨by decide, by decide⟩, ?_⟩
      walk_at "go"
      refine ⟨by omega, ?_⟩
      walk_at "go"
      exact q _ _ b3 (g3.mono (by omega))
def sp_law_weight : Sp := fun vs H Q _ => ∃ (g : Addr) (N : Nat), vs = [.ref g] ∧ GenAt H g N ∧ N ≤ 10 ^ 11 ∧ ∀ (n : Int) H', -32768 ≤ n → n ≤ 32768 → But g H H' → GenAt H' g (N + 300) → Q (.int n) H'
theorem G_law_weight (T : Top K mg) : FnOk P w K mg base CX0 2 T.f_law_weight T.fd_law_weight ["_law_purse_here"] sp_law_weight := by
  refine T.F_law_weight.ok sc_law_weight (fun vs H Q E h => by obtain ⟨g, N, rfl, _⟩ := h; rfl) (fun cdv A outer s H vs Q E hr h => ?_)
  obtain ⟨g, N, rfl, hG, hN, q⟩ := h
  refine ⟨_, PSs.nox (pss_cons (ps_set (i := 1) sc_law_weight.nd rfl (by first | exact Or.inl rfl | exact Or.inr rfl) (pe_lst (pa_cons pe_int (pa_cons pe_int (pa_cons (pe_un un_neg pe_int) (pa_cons pe_int (pa_cons pe_int (pa_cons (pe_un un_neg pe_int) (pa_cons pe_int (pa_cons (pe_op op_sub (pe_call (G_law_draw T) (hr.mono (by decide)) (by rfl) T.g_law_draw T.F_law_draw.kp T.b_law_draw .nil pass0 (pa_cons (pv 0) (pa_cons pe_int pa_nil))) pe_int) pa_nil))))))))))
  (pss_one (ps_ret (pe_ix (k_ixL K rfl) (pe_op op_cat (pv 1) (pe_lst (pa_cons (pe_op op_sub (pe_call (G_law_draw T) (hr.mono (by decide)) (by rfl) T.g_law_draw T.F_law_draw.kp T.b_law_draw .nil pass0 (pa_cons (pv 0) (pa_cons pe_int pa_nil))) pe_int) pa_nil))) (pe_call (G_law_draw T) (hr.mono (by decide)) (by rfl) T.g_law_draw T.F_law_draw.kp T.b_law_draw .nil pass0 (pa_cons (pv 0) (pa_cons pe_int pa_nil))) (fun _ _ => rfl))))), ?_⟩
  walk_at "go"
  refine ⟨g, _, _, rfl, hG, by omega, by decide, small_2900 (by decide), fun r1 H1 r10 r11 g1 b1 => ?_⟩
  walk_at "go"
  refine ⟨(show 8 ≤ sizeLine by decide), fun F nF => ?_⟩
  obtain ⟨H2, e2, s2, h2⟩ := fresh (.lst [V.int 0, V.int 1, V.int (-1), V.int 1, V.int 2, V.int (-2), V.int 3, V.int (r1 - 10)]) nF
  rw [show upd H1 F (.lst _) = H2 from e2]
  have Fg : F ≠ g := g1.ne nF
  walk_at "go"
  refine ⟨g, _, _, rfl, g1.same s2, by omega, by decide, small_2900 (by decide), fun r3 H3 r30 r31 g3 b3 => ?_⟩
  have h3 := b3 _ _ Fg h2
  walk_at "go"
  refine ⟨(show 1 ≤ sizeLine by decide), fun L nL => ?_⟩
  obtain ⟨H4, e4, s4, h4⟩ := fresh (.lst [V.int (r3 - 32768)]) nL
  rw [show upd H3 L (.lst _) = H4 from e4]
  refine ⟨F, L, _, _, rfl, rfl, s4 _ _ h3, h4, (show 9 ≤ sizeLine by decide), fun Z nZ => ?_⟩
  obtain ⟨H5, e5, s5, h5⟩ := fresh (.lst [V.int 0, V.int 1, V.int (-1), V.int 1, V.int 2, V.int (-2), V.int 3, V.int (r1 - 10), V.int (r3 - 32768)]) nZ
  rw [show upd H4 Z (.lst ([V.int 0, V.int 1, V.int (-1), V.int 1, V.int 2, V.int (-2), V.int 3, V.int (r1 - 10)] ++ [V.int (r3 - 32768)])) = H5 from e5]
  have g5 := (g3.same s4).same s5
  have Zg : Z ≠ g := (g3.same s4).ne nZ
  walk_at "go"
  refine ⟨g, _, _, rfl, g5, by omega, by decide, small_2900 (by decide), fun r6 H6 r60 r61 g6 b6 => ?_⟩
  have h6 := b6 _ _ Zg h5
  obtain ⟨wt, hw1, hw2, hwt⟩ : ∃ wt : Int, -32768 ≤ wt ∧ wt ≤ 32768 ∧ atI [V.int 0, V.int 1, V.int (-1), V.int 1, V.int 2, V.int (-2), V.int 3, V.int (r1 - 10), V.int (r3 - 32768)] r6 = some (.int wt) := by
    obtain ⟨i, rfl⟩ : ∃ i : Nat, r6 = (i : Int) := ⟨r6.toNat, by omega⟩
    match i, r61 with
    | 0, _ => exact ⟨0, by decide, by decide, atI_nat rfl⟩
    | 1, _ => exact ⟨1, by decide, by decide, atI_nat rfl⟩
    | 2, _ => exact ⟨-1, by decide, by decide, atI_nat rfl⟩
    | 3, _ => exact ⟨1, by decide, by decide, atI_nat rfl⟩
    | 4, _ => exact ⟨2, by decide, by decide, atI_nat rfl⟩
    | 5, _ => exact ⟨-2, by decide, by decide, atI_nat rfl⟩
    | 6, _ => exact ⟨3, by decide, by decide, atI_nat rfl⟩
    | 7, _ => exact ⟨r1 - 10, by omega, by omega, atI_nat rfl⟩
    | 8, _ => exact ⟨r3 - 32768, by omega, by omega, atI_nat rfl⟩
    | i + 9, h => omega
  refine ⟨Z, _, _, _, rfl, rfl, .inl (.inl h6), hwt, ?_⟩
  exact q _ _ hw1 hw2 ((((b1.same s2).trans b3).same (s4.trans s5)).trans b6) (g6.mono (by omega))
def sp_law_lift : Sp := fun vs H Q _ => ∃ (g : Addr) (N n m : Nat), vs = [.ref g, .int n, .int m] ∧ GenAt H g N ∧ N ≤ 10 ^ 10 ∧ 1 ≤ n ∧ n ≤ 4 ∧ m ≤ 3 ∧
  ∀ H' v t ws sh, But g H H' → GenAt H' g (N + 5000) → StepV (fun l => H l = none ∧ l ≠ g) H' v (.lift t ws sh) → Step.okT n (.lift t ws sh) → sh ≤ m → Q v H'
theorem G_law_lift (T : Top K mg) : FnOk P w K mg base CX0 3 T.f_law_lift T.fd_law_lift ["_law_purse_here", "_law_broad", "_law_most"] sp_law_lift := by
  refine T.F_law_lift.ok sc_law_lift (fun vs H Q E h => by obtain ⟨g, N, n, m, rfl, _⟩ := h; rfl) (fun cdv A outer s H vs Q E hr h => ?_)
  obtain ⟨g, N, n, m, rfl, hG, hN, hn1, hn4, hm, q⟩ := h
  refine ⟨_, PSs.nox (pss_cons (ps_par (by rfl) sc_law_lift.nd (i := 4) (j := 5) rfl rfl (by decide) rfl rfl (pa_cons (pe_call (G_law_draw T) (hr.mono (by decide)) (by rfl) T.g_law_draw T.F_law_draw.kp T.b_law_draw .nil pass0 (pa_cons (pv 0) (pa_cons (pv 1) pa_nil))) (pa_cons (pe_call (G_law_draw T) (hr.mono (by decide)) (by rfl) T.g_law_draw T.F_law_draw.kp T.b_law_draw .nil pass0 (pa_cons (pv 0) (pa_cons (pe_op op_add (pv 2) pe_int) pa_nil))) pa_nil)) (by rfl))
  (pss_cons (ps_setLc (i := 3) (own := [("_law_way", 6)]) (g := gName 6) (tt := tYes) (by rfl) sc_law_lift.nd rfl rfl (sw_true rfl rfl rfl (by decide +kernel)) (pi_range1 (by rfl) T.n_range (pa_cons (pv 1) pa_nil)) (blkOk_by (own := [("_law_way", 6)]) (N := N_law_lift) (sc := defScope s_law_lift) (by decide +kernel)) (fun _ _ _ _ _ => (pg_name (i := 6) sc_law_lift.nd rfl (by first | exact Or.inl rfl | exact Or.inr rfl))) (fun _ _ _ _ _ => pts_nil) (fun _ _ _ _ _ => (pe_call (G_law_weight T) (hr.mono (by decide)) (by rfl) T.g_law_weight T.F_law_weight.kp T.b_law_weight .nil pass0 (pa_cons (pv 0) pa_nil))))
  (pss_cons (ps_asg pe_int (pg_sub (pv 3) (pv 4) set_list))
  (pss_one (ps_ret (pe_tup (pa_cons pe_str (pa_cons (pv 4) (pa_cons (pv 3) (pa_cons (pv 5) pa_nil)))))))))), ?_⟩
  walk_at "go"
  refine ⟨g, _, _, rfl, hG, by omega, by omega, small_2900 (by omega), fun r1 H1 r10 r11 g1 b1 => ?_⟩
  walk_at "go"
  refine ⟨g, _, _, rfl, g1, by omega, by omega, small_2900 (by omega), fun r2 H2 r20 r21 g2 b2 => ?_⟩
  obtain ⟨t, rfl⟩ : ∃ t : Nat, r1 = (t : Int) := ⟨r1.toNat, by omega⟩
  obtain ⟨sh, rfl⟩ : ∃ sh : Nat, r2 = (sh : Int) := ⟨r2.toNat, by omega⟩
  have ht : t < n := by omega
  walk_at "go"
  refine ⟨by omega, by omega, fun D nD => ?_⟩
  rw [Int.toNat_natCast]
  have Dg : D ≠ g := g2.ne nD
  have nDH : H D = none := b1.free Dg (b2.free Dg nD)
  refine lc_drawR (lo := 0) (n := n) g _ 300 (fun x => -32768 ≤ x ∧ x ≤ 32768) nD g2 (small1000 (by omega)) (fun x => rfl) ?_ ?_
  · intro i H' hi b' g' Qt qt
    walk_at "go"
    refine ⟨g, _, rfl, g', by have : 300 * i ≤ 300 * 4 := Nat.mul_le_mul_left _ (by omega); omega, fun y H3 y1 y2 b3 g3 => ?_⟩
    exact qt y H3 ⟨y1, y2⟩ b3 (g3.mono (by rw [Nat.mul_succ]; omega))
  · intro H3 ys b3 g3 hD hl hy
    walk_at "go"
    refine ⟨D, _, _, t, rfl, rfl, hD, ix_ok (by rw [List.length_map]; omega), ?_⟩
    obtain ⟨H4, e4⟩ : ∃ H4, upd H3 D (.lst ((ys.map V.int).set t (.int 0))) = H4 := ⟨_, rfl⟩
    rw [e4]
    have h4 : H4 D = some (.lst ((ys.set t 0).map V.int)) := by rw [← e4, upd_same, List.map_set]
    have b34 : ∀ c o, c ≠ D → H3 c = some o → H4 c = some o := fun c o n h => by rw [← e4, upd_ne n]; exact h
    have b04 : But g H H4 := fun c o n h => b34 c o (fun z => by rw [z, nDH] at h; cases h) (b3 c o n (b2 c o n (b1 c o n h)))
    have g4 : GenAt H4 g (N + 100 + 100 + 300 * n) := by
      obtain ⟨x, y, z, a, b⟩ := g3
      exact ⟨x, y, z, b34 _ _ Dg.symm a, b⟩
    walk_at "go"
    refine ⟨(show 4 ≤ sizeLine by decide), fun tp ntp => ?_⟩
    obtain ⟨H5, e5, s5, h5⟩ := fresh (.tup [sL, V.int t, .ref D, .int sh]) ntp
    rw [show upd H4 tp (.tup [V.str (Str.ofString "lift"), V.int t, V.ref D, V.int sh]) = H5 from e5]
    have hty : ∀ x ∈ ys.set t 0, -32768 ≤ x ∧ x ≤ 32768 := fun x hx => by
      rcases List.mem_or_eq_of_mem_set hx with hx | rfl
      · exact hy x hx
      · decide
    refine q _ _ t (ys.set t 0) sh (b04.same s5) ((g4.same s5).mono (by have : 300 * n ≤ 300 * 4 := Nat.mul_le_mul_left _ hn4; omega)) ⟨tp, D, rfl, h5, s5 _ _ h4, nDH, Dg⟩ ⟨⟨ht, by rw [List.length_set, hl], ?_, by omega, fun x hx => by have := hty x hx; omega⟩, hty⟩ (by omega)
    · rw [List.getD_eq_getElem?_getD, List.getElem?_set, if_pos rfl, if_pos (by omega)]
      rfl
/-- what draws let stand: steps whose lists are not the purse -/
theorem AllV.but {N : Addr → Prop} {g : Addr} {H H' : Hp} {vs : List V} {ss : List Step} {n : Nat} (h : AllV (StepV N H) vs ss) (hG : GenAt H g n) (b : But g H H') (f : ∀ l, N l → l ≠ g) : AllV (StepV N H') vs ss :=
  h.imp fun v s => StepV.lk (M := fun b => b = g) (fun c o nc e => b c o nc e) (fun c e => by obtain ⟨x, y, z, a, _⟩ := hG; rw [e]; exact ⟨_, a⟩) (fun l hl e => f l hl e)
theorem steps_but {N : Addr → Prop} {g p : Addr} {H H' : Hp} {ss : List Step} {n : Nat} (h : StepsAt N H p ss) (hG : GenAt H g n) (b : But g H H') (f : ∀ l, N l → l ≠ g) (pg : p ≠ g) : StepsAt N H' p ss := by
  obtain ⟨vs, h1, h2⟩ := h
  exact ⟨vs, b _ _ pg h1, AllV.but h2 hG b f⟩
theorem bits_snoc (ss : List Step) (s : Step) : bitsS (ss ++ [s]) = bitsS ss + shS s := by
  unfold bitsS
  rw [List.map_append, List.sum_append]
  simp
theorem other_mod {k x n : Nat} (hk : k < n) (hx : x + 1 < n) : (k + 1 + x) % n < n ∧ (k + 1 + x) % n ≠ k := by
  refine ⟨Nat.mod_lt _ (by omega), ?_⟩
  by_cases h : k + 1 + x < n
  · rw [Nat.mod_eq_of_lt h]
    omega
  · rw [Nat.mod_eq_sub_mod (by omega), Nat.mod_eq_of_lt (by omega)]
    omega
def sp_law_steps : Sp := fun vs H Q _ => ∃ (g : Addr) (N n m b : Nat), vs = [.ref g, .int n, .int m, .int b] ∧ GenAt H g N ∧ N ≤ 10 ^ 9 ∧ 1 ≤ n ∧ n ≤ 4 ∧ m ≤ 8 ∧ b ≤ 15 ∧
  ∀ H' p ss, But g H H' → GenAt H' g (N + 100000) → H p = none → p ≠ g → StepsAt (fun l => l ≠ g) H' p ss → (∀ s ∈ ss, s.okT n) → ss.length ≤ m → bitsS ss ≤ b → Q (.ref p) H'
theorem G_law_steps (T : Top K mg) : FnOk P w K mg base CX0 4 T.f_law_steps T.fd_law_steps ["_law_purse_here", "_law_broad", "_law_many", "_law_bits_here"] sp_law_steps := by
  refine T.F_law_steps.ok sc_law_steps (fun vs H Q E h => by obtain ⟨g, N, n, m, b, rfl, _⟩ := h; rfl) (fun cdv A outer s H vs Q E hr h => ?_)
  obtain ⟨g, N, n, m, b, rfl, hG, hN, hn1, hn4, hm8, hb15, q⟩ := h
  refine ⟨_, PSs.nox (pss_cons (ps_par (by rfl) sc_law_steps.nd (i := 5) (j := 6) rfl rfl (by decide) rfl rfl (pa_cons (pe_lst pa_nil) (pa_cons (pv 3) pa_nil)) (by rfl))
  (pss_cons (ps_for PassesOwn.never rfl (pi_range1 (by rfl) T.n_range (pa_cons (pe_call (G_law_draw T) (hr.mono (by decide)) (by rfl) T.g_law_draw T.F_law_draw.kp T.b_law_draw .nil pass0 (pa_cons (pv 0) (pa_cons (pe_op op_add (pv 2) pe_int) pa_nil))) pa_nil)) (pg_name (i := 4) sc_law_steps.nd rfl (by first | exact Or.inl rfl | exact Or.inr rfl))
    (pss_cons (ps_par (by rfl) sc_law_steps.nd (i := 7) (j := 8) rfl rfl (by decide) rfl rfl (pa_cons (pe_call (G_law_draw T) (hr.mono (by decide)) (by rfl) T.g_law_draw T.F_law_draw.kp T.b_law_draw .nil pass0 (pa_cons (pv 0) (pa_cons pe_int pa_nil))) (pa_cons (pe_tup (pa_cons pe_str (pa_cons (pe_call (G_law_draw T) (hr.mono (by decide)) (by rfl) T.g_law_draw T.F_law_draw.kp T.b_law_draw .nil pass0 (pa_cons (pv 0) (pa_cons (pv 1) pa_nil))) pa_nil))) pa_nil)) (by rfl))
  (pss_cons (ps_if (PW.pt (pw_and (pt_cmpR op_eq (pv 7) pe_int (nomark _)) (pw_and1 (pt_cmpR op_gt (pv 1) pe_int (nomark _)))))
    (pss_one (ps_set (i := 8) sc_law_steps.nd rfl (by first | exact Or.inl rfl | exact Or.inr rfl) (pe_tup (pa_cons pe_str (pa_cons (pe_ix (k_ixT K rfl) (pv 8) pe_int (fun _ _ => rfl)) (pa_cons (pe_op op_mod (pe_op op_add (pe_op op_add (pe_ix (k_ixT K rfl) (pv 8) pe_int (fun _ _ => rfl)) pe_int) (pe_call (G_law_draw T) (hr.mono (by decide)) (by rfl) T.g_law_draw T.F_law_draw.kp T.b_law_draw .nil pass0 (pa_cons (pv 0) (pa_cons (pe_op op_sub (pv 1) pe_int) pa_nil)))) (pv 1)) pa_nil))))))
    pss_nil)
  (pss_cons (ps_if (pt_cmpR op_gt (pv 7) pe_int (nomark _))
    (pss_cons (ps_set (i := 8) sc_law_steps.nd rfl (by first | exact Or.inl rfl | exact Or.inr rfl) (pe_call (G_law_lift T) (hr.mono (by decide)) (by rfl) T.g_law_lift T.F_law_lift.kp T.b_law_lift .nil pass0 (pa_cons (pv 0) (pa_cons (pv 1) (pa_cons (pe_callB (call_min2 rfl) (by rfl) T.n_min (by decide +kernel) (pa_cons (pv 6) (pa_cons pe_int pa_nil))) pa_nil)))))
  (pss_one (ps_set (i := 6) sc_law_steps.nd rfl (by first | exact Or.inl rfl | exact Or.inr rfl) (pe_op op_sub (pv 6) (pe_ix (k_ixT K rfl) (pv 8) pe_int (fun _ _ => rfl))))))
    pss_nil)
  (pss_one (ps_expr (pe_bm PySem.F.plainAttrs_list PySem.F.slot_list_append PySem.F.type_list_append mt_append (pv 5) (pa_cons (pv 8) pa_nil))))))))
  (pss_one (ps_ret (pv 5))))), ?_⟩
  refine ⟨Nat.zero_le _, fun p np => ?_⟩
  obtain ⟨H1, e1, s1, h1⟩ := fresh (.lst []) np
  rw [e1]
  have pg : p ≠ g := hG.ne np
  walk_at "go"
  refine ⟨g, _, _, rfl, hG.same s1, by omega, by omega, small_2900 (by omega), fun r1 H2 r10 r11 g2 b2 => ?_⟩
  walk_at "go"
  refine ⟨by omega, by omega, ?_⟩
  walk_at "b"
  refine for_range (lo := 0) (n := r1.toNat) (fun i σ H3 => ∃ (v4 v7 v8 : Option V) (left : Nat) (vs : List V) (ss : List Step), σ = [some (.ref g), some (.int n), some (.int m), some (.int b), v4, some (.ref p), some (.int left), v7, v8] ∧ But g H H3 ∧ GenAt H3 g (N + 100 + 6000 * i) ∧ H3 p = some (.lst vs) ∧ AllV (StepV (fun l => l ≠ g ∧ l ≠ p) H3) vs ss ∧ ss.length = i ∧ (∀ s ∈ ss, s.okT n) ∧ left + bitsS ss ≤ b)
    ⟨none, none, none, b, [], [], rfl, (But.of s1).trans b2, g2, b2 _ _ pg h1, trivial, rfl, (fun s h => nomatch h), Nat.le_refl _⟩ ?_ ?_
  · rintro i σ H3 hi ⟨v4, v7, v8, left, vs, ss, rfl, b3, g3, h3, hv, hl, hO, hleft⟩
    have i8 : i < 8 := by omega
    walk_at "go"
    refine ⟨g, _, _, rfl, g3, by omega, by decide, small_2900 (by decide), fun r4 H4 r40 r41 g4 b4 => ?_⟩
    walk_at "go"
    refine ⟨g, _, _, rfl, g4, by omega, by omega, small_2900 (by omega), fun r5 H5 r50 r51 g5 b5 => ?_⟩
    obtain ⟨k, rfl⟩ : ∃ k : Nat, r5 = (k : Int) := ⟨r5.toNat, by omega⟩
    have b35 := b4.trans b5
    walk_at "go"
    refine ⟨(show 2 ≤ sizeLine by decide), fun tp ntp => ?_⟩
    obtain ⟨H6, e6, s6, h6⟩ := fresh (.tup [sT, V.int k]) ntp
    rw [show upd H5 tp (.tup [V.str (Str.ofString "turn"), V.int k]) = H6 from e6]
    have hv6 : ∀ {H7 : Hp}, But g H3 H7 → AllV (StepV (fun l => l ≠ g ∧ l ≠ p) H7) vs ss := fun b => AllV.but hv g3 b fun l z => z.1
    have app1 : ∀ {H7 : Hp}, But g H3 H7 → H7 p = some (.lst vs) := fun b => b _ _ pg h3
    have app2 : ∀ {H7 : Hp} {v : V} {s : Step}, But g H3 H7 → GenAt H7 g (N + 100 + 6000 * (i + 1)) → StepV (fun l => l ≠ g ∧ l ≠ p) H7 v s → s.okT n →
        But g H (upd H7 p (.lst (vs ++ [v]))) ∧ GenAt (upd H7 p (.lst (vs ++ [v]))) g (N + 100 + 6000 * (i + 1)) ∧ upd H7 p (.lst (vs ++ [v])) p = some (.lst (vs ++ [v])) ∧ AllV (StepV (fun l => l ≠ g ∧ l ≠ p) (upd H7 p (.lst (vs ++ [v])))) (vs ++ [v]) (ss ++ [s]) ∧ (ss ++ [s]).length = i + 1 ∧ (∀ s' ∈ ss ++ [s], s'.okT n) := fun {H7 v s} b g7 hvs ho => by
      have k : ∀ c o, ¬ c = p → H7 c = some o → upd H7 p (.lst (vs ++ [v])) c = some o := fun c o nc h => by rw [upd_ne nc]; exact h
      have ka : ∀ c, c = p → ∃ xs, H7 c = some (.lst xs) := fun c e => ⟨vs, by rw [e]; exact app1 b⟩
      refine ⟨fun c o nc h => k c o (fun z => by rw [z, np] at h; cases h) (b c o nc (b3 c o nc h)), ?_, upd_same, ?_, by rw [List.length_append, hl]; rfl, ?_⟩
      · obtain ⟨x, y, z, a, e⟩ := g7
        exact ⟨x, y, z, k _ _ pg.symm a, e⟩
      · exact ((hv6 b).imp fun v s h => StepV.lk (M := fun c => c = p) k ka (fun l z => z.2) h).app ⟨StepV.lk (M := fun c => c = p) k ka (fun l z => z.2) hvs, trivial⟩
      · intro s' hs'
        rcases List.mem_append.mp hs' with h | h
        · exact hO s' h
        · rw [List.mem_singleton.mp h]
          exact ho
    have b36 := b35.same s6
    have g6 := g5.same s6
    have hT6 : SqT K H6 tp [sT, .int k] := .inl (.inl h6)
    by_cases w1 : r4 = 1
    · subst w1
      walk_at "go"
      by_cases n1 : 1 < n
      · walk_at "go"
        refine ⟨tp, _, _, _, rfl, rfl, hT6, rfl, ?_⟩
        walk_at "go"
        refine ⟨tp, _, _, _, rfl, rfl, hT6, rfl, ?_⟩
        walk_at "go"
        refine ⟨g, _, _, rfl, g6, by omega, by omega, small_2900 (by omega), fun r7 H7 r70 r71 g7 b7 => ?_⟩
        obtain ⟨x, rfl⟩ : ∃ x : Nat, r7 = (x : Int) := ⟨r7.toNat, by omega⟩
        walk_at "go"
        refine ⟨by omega, ?_⟩
        walk_at "go"
        have hk : k < n := by omega
        have hx : x + 1 < n := by omega
        obtain ⟨k2, hk2, hk3⟩ : ∃ k2 : Nat, ((k : Int) + 1 + (x : Int)) % (n : Int) = (k2 : Int) ∧ k2 < n ∧ k2 ≠ k := ⟨(k + 1 + x) % n, by rw [Int.natCast_emod, Int.natCast_add, Int.natCast_add]; rfl, other_mod hk hx⟩
        walk_at "go"
        refine ⟨(show 3 ≤ sizeLine by decide), fun tq ntq => ?_⟩
        obtain ⟨H8, e8, s8, h8⟩ := fresh (.tup [sS, V.int k, V.int k2]) ntq
        rw [show upd H7 tq (.tup [V.str (Str.ofString "swap"), V.int k, V.int (((k : Int) + 1 + (x : Int)) % (n : Int))]) = H8 from by rw [hk2]; exact e8]
        have b38 := (b36.trans b7).same s8
        walk_at "go"
        refine ⟨.inl ⟨rfl, _, .inl (.inl (app1 b38))⟩, ?_⟩
        walk_at "go"
        refine ⟨p, _, _, rfl, rfl, app1 b38, by rw [hv.len]; exact small1000 (by omega), ?_⟩
        obtain ⟨c1, c2, c3, c4, c5, c6⟩ := app2 b38 ((g7.same s8).mono (by omega)) (show StepV _ H8 (.ref tq) (.swap k k2) from ⟨tq, rfl, h8⟩) ⟨⟨hk, hk3.1, fun e => hk3.2 e.symm⟩, trivial⟩
        exact ⟨_, _, _, _, _, _, rfl, c1, c2, c3, c4, c5, c6, by rw [bits_snoc]; show left + (bitsS ss + 0) ≤ b; omega⟩
      · walk_at "go"
        refine ⟨.inl ⟨rfl, _, .inl (.inl (app1 b36))⟩, ?_⟩
        walk_at "go"
        refine ⟨p, _, _, rfl, rfl, app1 b36, by rw [hv.len]; exact small1000 (by omega), ?_⟩
        obtain ⟨c1, c2, c3, c4, c5, c6⟩ := app2 b36 (g6.mono (by omega)) (show StepV _ H6 (.ref tp) (.turn k) from ⟨tp, rfl, h6⟩) ⟨(show k < n by omega), trivial⟩
        exact ⟨_, _, _, _, _, _, rfl, c1, c2, c3, c4, c5, c6, by rw [bits_snoc]; show left + (bitsS ss + 0) ≤ b; omega⟩
    · by_cases w2 : 1 < r4
      · walk_at "go"
        refine ⟨g, _, n, min left 3, ?_, g6, by omega, hn1, hn4, by omega, fun H7 v t ws sh b7 g7 hv7 ho7 hs7 => ?_⟩
        · have : (if (3 : Int) < (left : Int) then (3 : Int) else (left : Int)) = ((min left 3 : Nat) : Int) := by split <;> omega
          rw [this]
          rfl
        obtain ⟨tq, D, rfl, h7, hD, nD, Dg⟩ := hv7
        walk_at "go"
        refine ⟨tq, _, _, _, rfl, rfl, .inl (.inl h7), rfl, ?_⟩
        walk_at "go"
        have b37 := b36.trans b7
        obtain ⟨left2, hleft2⟩ : ∃ x : Nat, (left : Int) - (sh : Int) = (x : Int) := ⟨((left : Int) - (sh : Int)).toNat, by omega⟩
        rw [show (fun (i j : Int) => V.int (i - j)) (left : Int) (sh : Int) = V.int (left2 : Int) from congrArg V.int hleft2]
        refine ⟨.inl ⟨rfl, _, .inl (.inl (app1 b37))⟩, ?_⟩
        walk_at "go"
        refine ⟨p, _, _, rfl, rfl, app1 b37, by rw [hv.len]; exact small1000 (by omega), ?_⟩
        obtain ⟨c1, c2, c3, c4, c5, c6⟩ := app2 b37 (g7.mono (by omega)) (show StepV _ H7 (.ref tq) (.lift t ws sh) from ⟨tq, D, rfl, h7, hD, Dg, fun z => by rw [z, app1 b36] at nD; cases nD⟩) ho7
        exact ⟨_, _, _, _, _, _, rfl, c1, c2, c3, c4, c5, c6, by rw [bits_snoc]; show left2 + (bitsS ss + sh) ≤ b; omega⟩
      · walk_at "go"
        refine ⟨.inl ⟨rfl, _, .inl (.inl (app1 b36))⟩, ?_⟩
        walk_at "go"
        refine ⟨p, _, _, rfl, rfl, app1 b36, by rw [hv.len]; exact small1000 (by omega), ?_⟩
        obtain ⟨c1, c2, c3, c4, c5, c6⟩ := app2 b36 (g6.mono (by omega)) (show StepV _ H6 (.ref tp) (.turn k) from ⟨tp, rfl, h6⟩) ⟨(show k < n by omega), trivial⟩
        exact ⟨_, _, _, _, _, _, rfl, c1, c2, c3, c4, c5, c6, by rw [bits_snoc]; show left + (bitsS ss + 0) ≤ b; omega⟩
  · rintro σ H3 ⟨v4, v7, v8, left, vs, ss, rfl, b3, g3, h3, hv, hl, hO, hleft⟩
    walk_at "go"
    have h8 : r1.toNat ≤ 8 := by omega
    exact q _ p ss b3 (g3.mono (by have : 6000 * r1.toNat ≤ 6000 * 8 := Nat.mul_le_mul_left _ h8; omega)) np pg ⟨vs, h3, hv.imp fun v s h => h.mono fun l z => z.1⟩ hO (by omega) (by omega)
end
end My

namespace My
open PySem PySem.Spec PyProof.Rows L2 Pre
local macro_rules | `(tactic| walk_at "go") => `(tactic| repeat (first | (with_reducible first | refine iteT ?_ | refine iteF ?_ | refine iteNtt ?_ | refine iteNff ?_ | refine iteET (by omega) ?_ | refine iteEF (by omega) ?_ | refine iteENT (by omega) ?_ | refine iteENF (by omega) ?_ | refine iteDT (by omega) ?_ | refine iteDF (by omega) ?_ | refine iteNT (by omega) ?_ | refine iteNF (by omega) ?_) | refine ⟨_, rfl, ?_⟩ | refine ⟨_, _, rfl, rfl, ?_⟩ | refine ⟨_, _, rfl, ?_⟩ | refine ⟨rfl, ?_⟩ | refine .inl ⟨_, rfl, ?_⟩ | refine .inr ⟨_, rfl, ?_⟩))
local macro_rules | `(tactic| walk_at "b") => `(tactic| try dsimp (config := { proj := false, iota := false, eta := false, zeta := false }) only)
section
variable {P : Program} {w : World} {K : PySem.W.Frag} {mg : Str → Option Value} {base : Heap}
def sp_law_copied (K : PySem.W.Frag) : Sp := fun vs H Q _ => ∃ (N : Addr → Prop) (p : Addr) (ss : List Step), vs = [.ref p] ∧ StepsAt N H p ss ∧ ss.length ≤ 100 ∧ ∀ H' p', Same H H' → H p' = none → StepsAt (Fl H H') H' p' ss → Q (.ref p') H'
theorem G_law_copied (T : Top K mg) : FnOk P w K mg base CX0 1 T.f_law_copied T.fd_law_copied ["_law_steps_here"] (sp_law_copied K) := by
  refine T.F_law_copied.ok sc_law_copied (fun vs H Q E h => by obtain ⟨N, p, ss, rfl, _⟩ := h; rfl) (fun cdv A outer s H vs Q E hr h => ?_)
  obtain ⟨N, p, ss, rfl, hS, hl, q⟩ := h
  refine ⟨_, PSs.nox (pss_one (ps_ret (pe_lc (own := [("_law_step", 1)]) (g := gName 1) (tt := tYes) (by rfl) sc_law_copied.nd (k_piL K rfl (pv 0)) (blkOk_by (own := [("_law_step", 1)]) (N := N_law_copied) (sc := defScope s_law_copied) (by decide +kernel)) (fun _ _ _ _ _ => (pg_name (i := 1) sc_law_copied.nd rfl (by first | exact Or.inl rfl | exact Or.inr rfl))) (fun _ _ _ _ _ => pts_nil) (fun _ _ _ _ _ => (pe_ifExp (pt_cmpR op_eq (pe_ix (k_ixT K rfl) (pv 1) pe_int (fun _ _ => rfl)) pe_str (nomark _)) (pe_tup (pa_cons (pe_ix (k_ixT K rfl) (pv 1) pe_int (fun _ _ => rfl)) (pa_cons (pe_ix (k_ixT K rfl) (pv 1) pe_int (fun _ _ => rfl)) (pa_cons (pe_callTy (k_listOf K rfl) (by rfl) T.n_list (by decide +kernel) (pa_cons (pe_ix (k_ixT K rfl) (pv 1) pe_int (fun _ _ => rfl)) pa_nil)) (pa_cons (pe_ix (k_ixT K rfl) (pv 1) pe_int (fun _ _ => rfl)) pa_nil))))) (pv 1)))))), ?_⟩
  obtain ⟨us, hp, hv⟩ := hS
  have hvl := hv.len
  refine ⟨_, rfl, p, rfl, ⟨_, .inl (.inl hp)⟩, fun D nD => ?_⟩
  refine lc_stp (K := K) (xs := us) (ss := ss) (fun H1 => StepV (fun l => l ≠ D ∧ H l = none) H1) step_off nD (.inl (.inl hp)) hvl (small1000 (by omega)) (fun x => rfl) ?_ ?_
  · intro i y s H' hy hs s' ⟨zs, hD⟩ Qt qt
    obtain ⟨s2, hs2, hys⟩ := hv.get hy
    rw [hs] at hs2
    cases hs2
    have nDH : ∀ {l : Addr}, H' l = none → l ≠ D ∧ H l = none := fun n => ⟨fun z => (by rw [z, hD] at n; cases n), s'.free n⟩
    walk_at "go"
    cases s with
    | turn i =>
      obtain ⟨t, rfl, ht⟩ := hys
      have hT : SqT K H' t [sT, .int i] := .inl (.inl (s' _ _ ht))
      refine ⟨t, _, _, _, rfl, rfl, hT, rfl, rfl, _, rfl, iteDF (by decide) ?_⟩
      exact ⟨_, rfl, qt _ _ (Same.refl _) ⟨t, rfl, s' _ _ ht⟩⟩
    | swap i j =>
      obtain ⟨t, rfl, ht⟩ := hys
      have hT : SqT K H' t [sS, .int i, .int j] := .inl (.inl (s' _ _ ht))
      refine ⟨t, _, _, _, rfl, rfl, hT, rfl, rfl, _, rfl, iteDF (by decide) ?_⟩
      exact ⟨_, rfl, qt _ _ (Same.refl _) ⟨t, rfl, s' _ _ ht⟩⟩
    | lift b ws sh =>
      obtain ⟨t, l, rfl, ht, hl, _⟩ := hys
      have hT : SqT K H' t [sL, .int b, .ref l, .int sh] := .inl (.inl (s' _ _ ht))
      refine ⟨t, _, _, _, rfl, rfl, hT, rfl, rfl, _, rfl, iteDT rfl ?_⟩
      refine ⟨_, rfl, t, _, _, _, rfl, rfl, hT, rfl, ?_⟩
      refine ⟨_, rfl, t, _, _, _, rfl, rfl, hT, rfl, ?_⟩
      refine ⟨_, rfl, t, _, _, _, rfl, rfl, hT, rfl, ?_⟩
      refine ⟨l, _, rfl, .inl (.inl (.inl (s' _ _ hl))), fun p np => ?_⟩
      obtain ⟨H1, e1, s1, h1⟩ := fresh (.lst (ws.map V.int)) np
      rw [e1]
      refine ⟨_, rfl, t, _, _, _, rfl, rfl, Same.tup s1 hT, rfl, (show 4 ≤ sizeLine by decide), fun p2 np2 => ?_⟩
      obtain ⟨H2, e2, s2, h2⟩ := fresh (.tup [sL, V.int b, .ref p, .int sh]) np2
      rw [e2]
      exact qt _ _ (s1.trans s2) ⟨p2, p, rfl, h2, s2 _ _ h1, nDH np⟩
  intro H3 ys s3 hD hys
  refine q _ D s3 nD ⟨ys, hD, hys.imp fun v s h => ?_⟩
  cases s with
  | turn i => exact h
  | swap i j => exact h
  | lift b ws sh =>
    obtain ⟨t, l, e, h1, h2, h3⟩ := h
    exact ⟨t, l, e, h1, h2, h3.2, _, h2⟩
end
end My

namespace My
open PySem PySem.Spec PyProof.Rows L2 Pre
/-- the lists at as are new since H0, none of them is f, and they hold the rows -/
def NewRows (H0 : Hp) (f : Addr) (H : Hp) (as : List Addr) (rows : List (List Int)) : Prop := as.length = rows.length ∧ ∀ (i : Nat) (a : Addr) (r : List Int), as[i]? = some a → rows[i]? = some r → H0 a = none ∧ a ≠ f ∧ H a = some (.lst (r.map V.int))
theorem NewRows.nil {H0 H : Hp} {f : Addr} : NewRows H0 f H [] [] := ⟨rfl, fun i a r h => by simp at h⟩
theorem NewRows.app {H0 H : Hp} {f : Addr} {as bs : List Addr} {xs ys : List (List Int)} (h : NewRows H0 f H as xs) (k : NewRows H0 f H bs ys) : NewRows H0 f H (as ++ bs) (xs ++ ys) := by
  refine ⟨by rw [List.length_append, List.length_append, h.1, k.1], fun i a r ha hr => ?_⟩
  by_cases c : i < as.length
  · rw [List.getElem?_append_left c] at ha
    rw [List.getElem?_append_left (by rw [← h.1]; exact c)] at hr
    exact h.2 i a r ha hr
  · rw [List.getElem?_append_right (by omega)] at ha
    rw [List.getElem?_append_right (by rw [← h.1]; omega), ← h.1] at hr
    exact k.2 _ a r ha hr
theorem NewRows.one {H0 H : Hp} {f p : Addr} {r : List Int} (h1 : H0 p = none) (h2 : p ≠ f) (h3 : H p = some (.lst (r.map V.int))) : NewRows H0 f H [p] [r] := by
  refine ⟨rfl, fun i a q ha hq => ?_⟩
  cases i with
  | zero =>
    rw [List.getElem?_cons_zero] at ha hq
    cases ha
    cases hq
    exact ⟨h1, h2, h3⟩
  | succ i => simp at ha
/-- all but f stand -/
theorem NewRows.but {H0 H H' : Hp} {f : Addr} {as : List Addr} {rows : List (List Int)} (h : NewRows H0 f H as rows) (s : ∀ b o, b ≠ f → H b = some o → H' b = some o) : NewRows H0 f H' as rows :=
  ⟨h.1, fun i a r ha hr => by
    obtain ⟨a1, a2, a3⟩ := h.2 i a r ha hr
    exact ⟨a1, a2, s _ _ a2 a3⟩⟩
/-- another base, another one that it is not -/
theorem NewRows.base {H0 H1 H : Hp} {f g : Addr} {as : List Addr} {rows : List (List Int)} (h : NewRows H1 f H as rows) (s : Same H0 H1) (n : H1 g ≠ none) : NewRows H0 g H as rows :=
  ⟨h.1, fun i a r ha hr => by
    obtain ⟨a1, a2, a3⟩ := h.2 i a r ha hr
    exact ⟨s.free a1, fun z => n (by rw [← z]; exact a1), a3⟩⟩
theorem NewRows.rows {H0 H : Hp} {f p : Addr} {as : List Addr} {rows : List (List Int)} (h : NewRows H0 f H as rows) (hp : H p = some (.lst (as.map V.ref))) : RowsIn H p rows := ⟨as, hp, h.1, fun i a r ha hr => (h.2 i a r ha hr).2.2⟩
theorem ne_rows {K : PySem.W.Frag} {H : Hp} {p q : Addr} {xs ys : List (List Int)} {Q : V → Hp → Prop} (hp : RowsIn H p xs) (hq : RowsIn H q ys) (e : xs = ys) (k : Q (.bl false) H) : rNeD K (.ref p) (.ref q) H Q := by
  subst e
  obtain ⟨as, h1, h2, h3⟩ := hp
  obtain ⟨bs, k1, k2, k3⟩ := hq
  refine ⟨.list (xs.map rowD), .list (xs.map rowD), .lst (.inl (.inl h1)) (rows_dp h2 h3), .lst (.inl (.inl k1)) (rows_dp k2 k3), rows_shaped xs, rows_shaped xs, ?_⟩
  rw [SeqAt.eqv_refl _ (Bool.and_eq_true_iff.mp (rows_shaped xs)).1]
  exact k
theorem eq_rows {K : PySem.W.Frag} {H : Hp} {p q : Addr} {xs ys : List (List Int)} {Q : V → Hp → Prop} (hp : RowsIn H p xs) (hq : RowsIn H q ys) (e : xs = ys) (k : Q (.bl true) H) : rEqD K (.ref p) (.ref q) H Q := by
  subst e
  obtain ⟨as, h1, h2, h3⟩ := hp
  obtain ⟨bs, k1, k2, k3⟩ := hq
  refine ⟨.list (xs.map rowD), .list (xs.map rowD), .lst (.inl (.inl h1)) (rows_dp h2 h3), .lst (.inl (.inl k1)) (rows_dp k2 k3), rows_shaped xs, rows_shaped xs, ?_⟩
  rw [SeqAt.eqv_refl _ (Bool.and_eq_true_iff.mp (rows_shaped xs)).1]
  exact k
/-- a comprehension that makes new lists of whole numbers -/
theorem lc_rowsL {K : PySem.W.Frag} {a : Addr} {xs : List V} {j : Nat} {tt : TT} {te : TE} {vs : List Nat} {σ : L2.St} {H1 : Hp} {D : Addr} {Qd : Hp → Prop} (sel : List (Option (List Int))) (nD : H1 D = none) (hS : SqL K H1 a xs) (hlen : sel.length = xs.length) (hz : xs.length < sizeLine)
    (hw : ∀ x, wipe ((wipe σ vs).set j (some x)) vs = wipe σ vs)
    (hs : ∀ (i : Nat) (x : V) (o : Option (List Int)) (H' : Hp), xs[i]? = some x → sel[i]? = some o → Same H1 H' → ∀ Qt : Option V → Hp → Prop, (o = none → ∀ H'', Same H' H'' → Qt none H'') → (∀ r, o = some r → ∀ p H'', Same H' H'' → H' p = none → H'' p = some (.lst (r.map V.int)) → Qt (some (.ref p)) H'') →
      tt ((wipe σ vs).set j (some x)) H' fun b H3 => if b = true then te ((wipe σ vs).set j (some x)) H3 fun y H4 => Qt (some y) H4 else Qt none H3)
    (hd : ∀ H' as, Same H1 H' → H' D = some (.lst (as.map V.ref)) → NewRows H1 D H' as (sel.filterMap id) → Qd H') :
    ∃ W : Nat → Nat → Hp → Prop, (∃ m, W 0 m (upd H1 D (.lst []))) ∧ ∀ i m H, W i m H →
      ((Itl K a).stop i H ∧ Qd H) ∨ ((Itl K a).go i H ∧ ∃ Nx : Hp → Prop, (∀ H', Nx H' → ∃ m', m' < m ∧ W (i + 1) m' H') ∧ ∀ x H', (Itl K a).yld i H x H' → gName j x (wipe σ vs) H' fun σ2 H2 => wipe σ2 vs = wipe σ vs ∧ tt σ2 H2 fun b H3 =>
        if b = true then te σ2 H3 fun y H4 => ∃ acc, H4 D = some (.lst acc) ∧ acc.length < sizeLine ∧ Nx (upd H4 D (.lst (acc ++ [y]))) else Nx H3) := by
  refine lc_list (K := K) (a := a) (xs := xs) (fun i H => Same H1 H ∧ ∃ as, H D = some (.lst (as.map V.ref)) ∧ NewRows H1 D H as ((sel.take i).filterMap id)) ⟨same_upd nD, [], upd_same, .nil⟩ (fun i H _ p => p.1.seq hS) ?_ ?_
  · rintro i x H hx ⟨s, as, hD, hN⟩
    refine ⟨hw x, ?_⟩
    have hi : i < sel.length := by rw [hlen]; exact (List.getElem?_eq_some_iff.mp hx).1
    have ho : sel[i]? = some sel[i] := List.getElem?_eq_getElem hi
    have hl : (as.map V.ref).length < sizeLine := by
      rw [List.length_map, hN.1]
      exact Nat.lt_of_le_of_lt (fm_len sel i) (by omega)
    have h := hs i x sel[i] H hx ho s
    generalize sel[i] = o at ho h
    cases o with
    | none =>
      refine h (fun y H4 => match y with | some y => ∃ acc, H4 D = some (.lst acc) ∧ acc.length < sizeLine ∧ (Same H1 (upd H4 D (.lst (acc ++ [y]))) ∧ ∃ as, (upd H4 D (.lst (acc ++ [y]))) D = some (.lst (as.map V.ref)) ∧ NewRows H1 D (upd H4 D (.lst (acc ++ [y]))) as ((sel.take (i + 1)).filterMap id)) | none => Same H1 H4 ∧ ∃ as, H4 D = some (.lst (as.map V.ref)) ∧ NewRows H1 D H4 as ((sel.take (i + 1)).filterMap id)) (fun _ H4 s4 => ?_) (fun r z => by cases z)
      refine ⟨s.trans s4, as, s4 _ _ hD, ?_⟩
      rw [take_fm ho]
      simp only [Option.toList, List.append_nil]
      exact hN.but fun b o _ hb => s4 _ _ hb
    | some r =>
      refine h (fun y H4 => match y with | some y => ∃ acc, H4 D = some (.lst acc) ∧ acc.length < sizeLine ∧ (Same H1 (upd H4 D (.lst (acc ++ [y]))) ∧ ∃ as, (upd H4 D (.lst (acc ++ [y]))) D = some (.lst (as.map V.ref)) ∧ NewRows H1 D (upd H4 D (.lst (acc ++ [y]))) as ((sel.take (i + 1)).filterMap id)) | none => Same H1 H4 ∧ ∃ as, H4 D = some (.lst (as.map V.ref)) ∧ NewRows H1 D H4 as ((sel.take (i + 1)).filterMap id)) (fun z => by cases z) (fun r' z p H4 s4 np hp => ?_)
      cases z
      refine ⟨_, s4 _ _ hD, hl, same_over nD (s.trans s4), as ++ [p], by rw [upd_same, List.map_append]; rfl, ?_⟩
      rw [take_fm ho]
      have npD : p ≠ D := (ne_of_none hD np).symm
      refine (NewRows.app (hN.but fun b o _ hb => s4 _ _ hb) (NewRows.one (s.free np) npD hp)).but fun b o nb hb => by rw [upd_ne nb]; exact hb
  · rintro H ⟨s, as, hD, hN⟩
    rw [← hlen, List.take_length] at hN
    exact hd H as s hD hN
end My

namespace My
/-! ### two mixers alike on all rests are alike on all rows -/
def linesF (m : Nat) (M : List (List Int)) : List (List Int) := M.map fun l => l.map fun x => x * 2 ^ m
/-- all rows of n of the values -/
def listsF (vals : List Int) : Nat → List (List Int)
  | 0 => [[]]
  | k + 1 => (listsF vals k).flatMap fun row => vals.map fun v => row ++ [v]
def rngI (lo : Int) (n : Nat) : List Int := (List.range n).map fun (i : Nat) => lo + (i : Int)
theorem mem_rngI {lo : Int} {n : Nat} {x : Int} : x ∈ rngI lo n ↔ lo ≤ x ∧ x < lo + n := by
  unfold rngI
  rw [List.mem_map]
  constructor
  · rintro ⟨i, hi, rfl⟩
    have := List.mem_range.mp hi
    omega
  · rintro ⟨h1, h2⟩
    exact ⟨(x - lo).toNat, List.mem_range.mpr (by omega), by omega⟩
theorem mem_listsF {vals : List Int} : ∀ {n : Nat} {x : List Int}, x ∈ listsF vals n ↔ x.length = n ∧ ∀ v ∈ x, v ∈ vals
  | 0, x => by
    show x ∈ [[]] ↔ _
    rw [List.mem_singleton]
    constructor
    · rintro rfl
      exact ⟨rfl, fun v h => nomatch h⟩
    · intro h
      exact List.length_eq_zero_iff.mp h.1
  | n + 1, x => by
    show x ∈ (listsF vals n).flatMap _ ↔ _
    rw [List.mem_flatMap]
    constructor
    · rintro ⟨row, hr, hx⟩
      obtain ⟨v, hv, rfl⟩ := List.mem_map.mp hx
      obtain ⟨h1, h2⟩ := mem_listsF.mp hr
      refine ⟨by rw [List.length_append, h1]; rfl, fun w hw => ?_⟩
      rcases List.mem_append.mp hw with h | h
      · exact h2 w h
      · rw [List.mem_singleton.mp h]
        exact hv
    · rintro ⟨h1, h2⟩
      have hne : x ≠ [] := fun z => by rw [z] at h1; simp at h1
      refine ⟨x.dropLast, mem_listsF.mpr ⟨by rw [List.length_dropLast, h1]; rfl, fun v hv => h2 v (List.dropLast_subset _ hv)⟩, List.mem_map.mpr ⟨x.getLast hne, h2 _ (List.getLast_mem hne), List.dropLast_concat_getLast hne⟩⟩
theorem len_listsF (vals : List Int) : ∀ n : Nat, (listsF vals n).length = vals.length ^ n
  | 0 => rfl
  | n + 1 => by
    show ((listsF vals n).flatMap fun row => vals.map fun v => row ++ [v]).length = _
    rw [List.length_flatMap]
    have e : (listsF vals n).map (fun row => (vals.map fun v => row ++ [v]).length) = List.replicate (listsF vals n).length vals.length := by
      apply List.ext_getElem
      · simp
      · intro i h1 h2
        simp
    rw [e, List.sum_replicate_nat, len_listsF vals n, Nat.pow_succ]
/-! #### the two directions -/
def sameOn (A B : List Step) (rows : List (List Int)) : Bool := rows.all fun r => decide (playF A r = playF B r)
def alikeF (n : Nat) (A B : List Step) : Bool := decide (linesF (bitsS B) (numF n A) = linesF (bitsS A) (numF n B)) && sameOn A B (listsF (rngI 0 (2 ^ max (bitsS A) (bitsS B))) n)
theorem sameOn_iff {A B : List Step} {rows : List (List Int)} : sameOn A B rows = true ↔ ∀ r ∈ rows, playF A r = playF B r := by
  unfold sameOn
  rw [List.all_eq_true]
  exact ⟨fun h r hr => of_decide_eq_true (h r hr), fun h r hr => decide_eq_true (h r hr)⟩
theorem dot_pow {m k : Nat} {a b y : List Int} (h : (a.map fun x => x * 2 ^ m) = b.map fun x => x * 2 ^ k) : dotP a y * 2 ^ m = dotP b y * 2 ^ k := by
  rw [← dot_mulr, ← dot_mulr, h]
theorem lines_getD {m : Nat} {M : List (List Int)} {i : Nat} : (linesF m M).getD i [] = (M.getD i []).map fun x => x * 2 ^ m := by
  unfold linesF
  rw [List.getD_eq_getElem?_getD, List.getElem?_map, List.getD_eq_getElem?_getD]
  cases M[i]? with
  | none => rfl
  | some l => rfl
theorem pow_parts {a b : Nat} (h : a ≤ b) : (2 : Int) ^ b = 2 ^ a * 2 ^ (b - a) := by
  rw [← Int.pow_add]
  congr 1
  omega
theorem pow_ne (a : Nat) : (2 : Int) ^ a ≠ 0 := Int.ne_of_gt (Int.pow_pos (by decide))
/-- the parts behind 2 ^ m of both -/
theorem parts_eq {a b : Nat} {u v : Int} : u * 2 ^ b = v * 2 ^ a ↔ 2 ^ (max a b - a) * u = 2 ^ (max a b - b) * v := by
  rcases Nat.le_total a b with h | h
  · rw [Nat.max_eq_right h, Nat.sub_self, Int.pow_zero, Int.one_mul, pow_parts h]
    constructor
    · intro e
      have e2 : (2 : Int) ^ a * (2 ^ (b - a) * u) = 2 ^ a * v := by
        rw [← Int.mul_assoc, Int.mul_comm _ u, e, Int.mul_comm]
      exact Int.eq_of_mul_eq_mul_left (pow_ne a) e2
    · intro e
      rw [← e, Int.mul_comm u, Int.mul_assoc, Int.mul_comm]
  · rw [Nat.max_eq_left h, Nat.sub_self, Int.pow_zero, Int.one_mul, pow_parts h]
    constructor
    · intro e
      have e2 : (2 : Int) ^ b * u = 2 ^ b * (2 ^ (a - b) * v) := by
        rw [Int.mul_comm, e, ← Int.mul_assoc, Int.mul_comm v, Int.mul_assoc, Int.mul_comm v]
      exact Int.eq_of_mul_eq_mul_left (pow_ne b) e2
    · intro e
      rw [e, Int.mul_comm (2 ^ (a - b)) v, Int.mul_assoc, Int.mul_comm (2 ^ (a - b)) (2 ^ b)]
theorem num_len {n : Nat} {A : List Step} (hA : ∀ s ∈ A, s.ok n) : Sq n (numF n A) := num_sq hA (unit_sq n)
theorem play_far {n : Nat} {A : List Step} {m : Nat} {x y : List Int} (hA : ∀ s ∈ A, s.ok n) (hm : bitsS A ≤ m) (hx : x.length = n) (hy : y.length = n) : playF A (addM x (2 ^ m) y) = addM (playF A x) (2 ^ (m - bitsS A)) (mulV (numF n A) y) := by
  rw [pow_parts hm]
  exact play_add _ hA hx hy
theorem alike_all {n : Nat} {A B : List Step} (hA : ∀ s ∈ A, s.ok n) (hB : ∀ s ∈ B, s.ok n) (h : alikeF n A B = true) {x : List Int} (hx : x.length = n) : playF A x = playF B x := by
  unfold alikeF at h
  rw [Bool.and_eq_true] at h
  obtain ⟨h1, h2⟩ := h
  have h1 := of_decide_eq_true h1
  have h2 := sameOn_iff.mp h2
  generalize hm : max (bitsS A) (bitsS B) = m at h2
  have p0 : (0 : Int) < 2 ^ m := Int.pow_pos (by decide)
  have er : (x.map fun v => v % 2 ^ m).length = n := by rw [List.length_map, hx]
  have eq : (x.map fun v => v / 2 ^ m).length = n := by rw [List.length_map, hx]
  have ex : x = addM (x.map fun v => v % 2 ^ m) (2 ^ m) (x.map fun v => v / 2 ^ m) := by
    refine ext_getD (by rw [addM_len (by rw [er, eq]), List.length_map]) fun i hi => ?_
    rw [addM_getD (by rw [er, eq])]
    have e1 : ∀ f : Int → Int, (x.map f).getD i 0 = f (x.getD i 0) := fun f => by
      rw [List.getD_eq_getElem?_getD, List.getElem?_map, List.getD_eq_getElem?_getD, List.getElem?_eq_getElem hi]
      rfl
    rw [e1 (fun v => v % 2 ^ m), e1 (fun v => v / 2 ^ m)]
    exact (Int.emod_add_mul_ediv _ _).symm
  have hr := h2 (x.map fun v => v % 2 ^ m) (mem_listsF.mpr ⟨er, fun v hv => by
    obtain ⟨w, _, rfl⟩ := List.mem_map.mp hv
    refine mem_rngI.mpr ⟨Int.emod_nonneg _ (Int.ne_of_gt p0), ?_⟩
    have := Int.emod_lt_of_pos w p0
    rw [Int.natCast_pow]
    show w % 2 ^ m < 0 + (2 : Int) ^ m
    omega⟩)
  rw [ex, play_far hA (by omega) er eq, play_far hB (by omega) er eq, hr]
  have lA := num_len hA
  have lB := num_len hB
  refine ext_getD (by rw [addM_len (by rw [play_len, mulV_len, lA.1, er]), addM_len (by rw [play_len, mulV_len, lB.1, er])]) fun i hi => ?_
  rw [addM_getD (by rw [play_len, mulV_len, lA.1, er]), addM_getD (by rw [play_len, mulV_len, lB.1, er]), mul_getD, mul_getD]
  have el : (linesF (bitsS B) (numF n A)).getD i [] = (linesF (bitsS A) (numF n B)).getD i [] := by rw [h1]
  rw [lines_getD, lines_getD] at el
  have := parts_eq.mp (dot_pow (y := x.map fun v => v / 2 ^ m) el)
  rw [hm] at this
  rw [this]
theorem dot_one {n : Nat} {l : List Int} (hl : l.length = n) (j : Nat) (hj : j < n) : dotP l ((List.range' 0 n).map fun k => if j = k then (1 : Int) else 0) = l.getD j 0 := by
  have comm : ∀ a b : List Int, dotP a b = dotP b a := by
    intro a
    induction a with
    | nil => intro b; cases b <;> rfl
    | cons x a ih =>
      intro b
      cases b with
      | nil => rfl
      | cons z b =>
        show x * z + dotP a b = z * x + dotP b a
        rw [ih, Int.mul_comm]
  rw [comm, dot_unit n 0 l hl, if_pos (Nat.zero_le _), Nat.sub_zero]
theorem alike_of_box {n : Nat} {A B : List Step} (hA : ∀ s ∈ A, s.ok n) (hB : ∀ s ∈ B, s.ok n) (h : sameOn A B (listsF (rngI 0 (2 ^ max (bitsS A) (bitsS B) + 1)) n) = true) : alikeF n A B = true := by
  have h2 := sameOn_iff.mp h
  unfold alikeF
  generalize hm : max (bitsS A) (bitsS B) = m at h2
  have p0 : (0 : Int) < 2 ^ m := Int.pow_pos (by decide)
  have pc : ((2 ^ m : Nat) : Int) = 2 ^ m := by rw [Int.natCast_pow]; rfl
  have lA := num_len hA
  have lB := num_len hB
  rw [Bool.and_eq_true]
  refine ⟨decide_eq_true ?_, sameOn_iff.mpr fun r hr => h2 r ?_⟩
  · have entry : ∀ i j, i < n → j < n → ((numF n A).getD i []).getD j 0 * 2 ^ bitsS B = ((numF n B).getD i []).getD j 0 * 2 ^ bitsS A := fun i j hi hj => by
      have hz : (List.replicate n (0 : Int)).length = n := List.length_replicate
      have hu : ((List.range' 0 n).map fun k => if j = k then (1 : Int) else 0).length = n := by rw [List.length_map, List.length_range']
      have z0 := h2 (List.replicate n 0) (mem_listsF.mpr ⟨hz, fun v hv => by
        rw [List.eq_of_mem_replicate hv]
        exact mem_rngI.mpr ⟨by omega, by omega⟩⟩)
      have z1 := h2 (addM (List.replicate n 0) (2 ^ m) ((List.range' 0 n).map fun k => if j = k then (1 : Int) else 0)) (mem_listsF.mpr ⟨by rw [addM_len (by rw [hz, hu]), hz], fun v hv => by
        obtain ⟨k, hk, rfl⟩ := List.mem_iff_getElem.mp hv
        have hk' : k < n := by
          rw [addM_len (by rw [hz, hu]), hz] at hk
          exact hk
        have e : (addM (List.replicate n 0) (2 ^ m) ((List.range' 0 n).map fun k => if j = k then (1 : Int) else 0))[k] = (List.replicate n (0 : Int)).getD k 0 + 2 ^ m * ((List.range' 0 n).map fun k => if j = k then (1 : Int) else 0).getD k 0 := by
          rw [← addM_getD (by rw [hz, hu]) k, List.getD_eq_getElem?_getD, List.getElem?_eq_getElem hk]
          rfl
        rw [e]
        have e0 : (List.replicate n (0 : Int)).getD k 0 = 0 := by
          rw [List.getD_eq_getElem?_getD, List.getElem?_replicate, if_pos hk']
          rfl
        have e1 : ((List.range' 0 n).map fun k => if j = k then (1 : Int) else 0).getD k 0 = if j = k then 1 else 0 := by
          rw [List.getD_eq_getElem?_getD, List.getElem?_map, List.getElem?_range' (by omega)]
          simp
        rw [e0, e1]
        by_cases c : j = k
        · rw [if_pos c]
          exact mem_rngI.mpr ⟨by omega, by omega⟩
        · rw [if_neg c]
          exact mem_rngI.mpr ⟨by omega, by omega⟩⟩)
      rw [play_far hA (by omega) hz hu, play_far hB (by omega) hz hu, z0] at z1
      have z2 : ∀ u v : List Int, u = v → u.getD i 0 = v.getD i 0 := fun u v e => by rw [e]
      have z3 := z2 _ _ z1
      rw [addM_getD (by rw [play_len, mulV_len, lA.1, hz]), addM_getD (by rw [play_len, mulV_len, lB.1, hz]), mul_getD, mul_getD, dot_one (lA.2 _ (getD_mem (by rw [lA.1]; exact hi))) j hj, dot_one (lB.2 _ (getD_mem (by rw [lB.1]; exact hi))) j hj] at z3
      refine parts_eq.mpr ?_
      rw [hm]
      omega
    unfold linesF
    apply List.ext_getElem
    · rw [List.length_map, List.length_map, lA.1, lB.1]
    · intro i h1 h3
      have hi : i < n := by
        have := h1
        rw [List.length_map, lA.1] at this
        exact this
      have iA : i < (numF n A).length := by rw [lA.1]; exact hi
      have iB : i < (numF n B).length := by rw [lB.1]; exact hi
      have la : (numF n A)[i].length = n := lA.2 _ (List.getElem_mem iA)
      have lb : (numF n B)[i].length = n := lB.2 _ (List.getElem_mem iB)
      rw [List.getElem_map, List.getElem_map]
      apply List.ext_getElem
      · exact (List.length_map _).trans (la.trans (lb.symm.trans (List.length_map _).symm))
      · intro j h4 h5
        have hj : j < n := Nat.lt_of_lt_of_eq h4 ((List.length_map _).trans la)
        rw [List.getElem_map, List.getElem_map]
        have := entry i j hi hj
        rw [List.getD_eq_getElem?_getD, List.getD_eq_getElem?_getD, List.getElem?_eq_getElem iA] at this
        rw [List.getD_eq_getElem?_getD, List.getD_eq_getElem?_getD, List.getElem?_eq_getElem iB] at this
        simp only [Option.getD_some] at this
        rw [List.getElem?_eq_getElem (show j < (numF n A)[i].length by rw [la]; exact hj), List.getElem?_eq_getElem (show j < (numF n B)[i].length by rw [lb]; exact hj)] at this
        exact this
  · obtain ⟨h3, h4⟩ := mem_listsF.mp hr
    exact mem_listsF.mpr ⟨h3, fun v hv => by
      obtain ⟨h5, h6⟩ := mem_rngI.mp (h4 v hv)
      exact mem_rngI.mpr ⟨h5, by omega⟩⟩
/-- alike on the box, with its ends, or alike by the lines and all rests: the same -/
theorem alike_box {n : Nat} {A B : List Step} (hA : ∀ s ∈ A, s.ok n) (hB : ∀ s ∈ B, s.ok n) : sameOn A B (listsF (rngI 0 (2 ^ max (bitsS A) (bitsS B) + 1)) n) = alikeF n A B := by
  cases e : alikeF n A B with
  | true => exact sameOn_iff.mpr fun r hr => alike_all hA hB e (mem_listsF.mp hr).1
  | false =>
    cases e2 : sameOn A B (listsF (rngI 0 (2 ^ max (bitsS A) (bitsS B) + 1)) n) with
    | false => rfl
    | true =>
      rw [alike_of_box hA hB e2] at e
      cases e
theorem alike_comm {n : Nat} {A B : List Step} (hA : ∀ s ∈ A, s.ok n) (hB : ∀ s ∈ B, s.ok n) : alikeF n A B = alikeF n B A := by
  rw [← alike_box hA hB, ← alike_box hB hA, Nat.max_comm]
  unfold sameOn
  congr 1
  funext r
  exact decide_eq_decide.mpr eq_comm
/-! #### the first row that parts them -/
def maxAbs (r : List Int) : Nat := r.foldl (fun m v => max m v.natAbs) 0
def sizeRows (n size : Nat) : List (List Int) := (listsF (rngI (-(size : Int)) (2 * size + 1)) n).filter fun r => decide (maxAbs r = size)
def firstF (n : Nat) (A B : List Step) (top : Nat) : Option (List Int) := ((List.range (top + 1)).flatMap (sizeRows n)).find? fun r => decide (playF A r ≠ playF B r)
theorem foldl_max : ∀ (r : List Int) (m : Nat), r.foldl (fun m v => max m v.natAbs) m = max m (maxAbs r)
  | [], m => by simp [maxAbs]
  | v :: r, m => by
    have e : maxAbs (v :: r) = max v.natAbs (maxAbs r) := by
      show r.foldl (fun m v => max m v.natAbs) (max 0 v.natAbs) = _
      rw [foldl_max r, Nat.zero_max]
    rw [List.foldl_cons, foldl_max r, e]
    omega
theorem maxAbs_le {r : List Int} {v : Int} : v ∈ r → v.natAbs ≤ maxAbs r := by
  induction r with
  | nil => intro h; cases h
  | cons w r ih =>
    intro h
    have e : maxAbs (w :: r) = max w.natAbs (maxAbs r) := by
      show r.foldl (fun m v => max m v.natAbs) (max 0 w.natAbs) = _
      rw [foldl_max r, Nat.zero_max]
    rcases List.mem_cons.mp h with rfl | h
    · omega
    · have := ih h
      omega
theorem maxAbs_bound {r : List Int} {m : Nat} (h : ∀ v ∈ r, v.natAbs ≤ m) : maxAbs r ≤ m := by
  induction r with
  | nil => exact Nat.zero_le _
  | cons w r ih =>
    have e : maxAbs (w :: r) = max w.natAbs (maxAbs r) := by
      show r.foldl (fun m v => max m v.natAbs) (max 0 w.natAbs) = _
      rw [foldl_max r, Nat.zero_max]
    have h1 := h w List.mem_cons_self
    have h2 := ih fun v hv => h v (List.mem_cons_of_mem _ hv)
    omega
theorem first_some {n : Nat} {A B : List Step} (hA : ∀ s ∈ A, s.ok n) (hB : ∀ s ∈ B, s.ok n) (h : alikeF n A B = false) : ∃ r, firstF n A B (2 ^ max (bitsS A) (bitsS B)) = some r ∧ r.length = n := by
  cases e : firstF n A B (2 ^ max (bitsS A) (bitsS B)) with
  | some r =>
    refine ⟨r, rfl, ?_⟩
    obtain ⟨k, _, hr⟩ := List.mem_flatMap.mp (List.mem_of_find?_eq_some e)
    exact (mem_listsF.mp (List.mem_filter.mp hr).1).1
  | none =>
    exfalso
    rw [← alike_box hA hB] at h
    have : sameOn A B (listsF (rngI 0 (2 ^ max (bitsS A) (bitsS B) + 1)) n) = true := sameOn_iff.mpr fun r hr => by
      obtain ⟨h1, h2⟩ := mem_listsF.mp hr
      have hb : ∀ v ∈ r, v.natAbs ≤ 2 ^ max (bitsS A) (bitsS B) := fun v hv => by
        have := mem_rngI.mp (h2 v hv)
        omega
      have hle := maxAbs_bound hb
      have hmem : r ∈ (List.range (2 ^ max (bitsS A) (bitsS B) + 1)).flatMap (sizeRows n) := List.mem_flatMap.mpr ⟨maxAbs r, List.mem_range.mpr (by omega), List.mem_filter.mpr ⟨mem_listsF.mpr ⟨h1, fun v hv => mem_rngI.mpr (by have := maxAbs_le hv; omega)⟩, decide_eq_true rfl⟩⟩
      have := List.find?_eq_none.mp e r hmem
      rw [decide_eq_true_eq] at this
      exact Decidable.not_not.mp this
    rw [this] at h
    cases h
theorem first_comm {n : Nat} {A B : List Step} (top : Nat) : firstF n A B top = firstF n B A top := by
  unfold firstF
  congr 1
  funext r
  exact decide_eq_decide.mpr ⟨fun h e => h e.symm, fun h e => h e.symm⟩
end My

namespace My
open PySem PySem.Spec PyProof.Rows L2 Pre
/-! ### more on new lists of rows -/
theorem NewRows.get {H0 H : Hp} {f : Addr} {as : List Addr} {rows : List (List Int)} (h : NewRows H0 f H as rows) {i : Nat} (hi : i < rows.length) : ∃ a r, as[i]? = some a ∧ rows[i]? = some r ∧ H0 a = none ∧ a ≠ f ∧ H a = some (.lst (r.map V.int)) := by
  have h1 : as[i]? = some (as[i]'(by rw [h.1]; exact hi)) := List.getElem?_eq_getElem _
  have h2 : rows[i]? = some rows[i] := List.getElem?_eq_getElem hi
  exact ⟨_, _, h1, h2, h.2 i _ _ h1 h2⟩
theorem NewRows.older {H0 H1 H : Hp} {f : Addr} {as : List Addr} {rows : List (List Int)} (h : NewRows H1 f H as rows) (s : Same H0 H1) : NewRows H0 f H as rows :=
  ⟨h.1, fun i a r ha hr => by
    obtain ⟨a1, a2, a3⟩ := h.2 i a r ha hr
    exact ⟨s.free a1, a2, a3⟩⟩
theorem NewRows.set {H0 H : Hp} {f b : Addr} {as : List Addr} {rows : List (List Int)} {r : List Int} (h : NewRows H0 f H as rows) (i : Nat) (h1 : H0 b = none) (h2 : b ≠ f) (h3 : H b = some (.lst (r.map V.int))) : NewRows H0 f H (as.set i b) (rows.set i r) := by
  refine ⟨by rw [List.length_set, List.length_set, h.1], fun k a q ha hq => ?_⟩
  rw [List.getElem?_set] at ha hq
  by_cases e : i = k
  · subst e
    rw [if_pos rfl] at ha hq
    by_cases c : i < as.length
    · rw [if_pos c] at ha
      rw [if_pos (by rw [← h.1]; exact c)] at hq
      cases ha
      cases hq
      exact ⟨h1, h2, h3⟩
    · rw [if_neg c] at ha
      cases ha
  · rw [if_neg e] at ha hq
    exact h.2 k a q ha hq
/-- the list of them is changed by other rows -/
theorem NewRows.upd {H0 H : Hp} {f : Addr} {as : List Addr} {rows : List (List Int)} {o : HO} (h : NewRows H0 f H as rows) : NewRows H0 f (upd H f o) as rows := h.but fun b o nb e => by rw [upd_ne nb]; exact e
/-- a comprehension over a range that makes new lists of whole numbers -/
theorem lc_rowsR {lo : Int} {n : Nat} {j : Nat} {te : TE} {vs : List Nat} {σ : L2.St} {H1 : Hp} {D : Addr} {Qd : Hp → Prop} (rows : List (List Int)) (nD : H1 D = none) (hlen : rows.length = n) (hz : n < sizeLine)
    (hw : ∀ x, wipe ((wipe σ vs).set j (some x)) vs = wipe σ vs)
    (hs : ∀ (i : Nat) (r : List Int) (H' : Hp), i < n → rows[i]? = some r → Same H1 H' → ∀ Qt : V → Hp → Prop, (∀ p H'', Same H' H'' → H' p = none → H'' p = some (.lst (r.map V.int)) → Qt (.ref p) H'') → te ((wipe σ vs).set j (some (.int (lo + (i : Int))))) H' Qt)
    (hd : ∀ H' as, Same H1 H' → H' D = some (.lst (as.map V.ref)) → NewRows H1 D H' as rows → Qd H') :
    ∃ W : Nat → Nat → Hp → Prop, (∃ m, W 0 m (upd H1 D (.lst []))) ∧ ∀ i m H, W i m H →
      ((Itr lo n).stop i H ∧ Qd H) ∨ ((Itr lo n).go i H ∧ ∃ Nx : Hp → Prop, (∀ H', Nx H' → ∃ m', m' < m ∧ W (i + 1) m' H') ∧ ∀ x H', (Itr lo n).yld i H x H' → gName j x (wipe σ vs) H' fun σ2 H2 => wipe σ2 vs = wipe σ vs ∧ tYes σ2 H2 fun b H3 =>
        if b = true then te σ2 H3 fun y H4 => ∃ acc, H4 D = some (.lst acc) ∧ acc.length < sizeLine ∧ Nx (upd H4 D (.lst (acc ++ [y]))) else Nx H3) := by
  refine lc_range (lo := lo) (n := n) (fun i H => Same H1 H ∧ ∃ as, H D = some (.lst (as.map V.ref)) ∧ NewRows H1 D H as (rows.take i)) ⟨same_upd nD, [], upd_same, .nil⟩ ?_ ?_
  · rintro i H hi ⟨s, as, hD, hN⟩
    refine ⟨hw _, ?_⟩
    unfold tYes
    dsimp only
    rw [if_pos (show true = true from rfl)]
    have hr : rows[i]? = some (rows[i]'(by omega)) := List.getElem?_eq_getElem (by omega)
    refine hs i _ H hi hr s _ fun p H4 s4 np hp => ?_
    have hl := hN.1
    rw [List.length_take] at hl
    have npD : p ≠ D := (ne_of_none hD np).symm
    refine ⟨_, s4 _ _ hD, by rw [List.length_map]; omega, same_over nD (s.trans s4), as ++ [p], by rw [upd_same, List.map_append]; rfl, ?_⟩
    rw [List.take_add_one, hr]
    exact (hN.but fun b o nb e => by rw [upd_ne nb]; exact s4 _ _ e).app (.one (s.free np) npD (by rw [upd_ne npD]; exact hp))
  · rintro H ⟨s, as, hD, hN⟩
    rw [← hlen, List.take_length] at hN
    exact hd H as s hD hN
/-- rows gone on by each number of a range: two clauses -/
theorem lc2_rows {K : PySem.W.Frag} {a : Addr} {rows : List (List Int)} {n : Nat} {lo : Int} {j j1 : Nat} {wi1 : TI} {te : TE} {vs vs1 : List Nat} {σ : L2.St} {H1 : Hp} {D : Addr} {Qd : Hp → Prop} (as : List Addr) (nD : H1 D = none) (hA : SqL K H1 a (as.map V.ref)) (hl : as.length = rows.length)
    (hr : ∀ (i : Nat) (b : Addr) (r : List Int), as[i]? = some b → rows[i]? = some r → H1 b = some (.lst (r.map V.int))) (hz : rows.length * n < sizeLine)
    (hw : ∀ x, wipe ((wipe σ vs).set j (some x)) vs = wipe σ vs) (hw1 : ∀ x y, wipe ((wipe ((wipe σ vs).set j (some x)) vs1).set j1 (some y)) vs1 = wipe ((wipe σ vs).set j (some x)) vs1)
    (hi : ∀ (x : V) (H' : Hp) (R : It → Hp → Prop), R (Itr lo n) H' → wi1 ((wipe σ vs).set j (some x)) H' R)
    (hs : ∀ (k : Nat) (b : Addr) (r : List Int) (H' : Hp), k < n → H' b = some (.lst (r.map V.int)) → r ∈ rows → ∀ Qt : V → Hp → Prop, (∀ p H'', Same H' H'' → H' p = none → H'' p = some (.lst ((r ++ [lo + (k : Int)]).map V.int)) → Qt (.ref p) H'') →
      te ((wipe ((wipe σ vs).set j (some (.ref b))) vs1).set j1 (some (.int (lo + (k : Int))))) H' Qt)
    (hd : ∀ H' bs, Same H1 H' → H' D = some (.lst (bs.map V.ref)) → NewRows H1 D H' bs (rows.flatMap fun r => (rngI lo n).map fun v => r ++ [v]) → Qd H') :
    ∃ W : Nat → Nat → Hp → Prop, (∃ m, W 0 m (upd H1 D (.lst []))) ∧ ∀ i m H, W i m H →
      ((Itl K a).stop i H ∧ Qd H) ∨ ((Itl K a).go i H ∧ ∃ Nx : Hp → Prop, (∀ H', Nx H' → ∃ m', m' < m ∧ W (i + 1) m' H') ∧ ∀ x H', (Itl K a).yld i H x H' → gName j x (wipe σ vs) H' fun σ2 H2 => wipe σ2 vs = wipe σ vs ∧ tYes σ2 H2 fun b H3 =>
        if b = true then wi1 σ2 H3 fun J1 H4 => ∃ W1 : Nat → Nat → Hp → Prop, (∃ m, W1 0 m H4) ∧ ∀ j k H, W1 j k H →
          (J1.stop j H ∧ Nx H) ∨ (J1.go j H ∧ ∃ Nx1 : Hp → Prop, (∀ H', Nx1 H' → ∃ k', k' < k ∧ W1 (j + 1) k' H') ∧ ∀ x H', J1.yld j H x H' → gName j1 x (wipe σ2 vs1) H' fun σ3 H5 => wipe σ3 vs1 = wipe σ2 vs1 ∧ tYes σ3 H5 fun b H6 =>
            if b = true then te σ3 H6 fun y H7 => ∃ acc, H7 D = some (.lst acc) ∧ acc.length < sizeLine ∧ Nx1 (upd H7 D (.lst (acc ++ [y]))) else Nx1 H6)
        else Nx H3) := by
  have flen : ∀ xs : List (List Int), (xs.flatMap fun r => (rngI lo n).map fun v => r ++ [v]).length = xs.length * n := fun xs => by
    rw [List.length_flatMap]
    have e : xs.map (fun r => ((rngI lo n).map fun v => r ++ [v]).length) = List.replicate xs.length n := by
      apply List.ext_getElem
      · simp
      · intro i h1 h2
        simp [rngI]
    rw [e, List.sum_replicate_nat]
  let S : Nat → Nat → Hp → Prop := fun i k H => Same H1 H ∧ ∃ bs, H D = some (.lst (bs.map V.ref)) ∧ NewRows H1 D H bs ((rows.take i).flatMap (fun r => (rngI lo n).map fun v => r ++ [v]) ++ ((rows[i]?.toList.flatMap fun r => (rngI lo k).map fun v => r ++ [v])))
  refine ⟨fun i m H => m = rows.length - i ∧ i ≤ rows.length ∧ S i 0 H, ⟨rows.length, by simp, Nat.zero_le _, same_upd nD, [], upd_same, ?_⟩, ?_⟩
  · have e : ((rows.take 0).flatMap (fun r => (rngI lo n).map fun v => r ++ [v]) ++ ((rows[0]?.toList.flatMap fun r => (rngI lo 0).map fun v => r ++ [v]))) = [] := by
      cases rows[0]? <;> rfl
    rw [e]
    exact .nil
  rintro i m H ⟨rfl, hi', s, bs, hD, hN⟩
  have hS := s.seq hA
  by_cases lt : i < rows.length
  · have hai : as[i]? = some (as[i]'(by omega)) := List.getElem?_eq_getElem (by omega)
    have hri : rows[i]? = some rows[i] := List.getElem?_eq_getElem lt
    refine .inr ⟨⟨_, .ref (as[i]'(by omega)), hS, by rw [List.getElem?_map, hai]; rfl⟩, S (i + 1) 0, fun H' p => ⟨rows.length - (i + 1), by omega, rfl, lt, p⟩, fun x H' y => ?_⟩
    obtain ⟨e, y⟩ := y
    subst e
    have hx := y _ hS
    rw [List.getElem?_map, hai] at hx
    cases hx
    refine ⟨hw _, ?_⟩
    unfold tYes
    dsimp only
    rw [if_pos (show true = true from rfl)]
    refine hi _ H' _ ⟨fun k m H => m = n - k ∧ k ≤ n ∧ S i k H, ⟨n, by simp, Nat.zero_le _, s, bs, hD, hN⟩, ?_⟩
    rintro k m H2 ⟨rfl, hk, s2, cs, hD2, hN2⟩
    by_cases kl : k < n
    · refine .inr ⟨kl, S i (k + 1), fun H' p => ⟨n - (k + 1), by omega, rfl, kl, p⟩, fun x H' y => ?_⟩
      obtain ⟨e, y⟩ := y
      subst e
      subst y
      refine ⟨hw1 _ _, ?_⟩
      rw [if_pos (show true = true from rfl)]
      refine hs k _ rows[i] _ kl (s2 _ _ (hr i _ _ hai hri)) (List.getElem_mem lt) _ fun p H7 s7 np hp => ?_
      have hcl := hN2.1
      have npD : p ≠ D := (ne_of_none hD2 np).symm
      have hlen : cs.length < rows.length * n := by
        rw [hcl, List.length_append, flen, List.length_take, Nat.min_eq_left (by omega), hri]
        show i * n + ((rngI lo k).map _ ++ []).length < _
        rw [List.append_nil, List.length_map]
        have : (rngI lo k).length = k := by simp [rngI]
        rw [this]
        have : (i + 1) * n ≤ rows.length * n := Nat.mul_le_mul_right _ lt
        rw [Nat.add_mul] at this
        omega
      refine ⟨_, s7 _ _ hD2, by rw [List.length_map]; omega, same_over nD (s2.trans s7), cs ++ [p], by rw [upd_same, List.map_append]; rfl, ?_⟩
      have e : ((rows.take i).flatMap (fun r => (rngI lo n).map fun v => r ++ [v]) ++ ((rows[i]?.toList.flatMap fun r => (rngI lo (k + 1)).map fun v => r ++ [v]))) = ((rows.take i).flatMap (fun r => (rngI lo n).map fun v => r ++ [v]) ++ ((rows[i]?.toList.flatMap fun r => (rngI lo k).map fun v => r ++ [v]))) ++ [rows[i] ++ [lo + (k : Int)]] := by
        rw [List.append_assoc, hri]
        congr 1
        show (rngI lo (k + 1)).map _ ++ [] = ((rngI lo k).map _ ++ []) ++ _
        rw [List.append_nil, List.append_nil]
        unfold rngI
        rw [List.range_succ, List.map_append, List.map_append]
        rfl
      rw [e]
      exact (hN2.but fun b o nb e => by rw [upd_ne nb]; exact s7 _ _ e).app (.one (s2.free np) npD (by rw [upd_ne npD]; exact hp))
    · have ek : k = n := by omega
      subst ek
      refine .inl ⟨Nat.le_refl _, s2, cs, hD2, ?_⟩
      have e : ((rows.take (i + 1)).flatMap (fun r => (rngI lo k).map fun v => r ++ [v]) ++ ((rows[i + 1]?.toList.flatMap fun r => (rngI lo 0).map fun v => r ++ [v]))) = ((rows.take i).flatMap (fun r => (rngI lo k).map fun v => r ++ [v]) ++ ((rows[i]?.toList.flatMap fun r => (rngI lo k).map fun v => r ++ [v]))) := by
        have e0 : (rows[i + 1]?.toList.flatMap fun r => (rngI lo 0).map fun v => r ++ [v]) = [] := by cases rows[i + 1]? <;> rfl
        rw [e0, List.append_nil, List.take_add_one, List.flatMap_append]
      rw [e]
      exact hN2
  · have ei : i = rows.length := by omega
    subst ei
    refine .inl ⟨⟨_, hS, by rw [List.length_map, hl]; exact Nat.le_refl _⟩, hd H bs s hD ?_⟩
    have e : ((rows.take rows.length).flatMap (fun r => (rngI lo n).map fun v => r ++ [v]) ++ ((rows[rows.length]?.toList.flatMap fun r => (rngI lo 0).map fun v => r ++ [v]))) = rows.flatMap fun r => (rngI lo n).map fun v => r ++ [v] := by
      rw [List.take_length, List.getElem?_eq_none (Nat.le_refl _)]
      show _ ++ [] = _
      rw [List.append_nil]
    rw [e] at hN
    exact hN
end My

namespace My
open PySem PySem.Spec PyProof.Rows L2 Pre
def liftSh : Step → Option V
  | .lift _ _ sh => some (.int (sh : Int))
  | _ => none
theorem sum_sh : ∀ ss : List Step, ∃ ns : List Int, (ss.map liftSh).filterMap id = ns.map V.int ∧ ns.sum = (bitsS ss : Int)
  | [] => ⟨[], rfl, rfl⟩
  | s :: ss => by
    obtain ⟨ns, h1, h2⟩ := sum_sh ss
    have e : bitsS (s :: ss) = shS s + bitsS ss := rfl
    cases s with
    | turn i => exact ⟨ns, h1, by rw [e, h2]; show _ = ((0 + bitsS ss : Nat) : Int); omega⟩
    | swap i j => exact ⟨ns, h1, by rw [e, h2]; show _ = ((0 + bitsS ss : Nat) : Int); omega⟩
    | lift t ws sh => exact ⟨(sh : Int) :: ns, by rw [List.map_cons, List.map_cons, ← h1]; rfl, by rw [List.sum_cons, e, h2]; show _ = ((sh + bitsS ss : Nat) : Int); omega⟩
theorem unit_cell (i k : Nat) : V.int (if decide (V.int (0 + (i : Int)) = V.int (0 + (k : Int))) = true then 1 else 0) = V.int (if i = k then 1 else 0) := by
  by_cases h : i = k
  · rw [if_pos h, decide_eq_true (by rw [h])]
    rfl
  · rw [if_neg h, decide_eq_false (fun e => h (by have := V.int.inj e; omega))]
    rfl
theorem ref_at {bs : List Addr} {i : Nat} {a : Addr} (h : bs[i]? = some a) : atI (bs.map V.ref) (i : Int) = some (.ref a) := atI_nat (by rw [List.getElem?_map, h]; rfl)
theorem getD_of {M : List (List Int)} {i : Nat} {l : List Int} (h : M[i]? = some l) : M.getD i [] = l := by
  rw [List.getD_eq_getElem?_getD, h]
  rfl
local macro_rules | `(tactic| walk_at "go") => `(tactic| repeat (first | (with_reducible first | refine iteT ?_ | refine iteF ?_ | refine iteNtt ?_ | refine iteNff ?_ | refine iteET (by omega) ?_ | refine iteEF (by omega) ?_ | refine iteENT (by omega) ?_ | refine iteENF (by omega) ?_ | refine iteDT (by omega) ?_ | refine iteDF (by omega) ?_ | refine iteNT (by omega) ?_ | refine iteNF (by omega) ?_) | refine ⟨_, rfl, ?_⟩ | refine ⟨_, _, rfl, rfl, ?_⟩ | refine ⟨_, _, rfl, ?_⟩ | refine ⟨rfl, ?_⟩ | refine .inl ⟨_, rfl, ?_⟩ | refine .inr ⟨_, rfl, ?_⟩))
local macro_rules | `(tactic| walk_at "b") => `(tactic| try dsimp (config := { proj := false, iota := false, eta := false, zeta := false }) only)
section
variable {P : Program} {w : World} {K : PySem.W.Frag} {mg : Str → Option Value} {base : Heap}
def sp_shifts_of (K : PySem.W.Frag) : Sp := fun vs H Q _ => ∃ (r : Addr) (us : List V) (ss : List Step), vs = [.ref r] ∧ H r = some (.lst us) ∧ AllV (RowV H) us ss ∧ ss.length ≤ 60 ∧ ∀ H', Same H H' → Q (.int (bitsS ss : Nat)) H'
theorem G_shifts_of (T : Top K mg) : FnOk P w K mg base CX0 1 T.f_shifts_of T.fd_shifts_of ["rows"] (sp_shifts_of K) := by
  refine T.F_shifts_of.ok sc_shifts_of (fun vs H Q E h => by obtain ⟨r, us, ss, rfl, _⟩ := h; rfl) (fun cdv A outer s H vs Q E hr h => ?_)
  obtain ⟨r, us, ss, rfl, hr0, hv, hl, q⟩ := h
  refine ⟨_, PSs.nox (pss_one (ps_ret (pe_callB (k_sum K rfl rfl) (by rfl) T.n_sum (by decide +kernel) (pa_cons (pe_lc (own := [("row", 1)]) (g := gName 1) (by rfl) sc_shifts_of.nd (k_piL K rfl (pv 0)) (blkOk_by (own := [("row", 1)]) (N := N_shifts_of) (sc := defScope s_shifts_of) (by decide +kernel)) (fun _ _ _ _ _ => (pg_name (i := 1) sc_shifts_of.nd rfl (by first | exact Or.inl rfl | exact Or.inr rfl))) (fun _ _ _ _ _ => (pts_one (pt_cmpR op_eq (pe_ix (k_ixT K rfl) (pv 1) pe_int (fun _ _ => rfl)) pe_str (nomark _)))) (fun _ _ _ _ _ => (pe_ix (k_ixT K rfl) (pv 1) pe_int (fun _ _ => rfl)))) pa_nil)))), ?_⟩
  have hvl := hv.len
  walk_at "go"
  refine ⟨⟨_, .inl (.inl hr0)⟩, fun D nD => ?_⟩
  refine lc_selL (K := K) (xs := us) (ss.map liftSh) nD (.inl (.inl hr0)) (by rw [List.length_map, hvl]) (small1000 (by omega)) (fun x => rfl) ?_ ?_
  · intro i y o H' hy ho s' Qt qt
    obtain ⟨s, hs, hys⟩ := hv.get hy
    rw [List.getElem?_map, hs] at ho
    cases ho
    have hys := hys.same s'
    walk_at "go"
    cases s with
    | turn i =>
      obtain ⟨t, rfl, ht⟩ := hys
      refine ⟨t, _, _, _, rfl, rfl, .inl (.inl ht), rfl, rfl, _, rfl, iteDF (by decide) ?_⟩
      exact qt _ (Same.refl _)
    | swap i j =>
      obtain ⟨t, rfl, ht⟩ := hys
      refine ⟨t, _, _, _, rfl, rfl, .inl (.inl ht), rfl, rfl, _, rfl, iteDF (by decide) ?_⟩
      exact qt _ (Same.refl _)
    | lift b ws sh =>
      obtain ⟨t, l, rfl, ht, _⟩ := hys
      refine ⟨t, _, _, _, rfl, rfl, .inl (.inl ht), rfl, rfl, _, rfl, iteDT rfl ?_⟩
      refine ⟨_, rfl, t, _, _, _, rfl, rfl, .inl (.inl ht), rfl, ?_⟩
      exact qt _ (Same.refl _)
  intro H1 s1 hD
  obtain ⟨ns, en, es⟩ := sum_sh ss
  rw [en] at hD
  refine ⟨D, ns, rfl, .inl (.inl hD), ?_⟩
  rw [es]
  exact q _ s1
def sp_law_bits (K : PySem.W.Frag) : Sp := fun vs H Q _ => ∃ (N : Addr → Prop) (p : Addr) (ss : List Step), vs = [.ref p] ∧ StepsAt N H p ss ∧ ss.length ≤ 60 ∧ ∀ H', Same H H' → Q (.int (bitsS ss : Nat)) H'
theorem G_law_bits (T : Top K mg) : FnOk P w K mg base CX0 1 T.f_law_bits T.fd_law_bits ["_law_steps_here"] (sp_law_bits K) := by
  refine T.F_law_bits.ok sc_law_bits (fun vs H Q E h => by obtain ⟨N, p, ss, rfl, _⟩ := h; rfl) (fun cdv A outer s H vs Q E hr h => ?_)
  obtain ⟨N, p, ss, rfl, hS, hl, q⟩ := h
  refine ⟨_, PSs.nox (pss_one (ps_ret (pe_callB (k_sum K rfl rfl) (by rfl) T.n_sum (by decide +kernel) (pa_cons (pe_lc (own := [("_law_step", 1)]) (g := gName 1) (by rfl) sc_law_bits.nd (k_piL K rfl (pv 0)) (blkOk_by (own := [("_law_step", 1)]) (N := N_law_bits) (sc := defScope s_law_bits) (by decide +kernel)) (fun _ _ _ _ _ => (pg_name (i := 1) sc_law_bits.nd rfl (by first | exact Or.inl rfl | exact Or.inr rfl))) (fun _ _ _ _ _ => (pts_one (pt_cmpR op_eq (pe_ix (k_ixT K rfl) (pv 1) pe_int (fun _ _ => rfl)) pe_str (nomark _)))) (fun _ _ _ _ _ => (pe_ix (k_ixT K rfl) (pv 1) pe_int (fun _ _ => rfl)))) pa_nil)))), ?_⟩
  obtain ⟨us, hp, hv⟩ := hS
  have hvl := hv.len
  walk_at "go"
  refine ⟨⟨_, .inl (.inl hp)⟩, fun D nD => ?_⟩
  refine lc_selL (K := K) (xs := us) (ss.map liftSh) nD (.inl (.inl hp)) (by rw [List.length_map, hvl]) (small1000 (by omega)) (fun x => rfl) ?_ ?_
  · intro i y o H' hy ho s' Qt qt
    obtain ⟨s, hs, hys⟩ := hv.get hy
    rw [List.getElem?_map, hs] at ho
    cases ho
    have hys := hys.same s'
    walk_at "go"
    cases s with
    | turn i =>
      obtain ⟨t, rfl, ht⟩ := hys
      refine ⟨t, _, _, _, rfl, rfl, .inl (.inl ht), rfl, rfl, _, rfl, iteDF (by decide) ?_⟩
      exact qt _ (Same.refl _)
    | swap i j =>
      obtain ⟨t, rfl, ht⟩ := hys
      refine ⟨t, _, _, _, rfl, rfl, .inl (.inl ht), rfl, rfl, _, rfl, iteDF (by decide) ?_⟩
      exact qt _ (Same.refl _)
    | lift b ws sh =>
      obtain ⟨t, l, rfl, ht, _⟩ := hys
      refine ⟨t, _, _, _, rfl, rfl, .inl (.inl ht), rfl, rfl, _, rfl, iteDT rfl ?_⟩
      refine ⟨_, rfl, t, _, _, _, rfl, rfl, .inl (.inl ht), rfl, ?_⟩
      exact qt _ (Same.refl _)
  intro H1 s1 hD
  obtain ⟨ns, en, es⟩ := sum_sh ss
  rw [en] at hD
  refine ⟨D, ns, rfl, .inl (.inl hD), ?_⟩
  rw [es]
  exact q _ s1
def sp_check_both (C : Addr) : Sp := fun vs H Q _ => ∃ (a r b r2 : Addr) (n : Nat) (ss ts : List Step), vs = [.ref a, .ref b] ∧ MixAt C H a r n ss ∧ MixAt C H b r2 n ts ∧ Q .non H
theorem G_check_both (T : Top K mg) : FnOk P w K mg base CX0 2 T.f_check_both T.fd_check_both ["one", "other"] (sp_check_both T.C_Mixer) := by
  refine T.F_check_both.ok sc_check_both (fun vs H Q E h => by obtain ⟨a, r, b, r2, n, ss, ts, rfl, _⟩ := h; rfl) (fun cdv A outer s H vs Q E hr h => ?_)
  obtain ⟨a, r, b, r2, n, ss, ts, rfl, hM, hM2, q⟩ := h
  refine ⟨_, PSs.nox (pss_cons (ps_expr (pe_call (G_check_mixer T) (hr.mono (by decide)) (by rfl) T.g_check_mixer T.F_check_mixer.kp T.b_check_mixer .nil pass0 (pa_cons (pv 0) pa_nil)))
  (pss_cons (ps_expr (pe_call (G_check_mixer T) (hr.mono (by decide)) (by rfl) T.g_check_mixer T.F_check_mixer.kp T.b_check_mixer .nil pass0 (pa_cons (pv 1) pa_nil)))
  (pss_one (ps_if (pt_cmpR op_ne (pe_fld (pv 0) rfl) (pe_fld (pv 1) rfl) (nomark _))
    (pss_one ps_never)
    pss_nil)))), ?_⟩
  walk_at "go"
  refine ⟨a, r, n, ss, rfl, hM, ?_⟩
  walk_at "go"
  refine ⟨b, r2, n, ts, rfl, hM2, ?_⟩
  obtain ⟨dx, us, ha, hr0, hv⟩ := hM
  obtain ⟨dy, vs, hb, hr2, hu⟩ := hM2
  walk_at "go"
  refine ⟨a, T.C_Mixer, dx, _, _, rfl, ha, T.cl_Mixer, T.na_Mixer_many, rfl, ?_⟩
  walk_at "go"
  refine ⟨b, T.C_Mixer, dy, _, _, rfl, hb, T.cl_Mixer, T.na_Mixer_many, rfl, rfl, _, rfl, iteENF rfl ?_⟩
  exact q
def sp_numbers_of (K : PySem.W.Frag) : Sp := fun vs H Q _ => ∃ (r : Addr) (us : List V) (n : Nat) (ss : List Step), vs = [.ref r, .int n] ∧ H r = some (.lst us) ∧ AllV (RowV H) us ss ∧ (∀ s ∈ ss, s.ok n) ∧ 1 ≤ n ∧ n ≤ 4 ∧ ss.length ≤ 60 ∧ ∀ H' D, Same H H' → RowsIn H' D (numF n ss) → Q (.ref D) H'
theorem G_numbers_of (T : Top K mg) : FnOk P w K mg base CX0 2 T.f_numbers_of T.fd_numbers_of ["rows", "wide"] (sp_numbers_of K) := by
  refine T.F_numbers_of.ok sc_numbers_of (fun vs H Q E h => by obtain ⟨r, us, n, ss, rfl, _⟩ := h; rfl) (fun cdv A outer s H vs Q E hr h => ?_)
  obtain ⟨r, us, n, ss, rfl, hr0, hv, hO, hn1, hn4, hl, q⟩ := h
  refine ⟨_, PSs.nox (pss_cons (ps_set (i := 2) sc_numbers_of.nd rfl (Or.inr rfl) (pe_lc (own := [("one", 4)]) (g := gName 4) (tt := tYes) (by rfl) sc_numbers_of.nd (pi_range1 (by rfl) T.n_range (pa_cons (pv 1) pa_nil)) (blkOk_by (own := [("one", 4)]) (N := N_numbers_of) (sc := defScope s_numbers_of) (by decide +kernel)) (fun _ _ _ _ _ => (pg_name (i := 4) sc_numbers_of.nd rfl (by first | exact Or.inl rfl | exact Or.inr rfl))) (fun _ _ _ _ _ => pts_nil) (fun _ _ _ _ _ => (pe_lc (own := [("other", 6)]) (g := gName 6) (tt := tYes) (by rfl) sc_numbers_of.nd (pi_range1 (by rfl) T.n_range (pa_cons (pv 1) pa_nil)) (blkOk_by (own := [("other", 6)]) (N := N_numbers_of) (by kernel_rfl)) (fun _ _ _ _ _ => (pg_name (i := 6) sc_numbers_of.nd rfl (by first | exact Or.inl rfl | exact Or.inr rfl))) (fun _ _ _ _ _ => pts_nil) (fun _ _ _ _ _ => (pe_callTy call_int1 (by rfl) T.n_int (by decide +kernel) (pa_cons (pe_cmpR op_eq (pv 4) (pv 6) (nomark _)) pa_nil)))))))
  (pss_cons (ps_for PassesOwn.never rfl (k_piL K rfl (pv 0)) (pg_name (i := 3) sc_numbers_of.nd rfl (by first | exact Or.inl rfl | exact Or.inr rfl))
    (pss_one (ps_if (pt_cmpR op_eq (pe_ix (k_ixT K rfl) (pv 3) pe_int (fun _ _ => rfl)) pe_str (nomark _))
    (pss_cons (ps_setLc (i := 5) (own := [("at", 7)]) (g := gName 7) (tt := tYes) (by rfl) sc_numbers_of.nd rfl rfl (sw_true rfl rfl rfl (by decide +kernel)) (pi_range1 (by rfl) T.n_range (pa_cons (pv 1) pa_nil)) (blkOk_by (own := [("at", 7)]) (N := N_numbers_of) (sc := defScope s_numbers_of) (by decide +kernel)) (fun _ _ _ _ _ => (pg_name (i := 7) sc_numbers_of.nd rfl (by first | exact Or.inl rfl | exact Or.inr rfl))) (fun _ _ _ _ _ => pts_nil) (fun _ _ _ _ _ => (pe_call (G_summed T) (hr.mono (by decide)) (by rfl) T.g_summed T.F_summed.kp T.b_summed .nil pass0 (pa_cons (pe_ix (k_ixT K rfl) (pv 3) pe_int (fun _ _ => rfl)) (pa_cons (pe_lc (own := [("line", 8)]) (g := gName 8) (tt := tYes) (by rfl) sc_numbers_of.nd (k_piL K rfl (pv 2)) (blkOk_by (own := [("line", 8)]) (N := N_numbers_of) (by kernel_rfl)) (fun _ _ _ _ _ => (pg_name (i := 8) sc_numbers_of.nd rfl (by first | exact Or.inl rfl | exact Or.inr rfl))) (fun _ _ _ _ _ => pts_nil) (fun _ _ _ _ _ => (pe_ix (k_ixL K rfl) (pv 8) (pv 7) (fun _ _ => rfl)))) pa_nil)))))
  (pss_cons (ps_set (i := 2) sc_numbers_of.nd rfl (Or.inr rfl) (pe_lc (own := [("line", 8)]) (g := gName 8) (tt := tYes) (by rfl) sc_numbers_of.nd (k_piL K rfl (pv 2)) (blkOk_by (own := [("line", 8)]) (N := N_numbers_of) (sc := defScope s_numbers_of) (by decide +kernel)) (fun _ _ _ _ _ => (pg_name (i := 8) sc_numbers_of.nd rfl (by first | exact Or.inl rfl | exact Or.inr rfl))) (fun _ _ _ _ _ => pts_nil) (fun _ _ _ _ _ => (pe_lc (own := [("number", 9)]) (g := gName 9) (tt := tYes) (by rfl) sc_numbers_of.nd (k_piL K rfl (pv 8)) (blkOk_by (own := [("number", 9)]) (N := N_numbers_of) (by kernel_rfl)) (fun _ _ _ _ _ => (pg_name (i := 9) sc_numbers_of.nd rfl (by first | exact Or.inl rfl | exact Or.inr rfl))) (fun _ _ _ _ _ => pts_nil) (fun _ _ _ _ _ => (pe_op op_shlW (pv 9) (pe_ix (k_ixT K rfl) (pv 3) pe_int (fun _ _ => rfl))))))))
  (pss_one (ps_asg (pe_lc (own := [("number", 9), ("other", 6)]) (g := gTup K 2 (gCons (gName 9) (gCons (gName 6) (gNil)))) (tt := tYes) (by rfl) sc_numbers_of.nd (k_piZL K rfl (by rfl) T.n_zip (pa_cons (pe_ix (k_ixL K rfl) (pv 2) (pe_ix (k_ixT K rfl) (pv 3) pe_int (fun _ _ => rfl)) (fun _ _ => rfl)) (pa_cons (pv 5) pa_nil)) (pk_cons pe_bl pk_nil)) (blkOk_by (own := [("number", 9), ("other", 6)]) (N := N_numbers_of) (sc := defScope s_numbers_of) (by decide +kernel)) (fun _ _ _ _ _ => (k_pgT K rfl (by rfl) (pgs_cons (pg_name (i := 9) sc_numbers_of.nd rfl (by first | exact Or.inl rfl | exact Or.inr rfl)) (pgs_cons (pg_name (i := 6) sc_numbers_of.nd rfl (by first | exact Or.inl rfl | exact Or.inr rfl)) pgs_nil)))) (fun _ _ _ _ _ => pts_nil) (fun _ _ _ _ _ => (pe_op op_add (pv 9) (pv 6)))) (pg_sub (pv 2) (pe_ix (k_ixT K rfl) (pv 3) pe_int (fun _ _ => rfl)) set_list)))))
    (pss_one (ps_if (pt_cmpR op_eq (pe_ix (k_ixT K rfl) (pv 3) pe_int (fun _ _ => rfl)) pe_str (nomark _))
    (pss_one (ps_asg (pe_lc (own := [("number", 9)]) (g := gName 9) (tt := tYes) (by rfl) sc_numbers_of.nd (k_piL K rfl (pe_ix (k_ixL K rfl) (pv 2) (pe_ix (k_ixT K rfl) (pv 3) pe_int (fun _ _ => rfl)) (fun _ _ => rfl))) (blkOk_by (own := [("number", 9)]) (N := N_numbers_of) (sc := defScope s_numbers_of) (by decide +kernel)) (fun _ _ _ _ _ => (pg_name (i := 9) sc_numbers_of.nd rfl (by first | exact Or.inl rfl | exact Or.inr rfl))) (fun _ _ _ _ _ => pts_nil) (fun _ _ _ _ _ => (pe_op op_sub pe_int (pv 9)))) (pg_sub (pv 2) (pe_ix (k_ixT K rfl) (pv 3) pe_int (fun _ _ => rfl)) set_list)))
    (pss_one (ps_asg (pe_tup (pa_cons (pe_ix (k_ixL K rfl) (pv 2) (pe_ix (k_ixT K rfl) (pv 3) pe_int (fun _ _ => rfl)) (fun _ _ => rfl)) (pa_cons (pe_ix (k_ixL K rfl) (pv 2) (pe_ix (k_ixT K rfl) (pv 3) pe_int (fun _ _ => rfl)) (fun _ _ => rfl)) pa_nil))) (k_pgT K rfl (by rfl) (pgs_cons (pg_sub (pv 2) (pe_ix (k_ixT K rfl) (pv 3) pe_int (fun _ _ => rfl)) set_list) (pgs_cons (pg_sub (pv 2) (pe_ix (k_ixT K rfl) (pv 3) pe_int (fun _ _ => rfl)) set_list) pgs_nil))))))))))
  (pss_one (ps_ret (pv 2))))), ?_⟩
  have hvl := hv.len
  walk_at "go"
  refine ⟨by omega, by omega, fun D nD => ?_⟩
  rw [Int.toNat_natCast]
  refine lc_rowsR (lo := 0) (n := n) (unitM n) nD (unit_sq n).1 (small1000 (by omega)) (fun x => rfl) ?_ ?_
  · intro i l H' hi hl' s Qt qt
    unfold unitM at hl'
    rw [List.getElem?_map, List.getElem?_range hi] at hl'
    cases hl'
    walk_at "go"
    refine ⟨by omega, by omega, fun D2 nD2 => ?_⟩
    rw [Int.toNat_natCast]
    refine lc_mapR (lo := 0) (n := n) (((List.range n).map fun j => if i = j then (1 : Int) else 0).map V.int) nD2 (by rw [List.length_map, List.length_map, List.length_range]) (small1000 (by omega)) (fun x => rfl) ?_ ?_
    · intro k y H2 hk hy s2 Qt2 qt2
      rw [List.getElem?_map, List.getElem?_map, List.getElem?_range hk] at hy
      cases hy
      walk_at "go"
      rw [unit_cell]
      exact qt2 _ (Same.refl _)
    · intro H2 s2 hD2
      exact qt D2 H2 s2 nD2 hD2
  · intro H1 as s1 hD hN
    walk_at "go"
    have hr1 := s1 _ _ hr0
    have lenM : ∀ k, Sq n ((ss.take k).foldl (fun M s => numS n s M) (unitM n)) := fun k => num_sq (fun s hs => hO s (List.take_subset _ _ hs)) (unit_sq n)
    refine ⟨⟨_, .inl (.inl hr1)⟩, for_list (K := K) (a := r) (xs := us) (fun k σ H2 => ∃ (v3 v5 : Option V) (D' : Addr) (as : List Addr), σ = [some (.ref r), some (.int n), some (.ref D'), v3, none, v5, none, none, none, none] ∧ Same H H2 ∧ H D' = none ∧ H2 D' = some (.lst (as.map V.ref)) ∧ NewRows H D' H2 as ((ss.take k).foldl (fun M s => numS n s M) (unitM n))) ⟨none, none, D, as, rfl, s1, nD, hD, hN⟩ (fun i σ H1 _ ⟨_, _, _, _, _, s, _⟩ => .inl (.inl (s _ _ hr0))) ?_ ?_⟩
    · rintro k v σ H2 hk ⟨v3, v5, D', bs, rfl, s2, nD', hD', hB⟩
      obtain ⟨s, hs, hvs⟩ := hv.get hk
      have hvs := hvs.same s2
      have ho := hO s (List.mem_of_getElem? hs)
      obtain ⟨hM1, hM2⟩ := lenM k
      have hbd := num_bd hn4 (ss := ss.take k) (fun s hs => hO s (List.take_subset _ _ hs)) (unit_sq n) (unit_bd n)
      have hkl : (ss.take k).length ≤ 60 := by rw [List.length_take]; omega
      generalize (ss.take k).length = kl at hbd hkl
      have ek : (ss.take (k + 1)).foldl (fun M s => numS n s M) (unitM n) = numS n s ((ss.take k).foldl (fun M s => numS n s M) (unitM n)) := by
        rw [take_snoc hs, List.foldl_append]
        rfl
      rw [ek]
      generalize (ss.take k).foldl (fun M s => numS n s M) (unitM n) = M at hB hM1 hM2 hbd
      clear ek
      walk_at "go"
      cases s with
      | turn b =>
        obtain ⟨t, rfl, ht⟩ := hvs
        have hT : SqT K H2 t [sT, .int b] := .inl (.inl ht)
        refine ⟨t, _, _, _, rfl, rfl, hT, rfl, rfl, _, rfl, iteDF (by decide) ?_⟩
        walk_at "go"
        refine ⟨t, _, _, _, rfl, rfl, hT, rfl, rfl, _, rfl, iteDT rfl ?_⟩
        walk_at "go"
        have hb : b < n := ho
        obtain ⟨a, l, ea, el, na, naD, ha⟩ := hB.get (i := b) (by omega)
        have eM : numS n (.turn b) M = M.set b (l.map fun x => 0 - x) := by
          show M.set b ((M.getD b []).map fun x => 0 - x) = _
          rw [getD_of el]
        rw [eM]
        refine ⟨t, _, _, _, rfl, rfl, hT, rfl, ?_⟩
        refine ⟨D', _, _, _, rfl, rfl, .inl (.inl hD'), ref_at ea, a, rfl, ⟨_, .inl (.inl ha)⟩, fun D3 nD3 => ?_⟩
        have ll : l.length = n := hM2 _ (List.mem_of_getElem? el)
        refine lc_mapL (K := K) (xs := l.map V.int) ((l.map fun x => 0 - x).map V.int) nD3 (.inl (.inl ha)) (by rw [List.length_map, List.length_map, List.length_map]) (by rw [List.length_map]; exact small1000 (by omega)) (fun x => rfl) ?_ ?_
        · intro i x y H' hx hy s Qt qt
          obtain ⟨m, hm, rfl⟩ := int_at hx
          rw [List.getElem?_map, List.getElem?_map, hm] at hy
          cases hy
          walk_at "go"
          exact qt _ (Same.refl _)
        · intro H3 s3 hD3
          walk_at "go"
          refine ⟨t, _, _, _, rfl, rfl, Same.tup s3 hT, rfl, ?_⟩
          have s03 := s2.trans s3
          refine ⟨D', _, _, b, rfl, rfl, s3 _ _ hD', ix_ok (by rw [List.length_map, hB.1]; omega), ?_⟩
          have D3D : D3 ≠ D' := (ne_of_none hD' nD3).symm
          refine ⟨_, _, D', bs.set b D3, rfl, same_over nD' s03, nD', by rw [upd_same, List.map_set], ?_⟩
          exact (((hB.but fun c o _ e => s3 _ _ e).set b (s2.free nD3) D3D hD3)).upd
      | swap b c =>
        obtain ⟨t, rfl, ht⟩ := hvs
        have hT : SqT K H2 t [sS, .int b, .int c] := .inl (.inl ht)
        refine ⟨t, _, _, _, rfl, rfl, hT, rfl, rfl, _, rfl, iteDF (by decide) ?_⟩
        walk_at "go"
        refine ⟨t, _, _, _, rfl, rfl, hT, rfl, rfl, _, rfl, iteDF (by decide) ?_⟩
        walk_at "go"
        obtain ⟨hb, hc, hbc⟩ := ho
        obtain ⟨a, l, ea, el, na, naD, ha⟩ := hB.get (i := b) (by omega)
        obtain ⟨a2, l2, ea2, el2, na2, naD2, ha2⟩ := hB.get (i := c) (by omega)
        have eM : numS n (.swap b c) M = (M.set b l2).set c l := by
          show (M.set b (M.getD c [])).set c (M.getD b []) = _
          rw [getD_of el, getD_of el2]
        rw [eM]
        refine ⟨t, _, _, _, rfl, rfl, hT, rfl, ?_⟩
        refine ⟨D', _, _, _, rfl, rfl, .inl (.inl hD'), ref_at ea2, ?_⟩
        walk_at "go"
        refine ⟨t, _, _, _, rfl, rfl, hT, rfl, ?_⟩
        refine ⟨D', _, _, _, rfl, rfl, .inl (.inl hD'), ref_at ea, ?_⟩
        refine ⟨(show 2 ≤ sizeLine by decide), fun tp ntp => ?_⟩
        obtain ⟨H3, e3, s3, h3⟩ := fresh (.tup [V.ref a2, V.ref a]) ntp
        rw [e3]
        refine ⟨tp, _, rfl, .inl (.inl h3), rfl, ?_⟩
        walk_at "go"
        have ht3 := s3 _ _ ht
        have hD3 := s3 _ _ hD'
        have tD : t ≠ D' := fun z => by rw [z, hD'] at ht; cases ht
        refine ⟨t, _, _, _, rfl, rfl, Same.tup s3 hT, rfl, ?_⟩
        refine ⟨D', _, _, b, rfl, rfl, hD3, ix_ok (by rw [List.length_map, hB.1]; omega), ?_⟩
        walk_at "go"
        refine ⟨t, _, _, _, rfl, rfl, .inl (.inl (by rw [upd_ne tD]; exact ht3)), rfl, ?_⟩
        refine ⟨D', _, _, c, rfl, rfl, upd_same, ix_ok (by rw [List.length_set, List.length_map, hB.1]; omega), rfl, ?_⟩
        have hB3 : NewRows H D' H3 bs M := hB.but fun c o _ e => s3 _ _ e
        refine ⟨_, _, D', (bs.set b a2).set c a, rfl, same_over nD' (same_over nD' (s2.trans s3)), nD', by rw [upd_same, List.map_set, List.map_set], ?_⟩
        exact ((hB3.set b na2 naD2 (s3 _ _ ha2)).upd.set c na naD (by rw [upd_ne naD]; exact s3 _ _ ha)).upd
      | lift b ws sh =>
        obtain ⟨t, lw, rfl, ht, hlw⟩ := hvs
        have hT : SqT K H2 t [sL, .int b, .ref lw, .int sh] := .inl (.inl ht)
        refine ⟨t, _, _, _, rfl, rfl, hT, rfl, rfl, _, rfl, iteDT rfl ?_⟩
        walk_at "go"
        obtain ⟨hb, hwl, hw0, hs15, hws⟩ := ho
        refine ⟨by omega, by omega, fun D3 nD3 => ?_⟩
        rw [Int.toNat_natCast]
        refine lc_mapR (lo := 0) (n := n) (((List.range n).map fun k => dotP ws (colM M k)).map V.int) nD3 (by rw [List.length_map, List.length_map, List.length_range]) (small1000 (by omega)) (fun x => rfl) ?_ ?_
        · intro i y H' hi hy s Qt qt
          rw [List.getElem?_map, List.getElem?_map, List.getElem?_range hi] at hy
          cases hy
          walk_at "go"
          refine ⟨t, _, _, _, rfl, rfl, Same.tup s hT, rfl, ?_⟩
          have hD3 := s _ _ hD'
          walk_at "go"
          refine ⟨⟨_, .inl (.inl hD3)⟩, fun D4 nD4 => ?_⟩
          refine lc_mapL (K := K) (xs := bs.map V.ref) ((colM M i).map V.int) nD4 (.inl (.inl hD3)) (by unfold colM; rw [List.length_map, List.length_map, List.length_map, hB.1]) (by rw [List.length_map, hB.1]; exact small1000 (by omega)) (fun x => rfl) ?_ ?_
          · intro q x y H4 hx hy s4 Qt4 qt4
            rw [List.getElem?_map] at hx
            obtain ⟨a, ea, rfl⟩ := Option.map_eq_some_iff.mp hx
            have hq : q < M.length := by rw [← hB.1]; exact (List.getElem?_eq_some_iff.mp ea).1
            obtain ⟨a', l, ea', el, na, naD, ha⟩ := hB.get hq
            rw [ea] at ea'
            cases ea'
            unfold colM at hy
            rw [List.getElem?_map, List.getElem?_map, el] at hy
            cases hy
            walk_at "go"
            refine ⟨a, _, _, _, rfl, rfl, .inl (.inl ((s.trans s4) _ _ ha)), by rw [Int.zero_add]; exact at_getD (by rw [hM2 l (List.mem_of_getElem? el)]; exact hi), ?_⟩
            exact qt4 _ (Same.refl _)
          · intro H4 s4 hD4
            walk_at "go"
            refine ⟨lw, D4, ws, colM M i, rfl, .inl (.inl (.inl ((s.trans s4) _ _ hlw))), .inl (.inl hD4), by unfold colM; rw [List.length_map, hM1, hwl], by omega, .inl hws, fun H5 s5 => ?_⟩
            exact qt _ (s4.trans s5)
        · intro H3 s3 hD3
          walk_at "go"
          have hD3' := s3 _ _ hD'
          refine ⟨⟨_, .inl (.inl hD3')⟩, fun D4 nD4 => ?_⟩
          refine lc_rowsL (K := K) (xs := bs.map V.ref) ((M.map fun l => l.map fun x => x * 2 ^ sh).map some) nD4 (.inl (.inl hD3')) (by rw [List.length_map, List.length_map, List.length_map, hB.1]) (by rw [List.length_map, hB.1]; exact small1000 (by omega)) ?_ ?_ ?_
          · exact fun x => rfl
          · intro q x o H4 hx ho s4 Qt qtn qt
            rw [List.getElem?_map] at hx
            obtain ⟨a, ea, rfl⟩ := Option.map_eq_some_iff.mp hx
            have hq : q < M.length := by rw [← hB.1]; exact (List.getElem?_eq_some_iff.mp ea).1
            obtain ⟨a', l, ea', el, na, naD, ha⟩ := hB.get hq
            rw [ea] at ea'
            cases ea'
            rw [List.getElem?_map, List.getElem?_map, el] at ho
            cases ho
            have ha4 := (s3.trans s4) _ _ ha
            refine iteT (B := True) ?_
            walk_at "go"
            refine ⟨⟨_, .inl (.inl ha4)⟩, fun D5 nD5 => ?_⟩
            have ll : l.length = n := hM2 _ (List.mem_of_getElem? el)
            walk_at "b"
            refine lc_mapL (K := K) (xs := l.map V.int) ((l.map fun x => x * 2 ^ sh).map V.int) nD5 (.inl (.inl ha4)) (by rw [List.length_map, List.length_map, List.length_map]) (by rw [List.length_map]; exact small1000 (by omega)) ?_ ?_ ?_
            · exact fun x => rfl
            · intro i x y H' hx hy s Qt2 qt2
              obtain ⟨m, hm, rfl⟩ := int_at hx
              rw [List.getElem?_map, List.getElem?_map, hm] at hy
              cases hy
              walk_at "go"
              refine ⟨t, _, _, _, rfl, rfl, Same.tup ((s3.trans s4).trans s) hT, rfl, ?_⟩
              refine ⟨_, _, rfl, rfl, shl_ok (hbd l (List.mem_of_getElem? el) m (List.mem_of_getElem? hm)) (by omega), ?_⟩
              walk_at "b"
              rw [Int.toNat_natCast]
              exact qt2 _ (Same.refl _)
            · intro H5 s5 hD5
              exact qt _ rfl D5 H5 s5 nD5 hD5
          · intro H4 cs s4 hD4 hN4
            rw [fm_some] at hN4
            have s34 := s3.trans s4
            have s04 := s2.trans s34
            have hN := hN4.older (s2.trans s3)
            have lM : (M.map fun l => l.map fun x => x * 2 ^ sh).length = n := by rw [List.length_map, hM1]
            obtain ⟨a, l, ea, el, na, naD, ha⟩ := hN.get (i := b) (by rw [lM]; exact hb)
            rw [List.getElem?_map] at el
            obtain ⟨l0, el0, rfl⟩ := Option.map_eq_some_iff.mp el
            have ll : l0.length = n := hM2 _ (List.mem_of_getElem? el0)
            have eM : numS n (.lift b ws sh) M = (M.map fun l => l.map fun x => x * 2 ^ sh).set b (List.zipWith (fun a b => a + b) (l0.map fun x => x * 2 ^ sh) ((List.range n).map fun k => dotP ws (colM M k))) := by
              show (M.map fun l => l.map fun x => x * 2 ^ sh).set b (List.zipWith (fun a b => a + b) ((M.getD b []).map fun x => x * 2 ^ sh) _) = _
              rw [getD_of el0]
            rw [eM]
            have hD34 := s4 _ _ hD3
            walk_at "go"
            refine ⟨t, _, _, _, rfl, rfl, Same.tup s34 hT, rfl, ?_⟩
            refine ⟨D4, _, _, _, rfl, rfl, .inl (.inl hD4), ref_at ea, ?_⟩
            walk_at "go"
            refine ⟨a, D3, _, _, rfl, .inl (.inl ha), .inl (.inl hD34), fun D5 nD5 => ?_⟩
            generalize eu : (l0.map fun x => x * 2 ^ sh) = u
            generalize ew : ((List.range n).map fun k => dotP ws (colM M k)) = v at hD3 hD34
            have lu : u.length = n := by rw [← eu, List.length_map, ll]
            have lv : v.length = n := by rw [← ew, List.length_map, List.length_range]
            have hzl : (List.zipWith (fun a b => a + b) u v).length = n := by rw [List.length_zipWith, lu, lv, Nat.min_self]
            rw [eu] at ha
            refine lc_dW (walk_zl (K := K) (a := a) (b := D3) (xs := u.map V.int) (ys := v.map V.int) (by rw [List.length_map, List.length_map, lu, lv])) (S := []) Has.nil ((List.zipWith (fun a b => a + b) u v).map fun x => some (PyData.int x)) nD5 (by rw [List.length_map, hzl, List.length_map, lu]) (by rw [List.length_map, lu]; exact small1000 (by omega)) (fun H' s => ⟨s.seq (.inl (.inl ha)), s.seq (.inl (.inl hD34))⟩) ?_ ?_
            · rintro j o H0 x H'' hj ho s0 hH ⟨T1, x1, y1, rfl, nT, rfl, e1, e2⟩ Qt qt
              have st := same_upd (o := .tup [x1, y1]) nT
              obtain ⟨n1, en1, rfl⟩ := int_at e1
              obtain ⟨n2, en2, rfl⟩ := int_at e2
              have eo : o = some (PyData.int (n1 + n2)) := by
                rw [List.getElem?_map, List.getElem?_zipWith, en1, en2] at ho
                exact (Option.some.inj ho).symm
              subst eo
              refine ⟨T1, _, rfl, .inl (.inl upd_same), rfl, ?_⟩
              generalize upd H0 T1 (.tup [V.int n1, V.int n2]) = H8 at st
              refine ⟨_, _, rfl, _, _, rfl, rfl, ⟨rfl, ?_⟩⟩
              walk_at "go"
              exact qt _ _ st (.int _)
            · intro H7 s7 _ dD
              have el : ((List.zipWith (fun a b => a + b) u v).map fun x => some (PyData.int x)).filterMap id = (List.zipWith (fun a b => a + b) u v).map PyData.int := sel_map _ _
              rw [el, rs_nil] at dD
              obtain ⟨_, e, hD5⟩ := Dt.intsE (ns := List.zipWith (fun a b => a + b) u v) dD
              cases e
              have ht7 := s7 _ _ (s34 _ _ ht)
              walk_at "go"
              refine ⟨t, _, _, _, rfl, rfl, .inl (.inl ht7), rfl, ?_⟩
              refine ⟨D4, _, _, b, rfl, rfl, s7 _ _ hD4, ix_ok (by rw [List.length_map, hN.1, lM]; exact hb), ?_⟩
              have D5D : D5 ≠ D4 := (ne_of_none hD4 nD5).symm
              have nD4H : H D4 = none := (s2.trans s3).free nD4
              refine ⟨_, _, D4, cs.set b D5, rfl, same_over nD4H (s04.trans s7), nD4H, by rw [upd_same, List.map_set], ?_⟩
              exact (((hN.but fun c o _ e => s7 _ _ e).set b (s04.free nD5) D5D hD5)).upd
    · rintro σ H2 ⟨v3, v5, D', bs, rfl, s2, nD', hD', hB⟩
      rw [hvl, List.take_length] at hB
      exact ⟨_, rfl, q _ D' s2 (hB.rows hD')⟩
end
end My

namespace My
open PySem PySem.Spec PyProof.Rows L2 Pre
theorem k_all {X : Cx} (K : PySem.W.Frag) (h : X.K = K) (hc : X.calm = true) : CallR X (.builtin "all") (rAll K) := by subst h; exact cr_all hc
/-- rows and the lists that hold them -/
def PrsL (H : Hp) (ps : List (Addr × List Int)) : Prop := ∀ q ∈ ps, H q.1 = some (.lst (q.2.map V.int))
theorem PrsL.same {H H' : Hp} {ps : List (Addr × List Int)} (h : PrsL H ps) (s : Same H H') : PrsL H' ps := fun q hq => s _ _ (h q hq)
def refsL (ps : List (Addr × List Int)) : List V := ps.map fun q => V.ref q.1
theorem refsL_at {ps : List (Addr × List Int)} {i : Nat} {x : V} (h : (refsL ps)[i]? = some x) : ∃ q, ps[i]? = some q ∧ q ∈ ps ∧ x = .ref q.1 := by
  unfold refsL at h
  rw [List.getElem?_map] at h
  obtain ⟨q, hq, rfl⟩ := Option.map_eq_some_iff.mp h
  exact ⟨q, hq, List.mem_of_getElem? hq, rfl⟩
theorem PrsL.rows {H : Hp} {p : Addr} {ps : List (Addr × List Int)} (h : PrsL H ps) (hp : H p = some (.lst (refsL ps))) : RowsIn H p (ps.map Prod.snd) := by
  refine ⟨ps.map Prod.fst, by rw [hp, List.map_map]; rfl, by rw [List.length_map, List.length_map], fun i a r ha hr => ?_⟩
  rw [List.getElem?_map] at ha hr
  obtain ⟨q, hq, rfl⟩ := Option.map_eq_some_iff.mp ha
  rw [hq] at hr
  cases hr
  exact h q (List.mem_of_getElem? hq)
theorem RowsIn.prs {H : Hp} {p : Addr} {rows : List (List Int)} (h : RowsIn H p rows) : ∃ ps, H p = some (.lst (refsL ps)) ∧ PrsL H ps ∧ ps.map Prod.snd = rows := by
  obtain ⟨as, h1, h2, h3⟩ := h
  refine ⟨as.zip rows, ?_, fun q hq => ?_, by rw [List.map_snd_zip (by omega)]⟩
  · rw [h1]
    unfold refsL
    rw [show (fun q : Addr × List Int => V.ref q.1) = V.ref ∘ Prod.fst from rfl, ← List.map_map, List.map_fst_zip (by omega)]
  · obtain ⟨i, hi, rfl⟩ := List.mem_iff_getElem.mp hq
    rw [List.length_zip] at hi
    rw [List.getElem_zip]
    exact h3 i _ _ (List.getElem?_eq_getElem (by omega)) (List.getElem?_eq_getElem (by omega))
theorem eq_emptyL {K : PySem.W.Frag} {H : Hp} {p q : Addr} {xs : List (List Int)} {Q : V → Hp → Prop} (hp : RowsIn H p xs) (hq : H q = some (.lst [])) (k : Q (.bl (decide (xs = []))) H) : rEqD K (.ref p) (.ref q) H Q := by
  obtain ⟨as, h1, h2, h3⟩ := hp
  refine ⟨.list (xs.map rowD), .list [], .lst (.inl (.inl h1)) (rows_dp h2 h3), .lst (.inl (.inl hq)) .nil, rows_shaped xs, rfl, ?_⟩
  have e : PyData.eqv (.list (xs.map rowD)) (.list []) = decide (xs = []) := by
    cases xs with
    | nil => rfl
    | cons x xs => rw [decide_eq_false (by simp)]; rfl
  rw [e]
  exact k
theorem eqv_rows : ∀ xs ys : List (List Int), PyData.eqvAll (xs.map rowD) (ys.map rowD) = decide (xs = ys)
  | [], [] => rfl
  | [], _ :: _ => by rw [decide_eq_false (by simp)]; rfl
  | _ :: _, [] => by rw [decide_eq_false (by simp)]; rfl
  | x :: xs, y :: ys => by
    show PyData.eqvAll (rowD x :: xs.map rowD) (rowD y :: ys.map rowD) = _
    rw [PyData.eqvAll, eqv_rows xs ys]
    unfold rowD
    rw [PyData.eqv, eqv_ints]
    by_cases h1 : x = y
    · by_cases h2 : xs = ys
      · rw [decide_eq_true h1, decide_eq_true h2, decide_eq_true (by rw [h1, h2])]
        rfl
      · rw [decide_eq_false h2, decide_eq_false (fun e => h2 (List.cons.inj e).2), Bool.and_false]
    · rw [decide_eq_false h1, decide_eq_false (fun e => h1 (List.cons.inj e).1), Bool.false_and]
theorem ne_rowsL {K : PySem.W.Frag} {H : Hp} {p q : Addr} {xs ys : List (List Int)} {Q : V → Hp → Prop} (hp : RowsIn H p xs) (hq : RowsIn H q ys) (k : Q (.bl (!decide (xs = ys))) H) : rNeD K (.ref p) (.ref q) H Q := by
  obtain ⟨as, h1, h2, h3⟩ := hp
  obtain ⟨bs, k1, k2, k3⟩ := hq
  refine ⟨.list (xs.map rowD), .list (ys.map rowD), .lst (.inl (.inl h1)) (rows_dp h2 h3), .lst (.inl (.inl k1)) (rows_dp k2 k3), rows_shaped xs, rows_shaped ys, ?_⟩
  rw [PyData.eqv, eqv_rows]
  exact k
theorem sel_refsL (Pd : List Int → Bool) : ∀ ps : List (Addr × List Int), (ps.map fun q => if Pd q.2 = true then some (V.ref q.1) else none).filterMap id = refsL (ps.filter fun q => Pd q.2)
  | [] => rfl
  | q :: ps => by
    have ih := sel_refsL Pd ps
    unfold refsL at ih ⊢
    by_cases c : Pd q.2 = true
    · rw [List.map_cons, if_pos c, List.filter_cons_of_pos (by exact c), List.map_cons, ← ih]
      rfl
    · rw [List.map_cons, if_neg c, List.filter_cons_of_neg (by exact c), ← ih]
      rfl
/-- a comprehension that takes some of the rows over -/
theorem lc_refsL {K : PySem.W.Frag} {a : Addr} {j : Nat} {tt : TT} {te : TE} {vs : List Nat} {σ : L2.St} {H1 : Hp} {D : Addr} {Qd : Hp → Prop} (ps : List (Addr × List Int)) (Pd : List Int → Bool) (nD : H1 D = none) (hS : SqL K H1 a (refsL ps)) (hz : ps.length < sizeLine)
    (hw : ∀ x, wipe ((wipe σ vs).set j (some x)) vs = wipe σ vs)
    (ht : ∀ q ∈ ps, ∀ H', Same H1 H' → ∀ Qb : Bool → Hp → Prop, (∀ H'', Same H' H'' → Qb (Pd q.2) H'') → tt ((wipe σ vs).set j (some (.ref q.1))) H' Qb)
    (he : ∀ q ∈ ps, ∀ H' (Qv : VK), Qv (.ref q.1) H' → te ((wipe σ vs).set j (some (.ref q.1))) H' Qv)
    (hd : ∀ H', Same H1 H' → H' D = some (.lst (refsL (ps.filter fun q => Pd q.2))) → Qd H') :
    ∃ W : Nat → Nat → Hp → Prop, (∃ m, W 0 m (upd H1 D (.lst []))) ∧ ∀ i m H, W i m H →
      ((Itl K a).stop i H ∧ Qd H) ∨ ((Itl K a).go i H ∧ ∃ Nx : Hp → Prop, (∀ H', Nx H' → ∃ m', m' < m ∧ W (i + 1) m' H') ∧ ∀ x H', (Itl K a).yld i H x H' → gName j x (wipe σ vs) H' fun σ2 H2 => wipe σ2 vs = wipe σ vs ∧ tt σ2 H2 fun b H3 =>
        if b = true then te σ2 H3 fun y H4 => ∃ acc, H4 D = some (.lst acc) ∧ acc.length < sizeLine ∧ Nx (upd H4 D (.lst (acc ++ [y]))) else Nx H3) := by
  refine lc_selL (K := K) (a := a) (xs := refsL ps) (tt := tt) (te := te) (ps.map fun q => if Pd q.2 = true then some (V.ref q.1) else none) nD hS (by simp [refsL]) (by simpa [refsL] using hz) hw ?_ (fun H' s hD => hd H' s (by rw [hD, sel_refsL]))
  intro i x o H' hx ho s Qt qt
  obtain ⟨q, hq, hm, rfl⟩ := refsL_at hx
  rw [List.getElem?_map, hq] at ho
  cases ho
  dsimp only [Option.map_some] at qt
  refine ht q hm H' s _ fun H2 s2 => ?_
  by_cases c : Pd q.2 = true
  · rw [if_pos c] at qt
    rw [if_pos c]
    exact he q hm H2 _ (qt H2 s2)
  · rw [if_neg c] at qt
    rw [if_neg c]
    exact qt H2 s2
theorem max_int {r : List Int} {m : Int} (h1 : m ∈ r.map fun v => ((v.natAbs : Nat) : Int)) (h2 : ∀ y ∈ r.map fun v => ((v.natAbs : Nat) : Int), y ≤ m) : m = (maxAbs r : Int) := by
  obtain ⟨v, hv, rfl⟩ := List.mem_map.mp h1
  have a := maxAbs_le hv
  have b : maxAbs r ≤ v.natAbs := maxAbs_bound fun w hw => by
    have := h2 _ (List.mem_map_of_mem hw)
    omega
  omega
theorem max_int2 {a b : Nat} : (if (b : Int) > (a : Int) then (b : Int) else (a : Int)) = ((max a b : Nat) : Int) := by
  split <;> omega
theorem pow_le_of {a b n k : Nat} (h : a ^ n ≤ b) (h1 : 1 ≤ a) (hk : k ≤ n) : a ^ k ≤ b := Nat.le_trans (Nat.pow_le_pow_right h1 hk) h
theorem rng_len (lo : Int) (n : Nat) : (rngI lo n).length = n := by simp [rngI]
local macro_rules | `(tactic| walk_at "go") => `(tactic| repeat (first | (with_reducible first | refine iteT ?_ | refine iteF ?_ | refine iteNtt ?_ | refine iteNff ?_ | refine iteET (by omega) ?_ | refine iteEF (by omega) ?_ | refine iteENT (by omega) ?_ | refine iteENF (by omega) ?_ | refine iteDT (by omega) ?_ | refine iteDF (by omega) ?_ | refine iteNT (by omega) ?_ | refine iteNF (by omega) ?_) | refine ⟨_, rfl, ?_⟩ | refine ⟨_, _, rfl, rfl, ?_⟩ | refine ⟨_, _, rfl, ?_⟩ | refine ⟨rfl, ?_⟩ | refine .inl ⟨_, rfl, ?_⟩ | refine .inr ⟨_, rfl, ?_⟩))
local macro_rules | `(tactic| walk_at "b") => `(tactic| try dsimp (config := { proj := false, iota := false, eta := false, zeta := false }) only)
section
variable {P : Program} {w : World} {K : PySem.W.Frag} {mg : Str → Option Value} {base : Heap}
def sp_every_rest (K : PySem.W.Frag) : Sp := fun vs H Q _ => ∃ (n b : Nat), vs = [.int n, .int b] ∧ n ≤ 4 ∧ b ≤ 15 ∧ (2 ^ b) ^ n ≤ 1000 ∧ ∀ H' D, Same H H' → RowsIn H' D (listsF (rngI 0 (2 ^ b)) n) → Q (.ref D) H'
theorem G_every_rest (T : Top K mg) : FnOk P w K mg base CX0 1 T.f_every_rest T.fd_every_rest ["wide", "bits"] (sp_every_rest K) := by
  refine T.F_every_rest.ok sc_every_rest (fun vs H Q E h => by obtain ⟨n, b, rfl, _⟩ := h; rfl) (fun cdv A outer s H vs Q E hr h => ?_)
  obtain ⟨n, b, rfl, hn4, hb, hpow, q⟩ := h
  refine ⟨_, PSs.nox (pss_cons (ps_set (i := 2) sc_every_rest.nd rfl (by first | exact Or.inl rfl | exact Or.inr rfl) (pe_lst (pa_cons (pe_lst pa_nil) pa_nil)))
  (pss_cons (ps_for PassesOwn.never rfl (pi_range1 (by rfl) T.n_range (pa_cons (pv 0) pa_nil)) (pg_name (i := 3) sc_every_rest.nd rfl (by first | exact Or.inl rfl | exact Or.inr rfl))
    (pss_one (ps_setLc2 (i := 2) (own := [("row", 4), ("number", 5)]) (vs1 := [5]) (g := gName 4) (g1 := gName 5) (tt := tYes) (tt1 := tYes) (by rfl) sc_every_rest.nd rfl rfl (sw_true rfl rfl rfl (by decide +kernel)) (k_piL K rfl (pv 2)) (blkOk_by (own := [("row", 4), ("number", 5)]) (N := N_every_rest) (sc := defScope s_every_rest) (by decide +kernel)) (by decide) (fun _ _ _ _ _ => (pg_name (i := 4) sc_every_rest.nd rfl (by first | exact Or.inl rfl | exact Or.inr rfl))) (fun _ _ _ _ _ => pts_nil) (fun _ _ _ _ _ => (pi_range1 (by rfl) T.n_range (pa_cons (pe_op op_shl pe_int (pv 1)) pa_nil))) (fun _ _ _ _ _ => (pg_name (i := 5) sc_every_rest.nd rfl (by first | exact Or.inl rfl | exact Or.inr rfl))) (fun _ _ _ _ _ => pts_nil) (fun _ _ _ _ _ => (pe_op op_cat (pv 4) (pe_lst (pa_cons (pv 5) pa_nil)))))))
  (pss_one (ps_ret (pv 2))))), ?_⟩
  have p1 : 1 ≤ 2 ^ b := Nat.two_pow_pos b
  walk_at "go"
  refine ⟨Nat.zero_le _, fun p0 np0 => ?_⟩
  obtain ⟨H1, e1, s1, h1⟩ := fresh (.lst []) np0
  rw [e1]
  walk_at "go"
  refine ⟨(show 1 ≤ sizeLine by decide), fun D nD => ?_⟩
  obtain ⟨H2, e2, s2, h2⟩ := fresh (.lst [V.ref p0]) nD
  rw [e2]
  walk_at "go"
  refine ⟨by omega, by omega, ?_⟩
  walk_at "b"
  refine for_range (lo := 0) (n := ((n : Int)).toNat) (fun i σ H3 => ∃ (v3 : Option V) (D : Addr), σ = [some (.int n), some (.int b), some (.ref D), v3, none, none] ∧ Same H H3 ∧ RowsIn H3 D (listsF (rngI 0 (2 ^ b)) i)) ⟨none, D, rfl, s1.trans s2, [p0], h2, rfl, fun i a r ha hr => ?_⟩ ?_ ?_
  · cases i with
    | zero =>
      cases ha
      cases hr
      exact s2 _ _ h1
    | succ i => cases ha
  · rintro i σ H3 hi ⟨v3, D', rfl, s3, hR⟩
    rw [Int.toNat_natCast] at hi
    obtain ⟨as, hD', hl, hr⟩ := hR
    have hlen : (listsF (rngI 0 (2 ^ b)) i).length * 2 ^ b ≤ 1000 := by
      rw [len_listsF, rng_len, ← Nat.pow_succ]
      exact pow_le_of hpow p1 hi
    walk_at "go"
    refine ⟨⟨_, .inl (.inl hD')⟩, fun D2 nD2 => ?_⟩
    refine lc2_rows (K := K) (a := D') (rows := listsF (rngI 0 (2 ^ b)) i) (n := 2 ^ b) (lo := 0) as nD2 (.inl (.inl hD')) hl hr (small1000 hlen) (fun x => rfl) (fun x y => rfl) ?_ ?_ ?_
    · intro x H' R hR
      walk_at "go"
      refine ⟨⟨by omega, by omega, by decide⟩, ?_⟩
      walk_at "b"
      have e2 : (1 : Int) * 2 ^ ((b : Int)).toNat = ((2 ^ b : Nat) : Int) := by rw [Int.one_mul, Int.toNat_natCast, Int.natCast_pow]; rfl
      have h15 : 2 ^ b ≤ 2 ^ 15 := Nat.pow_le_pow_right (by decide) hb
      rw [e2]
      walk_at "go"
      refine ⟨by omega, by omega, ?_⟩
      rw [Int.toNat_natCast]
      exact hR
    · intro k c r H' hk hc hm Qt qt
      have lr := (mem_listsF.mp hm).1
      walk_at "go"
      refine ⟨(show 1 ≤ sizeLine by decide), fun L nL => ?_⟩
      obtain ⟨H4, e4, s4, h4⟩ := fresh (.lst [V.int (0 + (k : Int))]) nL
      rw [e4]
      refine ⟨c, L, _, _, rfl, rfl, s4 _ _ hc, h4, Nat.le_of_lt (small1000 (by rw [List.length_map]; show r.length + 1 ≤ 1000; omega)), fun Z nZ => ?_⟩
      refine qt Z _ (s4.trans (same_upd nZ)) (s4.free nZ) ?_
      rw [upd_same, List.map_append]
      rfl
    · intro H4 bs s4 hD2 hN
      exact ⟨_, D2, rfl, s3.trans s4, hN.rows hD2⟩
  · rintro σ H3 ⟨v3, D', rfl, s3, hR⟩
    rw [Int.toNat_natCast] at hR
    exact ⟨_, rfl, q _ _ s3 hR⟩
def sp_are_alike (C : Addr) (K : PySem.W.Frag) : Sp := fun vs H Q _ => ∃ (a r b r2 : Addr) (n : Nat) (ss ts : List Step), vs = [.ref a, .ref b] ∧ MixAt C H a r n ss ∧ MixAt C H b r2 n ts ∧ (∀ s ∈ ss, s.ok n) ∧ (∀ s ∈ ts, s.ok n) ∧ 1 ≤ n ∧ n ≤ 4 ∧ ss.length ≤ 60 ∧ ts.length ≤ 60 ∧ max (bitsS ss) (bitsS ts) ≤ 15 ∧ (2 ^ max (bitsS ss) (bitsS ts)) ^ n ≤ 1000 ∧
  ∀ H', Same H H' → Q (.bl (alikeF n ss ts)) H'
theorem G_are_alike (T : Top K mg) : FnOk P w K mg base CX0 4 T.f_are_alike T.fd_are_alike ["one", "other"] (sp_are_alike T.C_Mixer K) := by
  refine T.F_are_alike.ok sc_are_alike (fun vs H Q E h => by obtain ⟨a, r, b, r2, n, ss, ts, rfl, _⟩ := h; rfl) (fun cdv A outer s H vs Q E hr h => ?_)
  obtain ⟨a, r, b, r2, n, ss, ts, rfl, hM, hM2, hO, hO2, hn1, hn4, hl, hl2, hm, hpow, q⟩ := h
  refine ⟨_, PSs.nox (pss_cons (ps_asg (pe_tup (pa_cons (pe_fld (pv 0) rfl) (pa_cons (pe_fld (pv 1) rfl) (pa_cons (pe_fld (pv 0) rfl) pa_nil)))) (k_pgT K rfl (by rfl) (pgs_cons (pg_name (i := 3) sc_are_alike.nd rfl (by first | exact Or.inl rfl | exact Or.inr rfl)) (pgs_cons (pg_name (i := 4) sc_are_alike.nd rfl (by first | exact Or.inl rfl | exact Or.inr rfl)) (pgs_cons (pg_name (i := 5) sc_are_alike.nd rfl (by first | exact Or.inl rfl | exact Or.inr rfl)) pgs_nil)))))
  (pss_cons (ps_asg (pe_tup (pa_cons (pe_call (G_shifts_of T) (hr.mono (by decide)) (by rfl) T.g_shifts_of T.F_shifts_of.kp T.b_shifts_of .nil pass0 (pa_cons (pv 3) pa_nil)) (pa_cons (pe_call (G_shifts_of T) (hr.mono (by decide)) (by rfl) T.g_shifts_of T.F_shifts_of.kp T.b_shifts_of .nil pass0 (pa_cons (pv 4) pa_nil)) pa_nil))) (k_pgT K rfl (by rfl) (pgs_cons (pg_name (i := 6) sc_are_alike.nd rfl (by first | exact Or.inl rfl | exact Or.inr rfl)) (pgs_cons (pg_name (i := 7) sc_are_alike.nd rfl (by first | exact Or.inl rfl | exact Or.inr rfl)) pgs_nil))))
  (pss_cons (ps_setLc (i := 2) (own := [("line", 8)]) (g := gName 8) (tt := tYes) (by rfl) sc_are_alike.nd rfl rfl (sw_true rfl rfl rfl (by decide +kernel)) (k_piL K rfl (pe_call (G_numbers_of T) (hr.mono (by decide)) (by rfl) T.g_numbers_of T.F_numbers_of.kp T.b_numbers_of .nil pass0 (pa_cons (pv 3) (pa_cons (pv 5) pa_nil)))) (blkOk_by (own := [("line", 8)]) (N := N_are_alike) (sc := defScope s_are_alike) (by decide +kernel)) (fun _ _ _ _ _ => (pg_name (i := 8) sc_are_alike.nd rfl (by first | exact Or.inl rfl | exact Or.inr rfl))) (fun _ _ _ _ _ => pts_nil) (fun _ _ _ _ _ => (pe_lc (own := [("number", 9)]) (g := gName 9) (tt := tYes) (by rfl) sc_are_alike.nd (k_piL K rfl (pv 8)) (blkOk_by (own := [("number", 9)]) (N := N_are_alike) (by kernel_rfl)) (fun _ _ _ _ _ => (pg_name (i := 9) sc_are_alike.nd rfl (by first | exact Or.inl rfl | exact Or.inr rfl))) (fun _ _ _ _ _ => pts_nil) (fun _ _ _ _ _ => (pe_op op_shlW (pv 9) (pv 7))))))
  (pss_cons (ps_if (pt_cmpR (k_neD K rfl hr.units) (pv 2) (pe_lc (own := [("line", 8)]) (g := gName 8) (tt := tYes) (by rfl) sc_are_alike.nd (k_piL K rfl (pe_call (G_numbers_of T) (hr.mono (by decide)) (by rfl) T.g_numbers_of T.F_numbers_of.kp T.b_numbers_of .nil pass0 (pa_cons (pv 4) (pa_cons (pv 5) pa_nil)))) (blkOk_by (own := [("line", 8)]) (N := N_are_alike) (sc := defScope s_are_alike) (by decide +kernel)) (fun _ _ _ _ _ => (pg_name (i := 8) sc_are_alike.nd rfl (by first | exact Or.inl rfl | exact Or.inr rfl))) (fun _ _ _ _ _ => pts_nil) (fun _ _ _ _ _ => (pe_lc (own := [("number", 9)]) (g := gName 9) (tt := tYes) (by rfl) sc_are_alike.nd (k_piL K rfl (pv 8)) (blkOk_by (own := [("number", 9)]) (N := N_are_alike) (by kernel_rfl)) (fun _ _ _ _ _ => (pg_name (i := 9) sc_are_alike.nd rfl (by first | exact Or.inl rfl | exact Or.inr rfl))) (fun _ _ _ _ _ => pts_nil) (fun _ _ _ _ _ => (pe_op op_shlW (pv 9) (pv 6)))))) (nomark _))
    (pss_one (ps_ret pe_bl))
    pss_nil)
  (pss_one (ps_ret (pe_callB (k_all K rfl rfl) (by rfl) T.n_all (by decide +kernel) (pa_cons (pe_lc (own := [("row", 10)]) (g := gName 10) (tt := tYes) (by rfl) sc_are_alike.nd (k_piL K rfl (pe_call (G_every_rest T) (hr.mono (by decide)) (by rfl) T.g_every_rest T.F_every_rest.kp T.b_every_rest .nil pass0 (pa_cons (pv 5) (pa_cons (pe_callB (call_max2 rfl) (by rfl) T.n_max (by decide +kernel) (pa_cons (pv 6) (pa_cons (pv 7) pa_nil))) pa_nil)))) (blkOk_by (own := [("row", 10)]) (N := N_are_alike) (sc := defScope s_are_alike) (by decide +kernel)) (fun _ _ _ _ _ => (pg_name (i := 10) sc_are_alike.nd rfl (by first | exact Or.inl rfl | exact Or.inr rfl))) (fun _ _ _ _ _ => pts_nil) (fun _ _ _ _ _ => (pe_cmpR (k_eqD K rfl hr.units) (pe_call (G_played T) (hr.mono (by decide)) (by rfl) T.g_played T.F_played.kp T.b_played .nil pass0 (pa_cons (pv 3) (pa_cons (pv 10) pa_nil))) (pe_call (G_played T) (hr.mono (by decide)) (by rfl) T.g_played T.F_played.kp T.b_played .nil pass0 (pa_cons (pv 4) (pa_cons (pv 10) pa_nil))) (nomark _)))) pa_nil)))))))), ?_⟩
  obtain ⟨dx, us, ha, hr0, hv⟩ := hM
  obtain ⟨dy, ws, hb, hr2, hu⟩ := hM2
  walk_at "go"
  refine ⟨a, T.C_Mixer, dx, _, _, rfl, ha, T.cl_Mixer, T.na_Mixer_rows, rfl, ?_⟩
  walk_at "go"
  refine ⟨b, T.C_Mixer, dy, _, _, rfl, hb, T.cl_Mixer, T.na_Mixer_rows, rfl, ?_⟩
  walk_at "go"
  refine ⟨a, T.C_Mixer, dx, _, _, rfl, ha, T.cl_Mixer, T.na_Mixer_many, rfl, ?_⟩
  refine ⟨(show 3 ≤ sizeLine by decide), fun t1 nt1 => ?_⟩
  obtain ⟨H1, e1, s1, h1⟩ := fresh (.tup [V.ref r, V.ref r2, V.int n]) nt1
  rw [e1]
  refine ⟨t1, _, rfl, .inl (.inl h1), rfl, ?_⟩
  walk_at "go"
  refine ⟨r, us, ss, rfl, s1 _ _ hr0, hv.imp fun v s => RowV.same s1, hl, fun H2 s2 => ?_⟩
  have s02 := s1.trans s2
  walk_at "go"
  refine ⟨r2, ws, ts, rfl, s02 _ _ hr2, hu.imp fun v s => RowV.same s02, hl2, fun H3 s3 => ?_⟩
  have s03 := s02.trans s3
  refine ⟨(show 2 ≤ sizeLine by decide), fun t2 nt2 => ?_⟩
  obtain ⟨H4, e4, s4, h4⟩ := fresh (.tup [V.int (bitsS ss : Nat), V.int (bitsS ts : Nat)]) nt2
  rw [e4]
  have s04 := s03.trans s4
  refine ⟨t2, _, rfl, .inl (.inl h4), rfl, ?_⟩
  walk_at "go"
  refine ⟨r, us, n, ss, rfl, s04 _ _ hr0, hv.imp fun v s => RowV.same s04, hO, hn1, hn4, hl, fun H5 p5 s5 hR5 => ?_⟩
  have s05 := s04.trans s5
  obtain ⟨as5, hp5, hl5, hr5⟩ := hR5
  walk_at "go"
  refine ⟨⟨_, .inl (.inl hp5)⟩, fun D5 nD5 => ?_⟩
  have sq5 := num_len (n := n) hO
  have bd5 := num_bd hn4 hO (unit_sq n) (unit_bd n)
  refine lc_rowsL (K := K) (xs := as5.map V.ref) ((linesF (bitsS ts) (numF n ss)).map some) nD5 (.inl (.inl hp5)) (by unfold linesF; rw [List.length_map, List.length_map, List.length_map, hl5]) (by rw [List.length_map, hl5, sq5.1]; exact small1000 (by omega)) (fun x => rfl) ?_ ?_
  · intro q x o H6 hx ho s6 Qt qtn qt
    rw [List.getElem?_map] at hx
    obtain ⟨c, ec, rfl⟩ := Option.map_eq_some_iff.mp hx
    have hq : q < (numF n ss).length := by rw [← hl5]; exact (List.getElem?_eq_some_iff.mp ec).1
    have el : (numF n ss)[q]? = some (numF n ss)[q] := List.getElem?_eq_getElem hq
    have hc6 := s6 _ _ (hr5 q c _ ec el)
    have lm := List.mem_of_getElem? el
    generalize (numF n ss)[q] = l at el hc6 lm
    unfold linesF at ho
    rw [List.getElem?_map, List.getElem?_map, el] at ho
    cases ho
    have ll : l.length = n := sq5.2 _ lm
    refine iteT (B := True) ?_
    walk_at "go"
    refine ⟨⟨_, .inl (.inl hc6)⟩, fun D7 nD7 => ?_⟩
    walk_at "b"
    refine lc_mapL (K := K) (xs := l.map V.int) ((l.map fun x => x * 2 ^ (bitsS ts)).map V.int) nD7 (.inl (.inl hc6)) (by rw [List.length_map, List.length_map, List.length_map]) (by rw [List.length_map]; exact small1000 (by omega)) ?_ ?_ ?_
    · exact fun x => rfl
    · intro i x y H' hx hy s Qt2 qt2
      obtain ⟨m, hm, rfl⟩ := int_at hx
      rw [List.getElem?_map, List.getElem?_map, hm] at hy
      cases hy
      walk_at "go"
      refine ⟨shl_ok (bd5 l lm m (List.mem_of_getElem? hm)) (by omega), ?_⟩
      walk_at "b"
      rw [Int.toNat_natCast]
      exact qt2 _ (Same.refl _)
    · intro H7 s7 hD7
      exact qt _ rfl D7 H7 s7 nD7 hD7
  intro H8 cs5 s8 hD5 hN5
  rw [fm_some] at hN5
  have s08 := s05.trans s8
  walk_at "go"
  refine ⟨r2, ws, n, ts, rfl, s08 _ _ hr2, hu.imp fun v s => RowV.same s08, hO2, hn1, hn4, hl2, fun H9 p9 s9 hR9 => ?_⟩
  have s09 := s08.trans s9
  obtain ⟨as9, hp9, hl9, hr9⟩ := hR9
  walk_at "go"
  refine ⟨⟨_, .inl (.inl hp9)⟩, fun D9 nD9 => ?_⟩
  have sq9 := num_len (n := n) hO2
  have bd9 := num_bd hn4 hO2 (unit_sq n) (unit_bd n)
  refine lc_rowsL (K := K) (xs := as9.map V.ref) ((linesF (bitsS ss) (numF n ts)).map some) nD9 (.inl (.inl hp9)) (by unfold linesF; rw [List.length_map, List.length_map, List.length_map, hl9]) (by rw [List.length_map, hl9, sq9.1]; exact small1000 (by omega)) (fun x => rfl) ?_ ?_
  · intro q x o H6 hx ho s6 Qt qtn qt
    rw [List.getElem?_map] at hx
    obtain ⟨c, ec, rfl⟩ := Option.map_eq_some_iff.mp hx
    have hq : q < (numF n ts).length := by rw [← hl9]; exact (List.getElem?_eq_some_iff.mp ec).1
    have el : (numF n ts)[q]? = some (numF n ts)[q] := List.getElem?_eq_getElem hq
    have hc6 := s6 _ _ (hr9 q c _ ec el)
    have lm := List.mem_of_getElem? el
    generalize (numF n ts)[q] = l at el hc6 lm
    unfold linesF at ho
    rw [List.getElem?_map, List.getElem?_map, el] at ho
    cases ho
    have ll : l.length = n := sq9.2 _ lm
    refine iteT (B := True) ?_
    walk_at "go"
    refine ⟨⟨_, .inl (.inl hc6)⟩, fun D7 nD7 => ?_⟩
    walk_at "b"
    refine lc_mapL (K := K) (xs := l.map V.int) ((l.map fun x => x * 2 ^ (bitsS ss)).map V.int) nD7 (.inl (.inl hc6)) (by rw [List.length_map, List.length_map, List.length_map]) (by rw [List.length_map]; exact small1000 (by omega)) ?_ ?_ ?_
    · exact fun x => rfl
    · intro i x y H' hx hy s Qt2 qt2
      obtain ⟨m, hm, rfl⟩ := int_at hx
      rw [List.getElem?_map, List.getElem?_map, hm] at hy
      cases hy
      walk_at "go"
      refine ⟨shl_ok (bd9 l lm m (List.mem_of_getElem? hm)) (by omega), ?_⟩
      walk_at "b"
      rw [Int.toNat_natCast]
      exact qt2 _ (Same.refl _)
    · intro H7 s7 hD7
      exact qt _ rfl D7 H7 s7 nD7 hD7
  intro H10 cs9 s10 hD9 hN9
  rw [fm_some] at hN9
  have s010 := s09.trans s10
  have hR5' := (hN5.rows hD5).same (s9.trans s10)
  refine ne_rowsL hR5' (hN9.rows hD9) ?_
  refine ⟨_, rfl, ?_⟩
  by_cases el : linesF (bitsS ts) (numF n ss) = linesF (bitsS ss) (numF n ts)
  · refine iteNF el ?_
    have ea : alikeF n ss ts = sameOn ss ts (listsF (rngI 0 (2 ^ max (bitsS ss) (bitsS ts))) n) := by
      unfold alikeF
      rw [decide_eq_true el, Bool.true_and]
    rw [ea] at q
    walk_at "go"
    refine ⟨n, max (bitsS ss) (bitsS ts), ?_, hn4, hm, hpow, fun H11 p11 s11 hR11 => ?_⟩
    · rw [max_int2]
      rfl
    obtain ⟨ps, hp11, hps, eps⟩ := hR11.prs
    have s011 := s010.trans s11
    have mem : ∀ c ∈ ps, c.2.length = n := fun c hc => (mem_listsF.mp (by rw [← eps]; exact List.mem_map_of_mem hc)).1
    have lps : ps.length ≤ 1000 := by
      have e := congrArg List.length eps
      rw [List.length_map, len_listsF, rng_len] at e
      omega
    walk_at "go"
    refine ⟨⟨_, .inl (.inl hp11)⟩, fun D12 nD12 => ?_⟩
    refine lc_mapL (K := K) (xs := refsL ps) ((ps.map fun c => decide (playF ss c.2 = playF ts c.2)).map V.bl) nD12 (.inl (.inl hp11)) (by unfold refsL; rw [List.length_map, List.length_map, List.length_map]) (by unfold refsL; rw [List.length_map]; exact small1000 lps) (fun x => rfl) ?_ ?_
    · intro i x y H' hx hy s' Qt qt
      obtain ⟨c, hc, hcm, rfl⟩ := refsL_at hx
      rw [List.getElem?_map, List.getElem?_map, hc] at hy
      cases hy
      have lc := mem c hcm
      have s0 := s011.trans s'
      have hcc := s' _ _ (hps c hcm)
      walk_at "go"
      refine ⟨r, c.1, us, ss, c.2, rfl, s0 _ _ hr0, hv.imp fun v s => RowV.same s0, hcc, by rw [lc]; exact hO, by omega, fun H13 p13 s13 h13 => ?_⟩
      walk_at "go"
      have s013 := s0.trans s13
      refine ⟨r2, c.1, ws, ts, c.2, rfl, s013 _ _ hr2, hu.imp fun v s => RowV.same s013, s13 _ _ hcc, by rw [lc]; exact hO2, by omega, fun H14 p14 s14 h14 => ?_⟩
      refine eqD_lst (.inl (.inl (s14 _ _ h13))) (.inl (.inl h14)) ?_
      exact qt _ (s13.trans s14)
    · intro H12 s12 hD12
      walk_at "go"
      refine ⟨D12, _, rfl, .inl (.inl hD12), ?_⟩
      have e : (ps.map fun c => decide (playF ss c.2 = playF ts c.2)).all id = sameOn ss ts (listsF (rngI 0 (2 ^ max (bitsS ss) (bitsS ts))) n) := by
        rw [← eps]
        unfold sameOn
        rw [List.all_map, List.all_map]
        rfl
      rw [e]
      exact q _ (s011.trans s12)
  · have ea : alikeF n ss ts = false := by
      unfold alikeF
      rw [decide_eq_false el, Bool.false_and]
    rw [ea] at q
    refine iteNT el ?_
    exact q _ s010
def sp_same_mix (C : Addr) (K : PySem.W.Frag) : Sp := fun vs H Q _ => ∃ (a r b r2 : Addr) (n : Nat) (ss ts : List Step), vs = [.ref a, .ref b] ∧ MixAt C H a r n ss ∧ MixAt C H b r2 n ts ∧ (∀ s ∈ ss, s.ok n) ∧ (∀ s ∈ ts, s.ok n) ∧ 1 ≤ n ∧ n ≤ 4 ∧ ss.length ≤ 60 ∧ ts.length ≤ 60 ∧ max (bitsS ss) (bitsS ts) ≤ 15 ∧ (2 ^ max (bitsS ss) (bitsS ts)) ^ n ≤ 1000 ∧
  ∀ H', Same H H' → Q (.bl (alikeF n ss ts)) H'
theorem G_same_mix (T : Top K mg) : FnOk P w K mg base CX0 5 T.f_same_mix T.fd_same_mix ["one", "other"] (sp_same_mix T.C_Mixer K) := by
  refine T.F_same_mix.ok sc_same_mix (fun vs H Q E h => by obtain ⟨a, r, b, r2, n, ss, ts, rfl, _⟩ := h; rfl) (fun cdv A outer s H vs Q E hr h => ?_)
  obtain ⟨a, r, b, r2, n, ss, ts, rfl, hM, hM2, hO, hO2, hn1, hn4, hl, hl2, hm, hpow, q⟩ := h
  refine ⟨_, PSs.nox (pss_cons (ps_expr (pe_call (G_check_both T) (hr.mono (by decide)) (by rfl) T.g_check_both T.F_check_both.kp T.b_check_both .nil pass0 (pa_cons (pv 0) (pa_cons (pv 1) pa_nil))))
  (pss_one (ps_ret (pe_call (G_are_alike T) (hr.mono (by decide)) (by rfl) T.g_are_alike T.F_are_alike.kp T.b_are_alike .nil pass0 (pa_cons (pv 0) (pa_cons (pv 1) pa_nil)))))), ?_⟩
  walk_at "go"
  refine ⟨a, r, b, r2, n, ss, ts, rfl, hM, hM2, ?_⟩
  walk_at "go"
  exact ⟨a, r, b, r2, n, ss, ts, rfl, hM, hM2, hO, hO2, hn1, hn4, hl, hl2, hm, hpow, q⟩
end
end My

namespace My
open PySem PySem.Spec PyProof.Rows L2 Pre
theorem find_first {α : Type} {l1 l2 : List α} {x : α} {p : α → Bool} (h1 : ∀ y ∈ l1, p y = false) (h2 : p x = true) : (l1 ++ x :: l2).find? p = some x := by
  rw [List.find?_append, List.find?_eq_none.mpr (fun y hy => by rw [h1 y hy]; decide), List.find?_cons, h2]
  rfl
theorem take_more {α : Type} {l : List α} {i : Nat} {x : α} (h : l[i]? = some x) : l = l.take i ++ x :: l.drop (i + 1) := by
  have hi := (List.getElem?_eq_some_iff.mp h)
  obtain ⟨hi, e⟩ := hi
  rw [← e, ← List.drop_eq_getElem_cons hi, List.take_append_drop]
theorem shl_one (b : Nat) : (1 : Int) * 2 ^ ((b : Int)).toNat = ((2 ^ b : Nat) : Int) := by rw [Int.one_mul, Int.toNat_natCast, Int.natCast_pow]; rfl
theorem abs_nat (v : Int) : (if v < 0 then -v else v) = ((v.natAbs : Nat) : Int) := by split <;> omega
theorem dec_nat (a b : Nat) : decide (V.int (a : Int) = V.int (b : Int)) = decide (a = b) := decide_eq_decide.mpr ⟨fun e => by have := V.int.inj e; omega, fun e => by rw [e]⟩
/-- rows one behind another -/
theorem RowsIn.cat {H : Hp} {xs ys : List (List Int)} {as bs : List Addr} (hp : as.length = xs.length ∧ ∀ (i : Nat) (a : Addr) (r : List Int), as[i]? = some a → xs[i]? = some r → H a = some (.lst (r.map V.int))) (hq : bs.length = ys.length ∧ ∀ (i : Nat) (a : Addr) (r : List Int), bs[i]? = some a → ys[i]? = some r → H a = some (.lst (r.map V.int))) :
    (as ++ bs).length = (xs ++ ys).length ∧ ∀ (i : Nat) (a : Addr) (r : List Int), (as ++ bs)[i]? = some a → (xs ++ ys)[i]? = some r → H a = some (.lst (r.map V.int)) := by
  refine ⟨by rw [List.length_append, List.length_append, hp.1, hq.1], fun i a r ha hr => ?_⟩
  by_cases c : i < as.length
  · rw [List.getElem?_append_left c] at ha
    rw [List.getElem?_append_left (by rw [← hp.1]; exact c)] at hr
    exact hp.2 i a r ha hr
  · rw [List.getElem?_append_right (by omega)] at ha
    rw [List.getElem?_append_right (by rw [← hp.1]; omega), ← hp.1] at hr
    exact hq.2 _ a r ha hr
theorem flat_len (xs : List (List Int)) (lo : Int) (n : Nat) : (xs.flatMap fun r => (rngI lo n).map fun v => r ++ [v]).length = xs.length * n := by
  rw [List.length_flatMap]
  have e : xs.map (fun r => ((rngI lo n).map fun v => r ++ [v]).length) = List.replicate xs.length n := by
    apply List.ext_getElem
    · simp
    · intro i h1 h2
      simp [rngI]
  rw [e, List.sum_replicate_nat]
theorem first_at {n top k : Nat} {A B : List Step} {xs ys : List (List Int)} {x : List Int} (hk : k ≤ top) (hA : ∀ y ∈ (List.range k).flatMap (sizeRows n), playF A y = playF B y) (e : sizeRows n k = xs ++ x :: ys) (hB : ∀ y ∈ xs, playF A y = playF B y) (hx : playF A x ≠ playF B x) : firstF n A B top = some x := by
  unfold firstF
  have er : List.range (top + 1) = List.range k ++ k :: (List.range' (k + 1) (top - k)) := by
    rw [List.range_eq_range', List.range_eq_range', show top + 1 = k + (top - k + 1) by omega, ← List.range'_append_1, Nat.zero_add, List.range'_succ]
  rw [er, List.flatMap_append, List.flatMap_cons, e, List.append_assoc, ← List.append_assoc, List.cons_append]
  refine find_first (fun y hy => decide_eq_false fun z => z ?_) (decide_eq_true hx)
  rcases List.mem_append.mp hy with h | h
  · exact hA y h
  · exact hB y h
local macro_rules | `(tactic| walk_at "go") => `(tactic| repeat (first | (with_reducible first | refine iteT ?_ | refine iteF ?_ | refine iteNtt ?_ | refine iteNff ?_ | refine iteET (by omega) ?_ | refine iteEF (by omega) ?_ | refine iteENT (by omega) ?_ | refine iteENF (by omega) ?_ | refine iteDT (by omega) ?_ | refine iteDF (by omega) ?_ | refine iteNT (by omega) ?_ | refine iteNF (by omega) ?_) | refine ⟨_, rfl, ?_⟩ | refine ⟨_, _, rfl, rfl, ?_⟩ | refine ⟨_, _, rfl, ?_⟩ | refine ⟨rfl, ?_⟩ | refine .inl ⟨_, rfl, ?_⟩ | refine .inr ⟨_, rfl, ?_⟩))
local macro_rules | `(tactic| walk_at "b") => `(tactic| try dsimp (config := { proj := false, iota := false, eta := false, zeta := false }) only)
section
variable {P : Program} {w : World} {K : PySem.W.Frag} {mg : Str → Option Value} {base : Heap}
def sp_rows_of_size (K : PySem.W.Frag) : Sp := fun vs H Q _ => ∃ (n z : Nat), vs = [.int n, .int z] ∧ 1 ≤ n ∧ n ≤ 4 ∧ z ≤ 1000 ∧ (2 * z + 1) ^ n ≤ 1000 ∧ ∀ H' D, Same H H' → RowsIn H' D (sizeRows n z) → Q (.ref D) H'
def sp_law_lists : Sp := fun vs H Q _ => ∃ (n m : Nat) (lo hi : Int), vs = [.int n, .int lo, .int hi] ∧ n ≤ 4 ∧ hi + 1 - lo = m ∧ 1 ≤ m ∧ -(2 ^ 40) ≤ lo ∧ hi ≤ 2 ^ 40 ∧ m ^ n ≤ 1000 ∧ ∀ H' D, Same H H' → RowsIn H' D (listsF (rngI lo m) n) → Q (.ref D) H'
theorem G_law_lists (T : Top K mg) : FnOk P w K mg base CX0 1 T.f_law_lists T.fd_law_lists ["_law_broad", "_law_low", "_law_high"] sp_law_lists := by
  refine T.F_law_lists.ok sc_law_lists (fun vs H Q E h => by obtain ⟨n, m, lo, hi, rfl, _⟩ := h; rfl) (fun cdv A outer s H vs Q E hr h => ?_)
  obtain ⟨n, m, lo, hi, rfl, hn4, hm, hm1, hlo, hhi, hpow, q⟩ := h
  refine ⟨_, PSs.nox (pss_cons (ps_set (i := 3) sc_law_lists.nd rfl (by first | exact Or.inl rfl | exact Or.inr rfl) (pe_lst (pa_cons (pe_lst pa_nil) pa_nil)))
  (pss_cons (ps_for PassesOwn.never rfl (pi_range1 (by rfl) T.n_range (pa_cons (pv 0) pa_nil)) (pg_name (i := 4) sc_law_lists.nd rfl (by first | exact Or.inl rfl | exact Or.inr rfl))
    (pss_cons (ps_set (i := 5) sc_law_lists.nd rfl (by first | exact Or.inl rfl | exact Or.inr rfl) (pe_lst pa_nil))
  (pss_cons (ps_for PassesOwn.never rfl (k_piL K rfl (pv 3)) (pg_name (i := 6) sc_law_lists.nd rfl (by first | exact Or.inl rfl | exact Or.inr rfl))
    (pss_one (ps_set (i := 5) sc_law_lists.nd rfl (by first | exact Or.inl rfl | exact Or.inr rfl) (pe_op op_cat (pv 5) (pe_lc (own := [("_law_number_here", 7)]) (g := gName 7) (tt := tYes) (by rfl) sc_law_lists.nd (pi_range2 (by rfl) T.n_range (pa_cons (pv 1) (pa_cons (pe_op op_add (pv 2) pe_int) pa_nil))) (blkOk_by (own := [("_law_number_here", 7)]) (N := N_law_lists) (sc := defScope s_law_lists) (by decide +kernel)) (fun _ _ _ _ _ => (pg_name (i := 7) sc_law_lists.nd rfl (by first | exact Or.inl rfl | exact Or.inr rfl))) (fun _ _ _ _ _ => pts_nil) (fun _ _ _ _ _ => (pe_op op_cat (pv 6) (pe_lst (pa_cons (pv 7) pa_nil)))))))))
  (pss_one (ps_set (i := 3) sc_law_lists.nd rfl (by first | exact Or.inl rfl | exact Or.inr rfl) (pv 5))))))
  (pss_one (ps_ret (pv 3))))), ?_⟩
  walk_at "go"
  refine ⟨Nat.zero_le _, fun p0 np0 => ?_⟩
  obtain ⟨H1, e1, s1, h1⟩ := fresh (.lst []) np0
  rw [e1]
  walk_at "go"
  refine ⟨(show 1 ≤ sizeLine by decide), fun D nD => ?_⟩
  obtain ⟨H2, e2, s2, h2⟩ := fresh (.lst [V.ref p0]) nD
  rw [e2]
  walk_at "go"
  refine ⟨by omega, by omega, ?_⟩
  walk_at "b"
  refine for_range (lo := 0) (n := ((n : Int)).toNat) (fun i σ H3 => ∃ (v4 v5 v6 : Option V) (D : Addr), σ = [some (.int n), some (.int lo), some (.int hi), some (.ref D), v4, v5, v6, none] ∧ Same H H3 ∧ RowsIn H3 D (listsF (rngI lo m) i)) ⟨none, none, none, D, rfl, s1.trans s2, [p0], h2, rfl, fun i a r ha hr => ?_⟩ ?_ ?_
  · cases i with
    | zero =>
      cases ha
      cases hr
      exact s2 _ _ h1
    | succ i => cases ha
  · rintro i σ H3 hi' ⟨v4, v5, v6, D', rfl, s3, hR⟩
    rw [Int.toNat_natCast] at hi'
    obtain ⟨ps, hD', hps, eps⟩ := hR.prs
    refine ⟨Nat.zero_le _, fun L nL => ?_⟩
    obtain ⟨H4, e4, s4, h4⟩ := fresh (.lst []) nL
    rw [e4]
    walk_at "go"
    have hlen : (listsF (rngI lo m) i).length * m ≤ 1000 := by
      rw [len_listsF, rng_len, ← Nat.pow_succ]
      exact pow_le_of hpow hm1 hi'
    have m1000 : m ≤ 1000 := by
      have := pow_le_of (k := 1) hpow hm1 (by omega)
      rw [Nat.pow_one] at this
      exact this
    have s04 := s3.trans s4
    refine ⟨⟨_, .inl (.inl (s4 _ _ hD'))⟩, for_list (K := K) (a := D') (xs := refsL ps) (fun k σ H5 => ∃ (v6 : Option V) (L : Addr) (as : List Addr), σ = [some (.int n), some (.int lo), some (.int hi), some (.ref D'), some (.int (0 + (i : Int))), some (.ref L), v6, none] ∧ Same H4 H5 ∧ H5 L = some (.lst (as.map V.ref)) ∧ (as.length = ((((listsF (rngI lo m) i).take k).flatMap fun r => (rngI lo m).map fun v => r ++ [v])).length ∧ ∀ (i' : Nat) (a : Addr) (r : List Int), as[i']? = some a → ((((listsF (rngI lo m) i).take k).flatMap fun r => (rngI lo m).map fun v => r ++ [v]))[i']? = some r → H5 a = some (.lst (r.map V.int)))) ⟨v6, L, [], rfl, Same.refl _, h4, rfl, fun i' a r ha hr => by simp at ha⟩ (fun k σ H1 _ ⟨_, _, _, _, s, _⟩ => .inl (.inl (s _ _ (s4 _ _ hD')))) ?_ ?_⟩
    · rintro k v σ H5 hk ⟨v6, L, as, rfl, s5, hL, hN⟩
      obtain ⟨c, hc, hcm, rfl⟩ := refsL_at hk
      have hcc := (s4.trans s5) _ _ (hps c hcm)
      have er : (listsF (rngI lo m) i)[k]? = some c.2 := by rw [← eps, List.getElem?_map, hc]; rfl
      have lr := (mem_listsF.mp (List.mem_of_getElem? er)).1
      have kl : k < (listsF (rngI lo m) i).length := (List.getElem?_eq_some_iff.mp er).1
      walk_at "go"
      refine ⟨⟨by omega, by omega, by omega, by omega⟩, fun D5 nD5 => ?_⟩
      rw [hm, Int.toNat_natCast]
      refine lc_rowsR (lo := lo) (n := m) ((rngI lo m).map fun v => c.2 ++ [v]) nD5 (by rw [List.length_map, rng_len]) (small1000 m1000) (fun x => rfl) ?_ ?_
      · intro q l H' hq hl' s' Qt qt
        rw [List.getElem?_map] at hl'
        obtain ⟨v, hv, rfl⟩ := Option.map_eq_some_iff.mp hl'
        unfold rngI at hv
        rw [List.getElem?_map, List.getElem?_range hq] at hv
        cases hv
        walk_at "go"
        refine ⟨(show 1 ≤ sizeLine by decide), fun L2 nL2 => ?_⟩
        obtain ⟨H6, e6, s6, h6⟩ := fresh (.lst [V.int (lo + (q : Int))]) nL2
        rw [e6]
        refine ⟨c.1, L2, _, _, rfl, rfl, (s'.trans s6) _ _ hcc, h6, Nat.le_of_lt (small1000 (by rw [List.length_map]; show c.2.length + 1 ≤ 1000; omega)), fun Z nZ => ?_⟩
        refine qt Z _ (s6.trans (same_upd nZ)) (s6.free nZ) ?_
        rw [upd_same, List.map_append]
        rfl
      · intro H6 bs s6 hD5 hB
        have hb2 : bs.length = ((rngI lo m).map fun v => c.2 ++ [v]).length ∧ ∀ (i' : Nat) (a : Addr) (r : List Int), bs[i']? = some a → ((rngI lo m).map fun v => c.2 ++ [v])[i']? = some r → H6 a = some (.lst (r.map V.int)) := ⟨hB.1, fun i' a r ha hr => (hB.2 i' a r ha hr).2.2⟩
        have hn2 := RowsIn.cat ⟨hN.1, fun i' a r ha hr => s6 _ _ (hN.2 i' a r ha hr)⟩ hb2
        have et : (((listsF (rngI lo m) i).take (k + 1)).flatMap fun r => (rngI lo m).map fun v => r ++ [v]) = (((listsF (rngI lo m) i).take k).flatMap fun r => (rngI lo m).map fun v => r ++ [v]) ++ (rngI lo m).map fun v => c.2 ++ [v] := by
          rw [take_snoc er, List.flatMap_append]
          simp
        rw [← et] at hn2
        have ln := hn2.1
        rw [flat_len, List.length_take, Nat.min_eq_left (by omega)] at ln
        have ln2 : (k + 1) * m ≤ (listsF (rngI lo m) i).length * m := Nat.mul_le_mul_right _ kl
        walk_at "go"
        refine ⟨L, D5, _, _, rfl, rfl, s6 _ _ hL, hD5, Nat.le_of_lt (small1000 (by rw [← List.length_append, ← List.map_append, List.length_map, ln]; omega)), fun Z nZ => ?_⟩
        have s7 := same_upd (o := .lst (as.map V.ref ++ bs.map V.ref)) nZ
        refine ⟨_, Z, as ++ bs, rfl, (s5.trans s6).trans s7, by rw [upd_same, List.map_append], hn2.1, fun i' a r ha hr => s7 _ _ (hn2.2 i' a r ha hr)⟩
    · rintro σ H5 ⟨v6, L, as, rfl, s5, hL, hN⟩
      have el : (refsL ps).length = (listsF (rngI lo m) i).length := by
        unfold refsL
        rw [← eps, List.length_map, List.length_map]
      rw [el, List.take_length] at hN
      walk_at "go"
      exact ⟨_, _, _, L, rfl, s04.trans s5, as, hL, hN.1, hN.2⟩
  · rintro σ H3 ⟨v4, v5, v6, D', rfl, s3, hR⟩
    rw [Int.toNat_natCast] at hR
    exact ⟨_, rfl, q _ _ s3 hR⟩
def sp_parted_samples (C : Addr) (K : PySem.W.Frag) : Sp := fun vs H Q _ => ∃ (a r b r2 : Addr) (n : Nat) (ss ts : List Step), vs = [.ref a, .ref b] ∧ MixAt C H a r n ss ∧ MixAt C H b r2 n ts ∧ (∀ s ∈ ss, s.ok n) ∧ (∀ s ∈ ts, s.ok n) ∧ 1 ≤ n ∧ n ≤ 4 ∧ ss.length ≤ 100 ∧ ts.length ≤ 100 ∧ max (bitsS ss) (bitsS ts) ≤ 15 ∧ (2 * 2 ^ max (bitsS ss) (bitsS ts) + 1) ^ n ≤ 1000 ∧
  (alikeF n ss ts = true → ∀ H', Same H H' → Q .non H') ∧ (alikeF n ss ts = false → ∀ H' p rw, Same H H' → firstF n ss ts (2 ^ max (bitsS ss) (bitsS ts)) = some rw → H' p = some (.lst (rw.map V.int)) → Q (.ref p) H')
end
end My

namespace My
open PySem PySem.Spec PyProof.Rows L2 Pre
theorem none_left (A B : List Step) (rows : List (List Int)) : decide ((rows.filter fun r => !decide (playF A r = playF B r)) = []) = sameOn A B rows := by
  cases e : sameOn A B rows with
  | true =>
    have h := sameOn_iff.mp e
    exact decide_eq_true (List.filter_eq_nil_iff.mpr fun r hr => by rw [decide_eq_true (h r hr)]; decide)
  | false =>
    refine decide_eq_false fun z => ?_
    have h := List.filter_eq_nil_iff.mp z
    have : sameOn A B rows = true := sameOn_iff.mpr fun r hr => by
      have := h r hr
      by_cases c : playF A r = playF B r
      · exact c
      · rw [decide_eq_false c] at this
        exact absurd rfl this
    rw [this] at e
    cases e
local macro_rules | `(tactic| walk_at "go") => `(tactic| repeat (first | (with_reducible first | refine iteT ?_ | refine iteF ?_ | refine iteNtt ?_ | refine iteNff ?_ | refine iteET (by omega) ?_ | refine iteEF (by omega) ?_ | refine iteENT (by omega) ?_ | refine iteENF (by omega) ?_ | refine iteDT (by omega) ?_ | refine iteDF (by omega) ?_ | refine iteNT (by omega) ?_ | refine iteNF (by omega) ?_) | refine ⟨_, rfl, ?_⟩ | refine ⟨_, _, rfl, rfl, ?_⟩ | refine ⟨_, _, rfl, ?_⟩ | refine ⟨rfl, ?_⟩ | refine .inl ⟨_, rfl, ?_⟩ | refine .inr ⟨_, rfl, ?_⟩))
local macro_rules | `(tactic| walk_at "b") => `(tactic| try dsimp (config := { proj := false, iota := false, eta := false, zeta := false }) only)
section
variable {P : Program} {w : World} {K : PySem.W.Frag} {mg : Str → Option Value} {base : Heap}
def sp_law_alike (K : PySem.W.Frag) : Sp := fun vs H Q _ => ∃ (N N2 : Addr → Prop) (p p2 : Addr) (n : Nat) (ss ts : List Step), vs = [.ref p, .ref p2, .int n] ∧ StepsAt N H p ss ∧ StepsAt N2 H p2 ts ∧ (∀ s ∈ ss, s.ok n) ∧ (∀ s ∈ ts, s.ok n) ∧ 1 ≤ n ∧ n ≤ 4 ∧ ss.length ≤ 100 ∧ ts.length ≤ 100 ∧ max (bitsS ss) (bitsS ts) ≤ 15 ∧ (2 ^ max (bitsS ss) (bitsS ts) + 1) ^ n ≤ 1000 ∧
  ∀ H', Same H H' → Q (.bl (alikeF n ss ts)) H'
def sp_law_first (K : PySem.W.Frag) : Sp := fun vs H Q _ => ∃ (N N2 : Addr → Prop) (p p2 : Addr) (n : Nat) (ss ts : List Step), vs = [.ref p, .ref p2, .int n] ∧ StepsAt N H p ss ∧ StepsAt N2 H p2 ts ∧ (∀ s ∈ ss, s.ok n) ∧ (∀ s ∈ ts, s.ok n) ∧ 1 ≤ n ∧ n ≤ 4 ∧ ss.length ≤ 100 ∧ ts.length ≤ 100 ∧ max (bitsS ss) (bitsS ts) ≤ 15 ∧ (2 * 2 ^ max (bitsS ss) (bitsS ts) + 1) ^ n ≤ 1000 ∧ alikeF n ss ts = false ∧
  ∀ H' p rw, Same H H' → firstF n ss ts (2 ^ max (bitsS ss) (bitsS ts)) = some rw → H' p = some (.lst (rw.map V.int)) → Q (.ref p) H'
end
end My

namespace My
open PySem PySem.Spec PyProof.Rows PySem.W L2 Pre
/-! ### sorted, of rows of whole numbers -/
def rowDt (r : List Int) : PyData := .list (r.map PyData.int)
def rSortedR (K : PySem.W.Frag) : List V → Hp → VK → Prop := fun vs H Q => ∃ (a : Addr) (ps : List (V × List Int)), vs = [V.ref a] ∧ SqL K H a (ps.map Prod.fst) ∧ (∀ q ∈ ps, Dp K H q.1 (rowDt q.2)) ∧ ∀ (qs : List (V × List Int)) (p : Addr), qs.Perm ps → qs.Pairwise (fun x y => x.2 ≤ y.2) → H p = none → Q (.ref p) (upd H p (.lst (qs.map Prod.fst)))
theorem row_depth (r : List Int) : (rowDt r).depth ≤ 2 := by
  show (PyData.list (r.map .int)).depth ≤ 2
  rw [PyData.depth, Pre.depth_ints]
  omega
theorem rows_each {X : Cx} {pins : List (Addr × Obj)} {σ : L2.St} {H : Hp} {s : Shared} (I : Inv X pins σ H s) : ∀ {ps : List (V × List Int)} {us : List Value}, Vals (ps.map Prod.fst) us → (∀ q ∈ ps, Dp X.K H q.1 (rowDt q.2)) →
    EachIs (fun u q => RelV q.1 u) us ps ∧ EachIs (fun u q => ∃ as, Reads s.heap u (rowDt (Prod.snd q)) as) us ps
  | [], _, r, _ => by
    cases r
    exact ⟨.nil, .nil⟩
  | q :: ps, _, r, h => by
    rw [List.map_cons] at r
    cases r with
    | cons r1 r2 =>
      have ih := rows_each I r2 fun z hz => h z (List.mem_cons_of_mem _ hz)
      exact ⟨.cons r1 ih.1, .cons (Dp.reads I _ _ _ (h q List.mem_cons_self) r1) ih.2⟩
theorem each_vals : ∀ {us : List Value} {ps : List (V × List Int)}, EachIs (fun u q => RelV q.1 u) us ps → Vals (ps.map Prod.fst) us
  | _, _, .nil => .nil
  | _, _, .cons h t => by rw [List.map_cons]; exact .cons h (each_vals t)
theorem k_sortedR {X : Cx} (K : PySem.W.Frag) (h : X.K = K) (hu : X.A.units + 65 < cLine) : CallR X (.builtin "sorted") (rSortedR K) := by
  subst h
  intro pins s σ H vs us Q I r h
  obtain ⟨a, ps, rfl, hs, hp, q⟩ := h
  obtain ⟨its, rv, hl, hz⟩ := I.list hs
  rw [Vals.ref1 r]
  obtain ⟨e1, e2⟩ := rows_each I rv hp
  refine sorted_data (enc := fun q : V × List Int => rowDt q.2) hl.isList e1 e2 (AllAlike.of fun x y => by simp [rowDt, alike, W.alike_ints]) (Sortable.others fun x => ⟨by simp [rowDt], by simp [rowDt]⟩) (by rw [List.length_map] at hz; exact hz) (fun b _ => by have := row_depth b.2; show _ + _ + (rowDt b.2).depth < _; omega) fun out h1 h2 => ?_
  have le : (dataLe false fun q : V × List Int => rowDt q.2) = fun p q => decide (p.2 ≤ q.2) := dataLe_rows (fun q : V × List Int => q.2)
  rw [le] at h2
  have hperm := List.mergeSort_perm ps fun p q : V × List Int => decide (p.2 ≤ q.2)
  have hpw := List.pairwise_mergeSort (le := fun p q : V × List Int => decide (p.2 ≤ q.2)) (fun a b c h1 h2 => decide_eq_true (List.le_trans (of_decide_eq_true h1) (of_decide_eq_true h2))) (fun a b => by
    rw [Bool.or_eq_true, decide_eq_true_eq, decide_eq_true_eq]
    exact List.le_total _ _) ps
  obtain ⟨ep, at_⟩ := sortedAll_at s.heap its out.toArray
  refine ⟨.ref _, upd H (s.heap.objs.size + 1) (.lst ((ps.mergeSort fun p q : V × List Int => decide (p.2 ≤ q.2)).map Prod.fst)), I.laid (t' := s.toks) (fun _ _ => sortedAll_old) (Nat.le_succ _) ⟨?_, out.toArray.toList, ep, by simpa using each_vals h2, at_⟩, rfl, q _ _ hperm (hpw.imp fun h => of_decide_eq_true h) (I.hok.fresh (Nat.le_succ _))⟩
  rw [List.length_map, hperm.length_eq]
  rw [List.length_map] at hz
  exact hz
end My

namespace My
open PySem PySem.Spec PyProof.Rows L2 Pre
theorem restate {R : L2.St → Hp → Prop} {σ : L2.St} {H : Hp} (σ' : L2.St) (e : σ = σ') (h : R σ' H) : R σ H := by rw [e]; exact h
theorem mk_same {H : Hp} {x dx C : Addr} (nx : H x = none) (ndx : H dx = none) : Same H (upd (upd H dx (.own x)) x (.ins C dx [])) := fun b o e => by
  rw [upd_ne (ne_of_none e nx), upd_ne (ne_of_none e ndx)]
  exact e
theorem mk_kept {H H' : Hp} {x dx C : Addr} (nx : H x = none) (ndx : H dx = none) (kp : ∀ b o, b ≠ x → (upd (upd H dx (.own x)) x (.ins C dx [])) b = some o → H' b = some o) : Same H H' := fun b o e => kp b o (ne_of_none e nx) (mk_same nx ndx b o e)
theorem GenAt.keep {H H' : Hp} {g : Addr} {n : Nat} (h : GenAt H g n) (k : ∀ o, H g = some o → H' g = some o) : GenAt H' g n := by
  obtain ⟨x, y, z, a, b⟩ := h
  exact ⟨x, y, z, k _ a, b⟩
theorem But.all {g : Addr} {H0 H H' : Hp} (b : But g H H') (s : Same H0 H) (n : H0 g = none) : Same H0 H' := fun c o e => b c o (ne_of_none e n) (s c o e)
instance (n : Nat) (s : Step) : Decidable (s.ok n) := by cases s <;> (unfold Step.ok; infer_instance)
/-- ways that meet again, whatever they stored -/
theorem joinS {b : Bool} {A : Prop} {R : L2.St → Hp → Prop} {σ : L2.St} {H : Hp} (Pv : L2.St → Hp → Prop) (cont : ∀ σ' H', Pv σ' H' → R σ' H') (h1 : b = true → (∀ σ' H', Pv σ' H' → R σ' H') → A) (h2 : b = false → Pv σ H) : if b = true then A else R σ H := by
  cases b with
  | true => rw [if_pos rfl]; exact h1 rfl cont
  | false => rw [if_neg (by decide)]; exact cont _ _ (h2 rfl)
theorem pow_cond {n m : Nat} (h1 : 1 ≤ n) (h4 : n ≤ 4) (h : m * n ≤ 6) : m ≤ 6 ∧ (2 * 2 ^ m + 1) ^ n ≤ 1000 := by
  have hm : m ≤ 6 := Nat.le_trans (Nat.le_mul_of_pos_right m h1) h
  have all : ∀ n < 5, ∀ m < 7, 1 ≤ n → m * n ≤ 6 → (2 * 2 ^ m + 1) ^ n ≤ 1000 := by decide +kernel
  exact ⟨hm, all n (by omega) m (by omega) h1 h⟩
end My

namespace My
/-! ### two mixers on all samples within a box -/
def InBox (n h : Nat) (x : List Int) : Prop := x.length = n ∧ ∀ v ∈ x, -(h : Int) ≤ v ∧ v < (h : Int)
def sameIn (n h : Nat) (A B : List Step) : Prop := ∀ x, InBox n h x → playF A x = playF B x
def firstN (h : Nat) (m r : Int) : Int := -(h : Int) + (r - -(h : Int)) % m
def lastN (h : Nat) (m r : Int) : Int := ((h : Int) - 1) - (((h : Int) - 1) - r) % m
theorem firstN_le {h : Nat} {m : Int} (m0 : 0 < m) (r : Int) : -(h : Int) ≤ firstN h m r := by
  have := Int.emod_nonneg (r - -(h : Int)) (Int.ne_of_gt m0)
  unfold firstN
  omega
theorem lastN_lt {h : Nat} {m : Int} (m0 : 0 < m) (r : Int) : lastN h m r < (h : Int) := by
  have := Int.emod_nonneg (((h : Int) - 1) - r) (Int.ne_of_gt m0)
  unfold lastN
  omega
/-- a number of the box, its rest, and how far it is from the first one -/
theorem first_of {h : Nat} {m x : Int} (m0 : 0 < m) (h1 : -(h : Int) ≤ x) : ∃ q : Int, 0 ≤ q ∧ x = firstN h m (x % m) + m * q := by
  refine ⟨(x - -(h : Int)) / m, Int.ediv_nonneg (by omega) (Int.le_of_lt m0), ?_⟩
  unfold firstN
  have e : (x % m - -(h : Int)) % m = (x - -(h : Int)) % m := by
    rw [Int.sub_emod, Int.emod_emod_of_dvd _ (Int.dvd_refl m), ← Int.sub_emod]
  rw [e]
  have := Int.emod_add_mul_ediv (x - -(h : Int)) m
  omega
theorem last_of {h : Nat} {m x : Int} (m0 : 0 < m) (h1 : x < (h : Int)) : x ≤ lastN h m (x % m) := by
  unfold lastN
  have e : (((h : Int) - 1) - x % m) % m = (((h : Int) - 1) - x) % m := by
    rw [Int.sub_emod, Int.emod_emod_of_dvd _ (Int.dvd_refl m), ← Int.sub_emod]
  rw [e]
  have h2 := Int.emod_add_mul_ediv (((h : Int) - 1) - x) m
  have h3 : 0 ≤ m * ((((h : Int) - 1) - x) / m) := Int.mul_nonneg (Int.le_of_lt m0) (Int.ediv_nonneg (by omega) (Int.le_of_lt m0))
  omega
theorem firstN_mod {h : Nat} {m r : Int} : (firstN h m r) % m = r % m := by
  unfold firstN
  rw [Int.add_emod, Int.emod_emod_of_dvd _ (Int.dvd_refl m), ← Int.add_emod]
  congr 1
  omega
theorem lastN_mod {h : Nat} {m r : Int} : (lastN h m r) % m = r % m := by
  unfold lastN
  rw [Int.sub_emod, Int.emod_emod_of_dvd _ (Int.dvd_refl m), ← Int.sub_emod]
  congr 1
  omega
/-- two numbers of one rest are equal or the rest's period apart -/
theorem first_last {h : Nat} {m r : Int} (m0 : 0 < m) (l : firstN h m r < lastN h m r) : firstN h m r + m ≤ lastN h m r := by
  have e : (lastN h m r - firstN h m r) % m = 0 := by
    rw [Int.sub_emod, lastN_mod, firstN_mod, Int.sub_self, Int.zero_emod]
  have d := Int.emod_add_mul_ediv (lastN h m r - firstN h m r) m
  rw [e] at d
  have p : 0 < (lastN h m r - firstN h m r) / m := by
    by_cases c : 0 < (lastN h m r - firstN h m r) / m
    · exact c
    · exfalso
      have : m * ((lastN h m r - firstN h m r) / m) ≤ 0 := Int.mul_nonpos_of_nonneg_of_nonpos (Int.le_of_lt m0) (by omega)
      omega
  have : m * 1 ≤ m * ((lastN h m r - firstN h m r) / m) := Int.mul_le_mul_of_nonneg_left (by omega) (Int.le_of_lt m0)
  omega
def spanF (h : Nat) (m : Int) (r : List Int) : List (Int × Int) := r.map fun v => (firstN h m v, lastN h m v)
def letB (s : List (Int × Int)) : Bool := s.all fun z => decide (z.1 ≤ z.2)
/-- the corners: the firsts, and those with one of them the next one -/
def cornF (m : Int) (s : List (Int × Int)) : List (List Int) :=
  s.map Prod.fst :: ((List.range s.length).filterMap fun i => match s[i]? with | some z => if z.1 < z.2 then some ((s.map Prod.fst).set i (z.1 + m)) else none | none => none)
theorem map_getD {f : Int → Int} {x : List Int} {i : Nat} (h : i < x.length) : (x.map f).getD i 0 = f (x.getD i 0) := by
  rw [List.getD_eq_getElem?_getD, List.getElem?_map, List.getD_eq_getElem?_getD, List.getElem?_eq_getElem h]
  rfl
theorem getD_in {x : List Int} {i : Nat} (h : i < x.length) : x.getD i 0 ∈ x := by
  rw [List.getD_eq_getElem?_getD, List.getElem?_eq_getElem h]
  exact List.getElem_mem h
theorem dot_agree (α β : Int) : ∀ (a b q : List Int), a.length = b.length → (∀ i, q.getD i 0 ≠ 0 → α * a.getD i 0 = β * b.getD i 0) → α * dotP a q = β * dotP b q
  | [], [], q, _, _ => by cases q <;> simp [dotP]
  | [], _ :: _, _, h, _ => by simp at h
  | _ :: _, [], _, h, _ => by simp at h
  | _ :: _, _ :: _, [], _, _ => by simp [dotP]
  | x :: a, y :: b, z :: q, h, k => by
    show α * (x * z + dotP a q) = β * (y * z + dotP b q)
    have ih := dot_agree α β a b q (by simpa using h) fun i hi => by simpa using k (i + 1) (by simpa using hi)
    have h0 : α * (x * z) = β * (y * z) := by
      by_cases c : z = 0
      · rw [c, Int.mul_zero, Int.mul_zero, Int.mul_zero, Int.mul_zero]
      · have := k 0 (by simpa using c)
        rw [← Int.mul_assoc, ← Int.mul_assoc]
        exact congrArg (fun t => t * z) this
    rw [Int.mul_add, Int.mul_add, ih, h0]
def unitC (c : Int) (n j : Nat) : List Int := (List.range' 0 n).map fun k => if j = k then c else 0
theorem unitC_len (c : Int) (n j : Nat) : (unitC c n j).length = n := by simp [unitC]
theorem unitC_getD {c : Int} {n j k : Nat} (hk : k < n) : (unitC c n j).getD k 0 = if j = k then c else 0 := by
  unfold unitC
  rw [List.getD_eq_getElem?_getD, List.getElem?_map, List.getElem?_range' hk]
  simp
theorem dot_unitC {n : Nat} {l : List Int} (c : Int) (hl : l.length = n) (j : Nat) (hj : j < n) : dotP l (unitC c n j) = c * l.getD j 0 := by
  have e : unitC c n j = ((List.range' 0 n).map fun k => if j = k then (1 : Int) else 0).map fun x => x * c := by
    unfold unitC
    rw [List.map_map]
    apply List.map_congr_left
    intro k _
    by_cases h : j = k <;> simp [h]
  have e2 : ∀ (a b : List Int), dotP a (b.map fun x => x * c) = c * dotP a b := by
    intro a
    induction a with
    | nil => intro b; cases b <;> simp [dotP]
    | cons x a ih =>
      intro b
      cases b with
      | nil => simp [dotP]
      | cons y b =>
        show x * (y * c) + dotP a (b.map fun x => x * c) = c * (x * y + dotP a b)
        rw [ih, Int.mul_add, Int.mul_comm c (x * y), Int.mul_assoc]
  rw [e, e2, dot_one hl j hj]
/-- rows that differ by the period at one place, both alike: the matrices agree there -/
theorem entry_of {n m : Nat} {A B : List Step} (hA : ∀ s ∈ A, s.ok n) (hB : ∀ s ∈ B, s.ok n) (mA : bitsS A ≤ m) (mB : bitsS B ≤ m) {u : List Int} {c : Int} {j : Nat} (c0 : c ≠ 0) (hu : u.length = n) (hj : j < n)
    (z0 : playF A u = playF B u) (z1 : playF A (addM u (2 ^ m) (unitC c n j)) = playF B (addM u (2 ^ m) (unitC c n j))) (i : Nat) (hi : i < n) :
    2 ^ (m - bitsS A) * ((numF n A).getD i []).getD j 0 = 2 ^ (m - bitsS B) * ((numF n B).getD i []).getD j 0 := by
  have lA := num_len hA
  have lB := num_len hB
  have hc := unitC_len c n j
  rw [play_far hA mA hu hc, play_far hB mB hu hc, z0] at z1
  have z2 : ∀ u v : List Int, u = v → u.getD i 0 = v.getD i 0 := fun u v e => by rw [e]
  have z3 := z2 _ _ z1
  rw [addM_getD (by rw [play_len, mulV_len, lA.1, hu]), addM_getD (by rw [play_len, mulV_len, lB.1, hu]), mul_getD, mul_getD, dot_unitC c (lA.2 _ (getD_mem (by rw [lA.1]; exact hi))) j hj, dot_unitC c (lB.2 _ (getD_mem (by rw [lB.1]; exact hi))) j hj] at z3
  have z4 : 2 ^ (m - bitsS A) * (c * ((numF n A).getD i []).getD j 0) = 2 ^ (m - bitsS B) * (c * ((numF n B).getD i []).getD j 0) := by omega
  have z5 : c * (2 ^ (m - bitsS A) * ((numF n A).getD i []).getD j 0) = c * (2 ^ (m - bitsS B) * ((numF n B).getD i []).getD j 0) := by
    rw [← Int.mul_assoc, Int.mul_comm c, Int.mul_assoc, z4, ← Int.mul_assoc, Int.mul_comm _ c, Int.mul_assoc]
  exact Int.eq_of_mul_eq_mul_left c0 z5
theorem play_of_entries {n m : Nat} {A B : List Step} (hA : ∀ s ∈ A, s.ok n) (hB : ∀ s ∈ B, s.ok n) (mA : bitsS A ≤ m) (mB : bitsS B ≤ m) {u q : List Int} (hu : u.length = n) (hq : q.length = n) (z0 : playF A u = playF B u)
    (k : ∀ j, j < n → q.getD j 0 ≠ 0 → ∀ i, i < n → 2 ^ (m - bitsS A) * ((numF n A).getD i []).getD j 0 = 2 ^ (m - bitsS B) * ((numF n B).getD i []).getD j 0) :
    playF A (addM u (2 ^ m) q) = playF B (addM u (2 ^ m) q) := by
  have lA := num_len hA
  have lB := num_len hB
  rw [play_far hA mA hu hq, play_far hB mB hu hq, z0]
  refine ext_getD (by rw [addM_len (by rw [play_len, mulV_len, lA.1, hu]), addM_len (by rw [play_len, mulV_len, lB.1, hu])]) fun i hi => ?_
  have hi' : i < n := by rw [addM_len (by rw [play_len, mulV_len, lA.1, hu]), play_len, hu] at hi; exact hi
  rw [addM_getD (by rw [play_len, mulV_len, lA.1, hu]), addM_getD (by rw [play_len, mulV_len, lB.1, hu]), mul_getD, mul_getD]
  have a1 := lA.2 _ (getD_mem (by rw [lA.1]; exact hi'))
  have b1 := lB.2 _ (getD_mem (by rw [lB.1]; exact hi'))
  have e := dot_agree (2 ^ (m - bitsS A)) (2 ^ (m - bitsS B)) ((numF n A).getD i []) ((numF n B).getD i []) q (by rw [a1, b1]) fun j hj => by
    by_cases c : j < n
    · exact k j c hj i hi'
    · exfalso
      apply hj
      rw [List.getD_eq_getElem?_getD, List.getElem?_eq_none (by omega)]
      rfl
  rw [e]
theorem span_len (h : Nat) (m : Int) (r : List Int) : (spanF h m r).length = r.length := by simp [spanF]
theorem span_fst (h : Nat) (m : Int) (r : List Int) : (spanF h m r).map Prod.fst = r.map (firstN h m) := by
  unfold spanF
  rw [List.map_map]
  rfl
theorem corn_mem {h : Nat} {m : Int} {r : List Int} {i : Nat} (hi : i < r.length) (l : firstN h m (r.getD i 0) < lastN h m (r.getD i 0)) : (r.map (firstN h m)).set i (firstN h m (r.getD i 0) + m) ∈ cornF m (spanF h m r) := by
  unfold cornF
  refine List.mem_cons_of_mem _ (List.mem_filterMap.mpr ⟨i, List.mem_range.mpr (by rw [span_len]; exact hi), ?_⟩)
  have e : (spanF h m r)[i]? = some (firstN h m (r.getD i 0), lastN h m (r.getD i 0)) := by
    unfold spanF
    rw [List.getElem?_map, List.getD_eq_getElem?_getD, List.getElem?_eq_getElem hi]
    rfl
  rw [e, span_fst]
  exact if_pos l
/-- alike at the corners, alike at each row of the box with these rests -/
theorem corn_same {n m h : Nat} {A B : List Step} (hA : ∀ s ∈ A, s.ok n) (hB : ∀ s ∈ B, s.ok n) (mA : bitsS A ≤ m) (mB : bitsS B ≤ m) {x : List Int} (hx : InBox n h x)
    (k : ∀ c ∈ cornF (2 ^ m) (spanF h (2 ^ m) (x.map fun v => v % 2 ^ m)), playF A c = playF B c) : playF A x = playF B x := by
  obtain ⟨hl, hb⟩ := hx
  have m0 : (0 : Int) < 2 ^ m := Int.pow_pos (by decide)
  have hr : (x.map fun v => v % 2 ^ m).length = n := by rw [List.length_map, hl]
  have hu : ((x.map fun v => v % 2 ^ m).map (firstN h (2 ^ m))).length = n := by rw [List.length_map, hr]
  obtain ⟨q, hq, hq2⟩ : ∃ q : List Int, q.length = n ∧ ∀ i, i < n → 0 ≤ q.getD i 0 ∧ x.getD i 0 = firstN h (2 ^ m) (x.getD i 0 % 2 ^ m) + 2 ^ m * q.getD i 0 := by
    refine ⟨x.map fun v => (v - -(h : Int)) / 2 ^ m, by rw [List.length_map, hl], fun i hi => ?_⟩
    rw [map_getD (f := fun v => (v - -(h : Int)) / 2 ^ m) (by omega)]
    have hb1 := (hb _ (getD_in (show i < x.length by omega))).1
    refine ⟨Int.ediv_nonneg (by omega) (Int.le_of_lt m0), ?_⟩
    generalize x.getD i 0 = v at hb1
    unfold firstN
    have e : (v % 2 ^ m - -(h : Int)) % 2 ^ m = (v - -(h : Int)) % 2 ^ m := by
      rw [Int.sub_emod, Int.emod_emod_of_dvd _ (Int.dvd_refl _), ← Int.sub_emod]
    rw [e]
    have := Int.emod_add_mul_ediv (v - -(h : Int)) (2 ^ m)
    omega
  have ur : ∀ i, i < n → ((x.map fun v => v % 2 ^ m).map (firstN h (2 ^ m))).getD i 0 = firstN h (2 ^ m) (x.getD i 0 % 2 ^ m) := fun i hi => by
    rw [map_getD (by omega), map_getD (by omega)]
  have ex : x = addM ((x.map fun v => v % 2 ^ m).map (firstN h (2 ^ m))) (2 ^ m) q := by
    refine ext_getD (by rw [addM_len (by rw [hu, hq]), hu, hl]) fun i hi => ?_
    rw [addM_getD (by rw [hu, hq]), ur i (by omega)]
    exact (hq2 i (by omega)).2
  have z0 : playF A ((x.map fun v => v % 2 ^ m).map (firstN h (2 ^ m))) = playF B ((x.map fun v => v % 2 ^ m).map (firstN h (2 ^ m))) := k _ (by
    rw [← span_fst]
    exact List.mem_cons_self)
  rw [ex]
  refine play_of_entries hA hB mA mB hu hq z0 fun j hj hqj => entry_of hA hB mA mB (c := 1) (by decide) hu hj z0 ?_
  have l : firstN h (2 ^ m) (x.getD j 0 % 2 ^ m) < lastN h (2 ^ m) (x.getD j 0 % 2 ^ m) := by
    have h1 := last_of (h := h) m0 (hb _ (getD_in (show j < x.length by omega))).2
    obtain ⟨q0, h2⟩ := hq2 j hj
    have : 2 ^ m * 1 ≤ 2 ^ m * q.getD j 0 := Int.mul_le_mul_of_nonneg_left (by omega) (Int.le_of_lt m0)
    omega
  have := k _ (corn_mem (i := j) (by omega) (by rw [map_getD (by omega)]; exact l))
  rw [map_getD (by omega)] at this
  have e : addM ((x.map fun v => v % 2 ^ m).map (firstN h (2 ^ m))) (2 ^ m) (unitC 1 n j) = ((x.map fun v => v % 2 ^ m).map (firstN h (2 ^ m))).set j (firstN h (2 ^ m) (x.getD j 0 % 2 ^ m) + 2 ^ m) := by
    have hc := unitC_len 1 n j
    refine ext_getD (by rw [addM_len (by rw [hu, hc]), List.length_set]) fun i hi => ?_
    have hi' : i < n := by rw [addM_len (by rw [hu, hc]), hu] at hi; exact hi
    rw [addM_getD (by rw [hu, hc]), getD_set (by omega), unitC_getD hi', ur i hi']
    by_cases c : j = i
    · rw [if_pos c, if_pos c, c, Int.mul_one]
    · rw [if_neg c, if_neg c, Int.mul_zero, Int.add_zero]
  rw [e]
  exact this
/-- the corners lie in the box -/
theorem corn_in {n h : Nat} {m : Int} (m0 : 0 < m) {r c : List Int} (hr : r.length = n) (l : letB (spanF h m r) = true) (hc : c ∈ cornF m (spanF h m r)) : InBox n h c := by
  have l1 : ∀ i, i < r.length → firstN h m (r.getD i 0) ≤ lastN h m (r.getD i 0) := fun i hi => by
    have := List.all_eq_true.mp l (firstN h m (r.getD i 0), lastN h m (r.getD i 0)) (by
      unfold spanF
      exact List.mem_map.mpr ⟨_, getD_in hi, rfl⟩)
    exact of_decide_eq_true this
  have f0 : InBox n h (r.map (firstN h m)) := ⟨by rw [List.length_map, hr], fun v hv => by
    obtain ⟨w, hw, rfl⟩ := List.mem_map.mp hv
    obtain ⟨i, hi, e⟩ := List.mem_iff_getElem.mp hw
    have l2 := l1 i hi
    rw [List.getD_eq_getElem?_getD, List.getElem?_eq_getElem hi, Option.getD_some, e] at l2
    exact ⟨firstN_le m0 w, by have := lastN_lt (h := h) m0 w; omega⟩⟩
  unfold cornF at hc
  rcases List.mem_cons.mp hc with rfl | hc
  · rw [span_fst]
    exact f0
  · obtain ⟨i, hi, e⟩ := List.mem_filterMap.mp hc
    rw [List.mem_range, span_len] at hi
    have e2 : (spanF h m r)[i]? = some (firstN h m (r.getD i 0), lastN h m (r.getD i 0)) := by
      unfold spanF
      rw [List.getElem?_map, List.getD_eq_getElem?_getD, List.getElem?_eq_getElem hi]
      rfl
    rw [e2, span_fst] at e
    dsimp only at e
    by_cases c2 : firstN h m (r.getD i 0) < lastN h m (r.getD i 0)
    · rw [if_pos c2] at e
      cases e
      refine ⟨by rw [List.length_set]; exact f0.1, fun v hv => ?_⟩
      rcases List.mem_or_eq_of_mem_set hv with hv | rfl
      · exact f0.2 v hv
      · have := first_last m0 c2
        have h1 := firstN_le (h := h) m0 (r.getD i 0)
        have h2 := lastN_lt (h := h) m0 (r.getD i 0)
        exact ⟨by omega, by omega⟩
    · rw [if_neg c2] at e
      cases e
theorem box_let {n h : Nat} {m : Int} (m0 : 0 < m) {x : List Int} (hx : InBox n h x) : letB (spanF h m (x.map fun v => v % m)) = true := by
  unfold letB spanF
  rw [List.all_eq_true]
  intro z hz
  obtain ⟨w, hw, rfl⟩ := List.mem_map.mp hz
  obtain ⟨v, hv, rfl⟩ := List.mem_map.mp hw
  obtain ⟨h1, h2⟩ := hx.2 v hv
  obtain ⟨q, q0, e⟩ := first_of (h := h) m0 h1
  have := last_of (h := h) m0 h2
  have p : 0 ≤ m * q := Int.mul_nonneg (Int.le_of_lt m0) q0
  exact decide_eq_true (by show firstN h m (v % m) ≤ lastN h m (v % m); omega)
/-- alike at all corners of all rests: alike within the box -/
theorem same_of_corners {n m h : Nat} {A B : List Step} (hA : ∀ s ∈ A, s.ok n) (hB : ∀ s ∈ B, s.ok n) (mA : bitsS A ≤ m) (mB : bitsS B ≤ m)
    (k : ∀ r ∈ listsF (rngI 0 (2 ^ m)) n, letB (spanF h (2 ^ m) r) = true → ∀ c ∈ cornF (2 ^ m) (spanF h (2 ^ m) r), playF A c = playF B c) : sameIn n h A B := fun x hx => by
  have m0 : (0 : Int) < 2 ^ m := Int.pow_pos (by decide)
  refine corn_same hA hB mA mB hx (k _ ?_ (box_let m0 hx))
  refine mem_listsF.mpr ⟨by rw [List.length_map, hx.1], fun v hv => ?_⟩
  obtain ⟨w, _, rfl⟩ := List.mem_map.mp hv
  refine mem_rngI.mpr ⟨Int.emod_nonneg _ (Int.ne_of_gt m0), ?_⟩
  have := Int.emod_lt_of_pos w m0
  rw [Int.natCast_pow]
  show w % 2 ^ m < 0 + (2 : Int) ^ m
  omega
/-- a box that holds a period on the side below: alike within is alike -/
theorem alike_of_in {n h : Nat} {A B : List Step} (hA : ∀ s ∈ A, s.ok n) (hB : ∀ s ∈ B, s.ok n) (hh : 2 ^ max (bitsS A) (bitsS B) ≤ h) (k : sameIn n h A B) : alikeF n A B = true := by
  unfold alikeF
  generalize hm : max (bitsS A) (bitsS B) = m at hh
  have p0 : (0 : Int) < 2 ^ m := Int.pow_pos (by decide)
  have pc : ((2 ^ m : Nat) : Int) = 2 ^ m := by rw [Int.natCast_pow]; rfl
  have hh' : (2 : Int) ^ m ≤ (h : Int) := by rw [← pc]; exact Int.ofNat_le.mpr hh
  have mA : bitsS A ≤ m := by omega
  have mB : bitsS B ≤ m := by omega
  have lA := num_len hA
  have lB := num_len hB
  have hz : (List.replicate n (0 : Int)).length = n := List.length_replicate
  have z0 := k (List.replicate n 0) ⟨hz, fun v hv => by rw [List.eq_of_mem_replicate hv]; exact ⟨by omega, by omega⟩⟩
  rw [Bool.and_eq_true]
  refine ⟨decide_eq_true ?_, sameOn_iff.mpr fun r hr => k r ?_⟩
  · have entry : ∀ i j, i < n → j < n → ((numF n A).getD i []).getD j 0 * 2 ^ bitsS B = ((numF n B).getD i []).getD j 0 * 2 ^ bitsS A := fun i j hi hj => by
      have hu := unitC_len (-1) n j
      have z1 := k (addM (List.replicate n 0) (2 ^ m) (unitC (-1) n j)) ⟨by rw [addM_len (by rw [hz, hu]), hz], fun v hv => by
        obtain ⟨i2, hi2, rfl⟩ := List.mem_iff_getElem.mp hv
        have hi3 : i2 < n := by
          rw [addM_len (by rw [hz, hu]), hz] at hi2
          exact hi2
        have e : (addM (List.replicate n 0) (2 ^ m) (unitC (-1) n j))[i2] = (List.replicate n (0 : Int)).getD i2 0 + 2 ^ m * (unitC (-1) n j).getD i2 0 := by
          rw [← addM_getD (by rw [hz, hu]) i2, List.getD_eq_getElem?_getD, List.getElem?_eq_getElem hi2]
          rfl
        rw [e, unitC_getD hi3]
        have e0 : (List.replicate n (0 : Int)).getD i2 0 = 0 := by
          rw [List.getD_eq_getElem?_getD, List.getElem?_replicate, if_pos hi3]
          rfl
        rw [e0]
        by_cases c : j = i2
        · rw [if_pos c]
          exact ⟨by omega, by omega⟩
        · rw [if_neg c]
          exact ⟨by omega, by omega⟩⟩
      refine parts_eq.mpr ?_
      rw [hm]
      exact entry_of hA hB mA mB (c := -1) (by decide) hz hj z0 z1 i hi
    unfold linesF
    apply List.ext_getElem
    · rw [List.length_map, List.length_map, lA.1, lB.1]
    · intro i h1 h3
      have hi : i < n := by
        have := h1
        rw [List.length_map, lA.1] at this
        exact this
      have iA : i < (numF n A).length := by rw [lA.1]; exact hi
      have iB : i < (numF n B).length := by rw [lB.1]; exact hi
      have la : (numF n A)[i].length = n := lA.2 _ (List.getElem_mem iA)
      have lb : (numF n B)[i].length = n := lB.2 _ (List.getElem_mem iB)
      rw [List.getElem_map, List.getElem_map]
      apply List.ext_getElem
      · exact (List.length_map _).trans (la.trans (lb.symm.trans (List.length_map _).symm))
      · intro j h4 h5
        have hj : j < n := Nat.lt_of_lt_of_eq h4 ((List.length_map _).trans la)
        rw [List.getElem_map, List.getElem_map]
        have := entry i j hi hj
        rw [List.getD_eq_getElem?_getD, List.getD_eq_getElem?_getD, List.getElem?_eq_getElem iA] at this
        rw [List.getD_eq_getElem?_getD, List.getD_eq_getElem?_getD, List.getElem?_eq_getElem iB] at this
        simp only [Option.getD_some] at this
        rw [List.getElem?_eq_getElem (show j < (numF n A)[i].length by rw [la]; exact hj), List.getElem?_eq_getElem (show j < (numF n B)[i].length by rw [lb]; exact hj)] at this
        exact this
  · obtain ⟨h3, h4⟩ := mem_listsF.mp hr
    exact ⟨h3, fun v hv => by
      obtain ⟨h5, h6⟩ := mem_rngI.mp (h4 v hv)
      exact ⟨by omega, by omega⟩⟩
theorem in_alike {n h : Nat} {A B : List Step} (hA : ∀ s ∈ A, s.ok n) (hB : ∀ s ∈ B, s.ok n) (hh : 2 ^ max (bitsS A) (bitsS B) ≤ h) : sameIn n h A B ↔ alikeF n A B = true :=
  ⟨alike_of_in hA hB hh, fun e x hx => alike_all hA hB e hx.1⟩
theorem sameIn_comm {n h : Nat} {A B : List Step} (k : sameIn n h A B) : sameIn n h B A := fun x hx => (k x hx).symm
theorem sameIn_on {n h : Nat} {A B : List Step} : sameIn n h A B ↔ sameOn A B (listsF (rngI (-(h : Int)) (2 * h)) n) = true := by
  rw [sameOn_iff]
  constructor
  · intro k r hr
    obtain ⟨h3, h4⟩ := mem_listsF.mp hr
    exact k r ⟨h3, fun v hv => by have := mem_rngI.mp (h4 v hv); omega⟩
  · intro k x hx
    exact k x (mem_listsF.mpr ⟨hx.1, fun v hv => mem_rngI.mpr (by have := hx.2 v hv; omega)⟩)
end My

namespace My
/-! ### what undoes -/
def backR : Step → List Step
  | .turn i => [.turn i]
  | .swap i j => [.swap i j]
  | .lift t ws sh => if sh = 0 then [.lift t (ws.map fun w => 0 - w) 0] else [.turn t, .lift t ws sh, .turn t]
theorem backR_lift (t : Nat) (ws : List Int) (sh : Nat) : backR (.lift t ws sh) = if sh = 0 then [.lift t (ws.map fun w => 0 - w) 0] else [.turn t, .lift t ws sh, .turn t] := rfl
def undoF (ss : List Step) : List Step := ss.reverse.flatMap backR
theorem play_app (A B : List Step) (x : List Int) : playF (A ++ B) x = playF B (playF A x) := by
  unfold playF
  rw [List.foldl_append]
theorem dot_neg2 (ws x : List Int) : dotP (ws.map fun w => 0 - w) x = 0 - dotP ws x := dot_neg ws x
theorem play_backR {s : Step} {x : List Int} (ok : s.ok x.length) : playF (backR s) x = stepF (-1) s x := by
  cases s with
  | turn i => rfl
  | swap i j => rfl
  | lift t ws sh =>
    obtain ⟨ht, hl, hz, _, _⟩ : t < x.length ∧ ws.length = x.length ∧ ws.getD t 0 = 0 ∧ sh ≤ 15 ∧ _ := ok
    rw [backR_lift]
    by_cases c : sh = 0
    · rw [if_pos c, c]
      show x.set t (x.getD t 0 + 1 * (dotP (ws.map fun w => 0 - w) x / 2 ^ 0)) = x.set t (x.getD t 0 + -1 * (dotP ws x / 2 ^ 0))
      rw [dot_neg2, Int.pow_zero, Int.ediv_one, Int.ediv_one]
      congr 1
      omega
    · rw [if_neg c]
      show (((x.set t (0 - x.getD t 0)).set t ((x.set t (0 - x.getD t 0)).getD t 0 + 1 * (dotP ws (x.set t (0 - x.getD t 0)) / 2 ^ sh))).set t (0 - ((x.set t (0 - x.getD t 0)).set t ((x.set t (0 - x.getD t 0)).getD t 0 + 1 * (dotP ws (x.set t (0 - x.getD t 0)) / 2 ^ sh))).getD t 0)) = x.set t (x.getD t 0 + -1 * (dotP ws x / 2 ^ sh))
      rw [List.set_set, List.set_set, getD_set (by rw [List.length_set]; exact ht), if_pos rfl, getD_set ht, if_pos rfl, dot_set _ _ _ _ hz]
      congr 1
      omega
theorem play_undo {n : Nat} : ∀ {ss : List Step} {x : List Int}, (∀ s ∈ ss, s.ok n) → x.length = n → playF (undoF ss) x = backF ss x
  | [], _, _, _ => rfl
  | s :: ss, x, ok, hx => by
    rw [back_cons]
    unfold undoF
    rw [List.reverse_cons, List.flatMap_append, play_app]
    have ih := play_undo (ss := ss) (x := x) (fun t ht => ok t (List.mem_cons_of_mem _ ht)) hx
    unfold undoF at ih
    rw [ih, List.flatMap_cons, List.flatMap_nil, List.append_nil]
    exact play_backR (by rw [back_len, hx]; exact ok s List.mem_cons_self)
theorem backR_ok {n : Nat} {s : Step} (ok : s.ok n) : ∀ r ∈ backR s, r.ok n := by
  cases s with
  | turn i => intro r hr; rw [List.mem_singleton.mp hr]; exact ok
  | swap i j => intro r hr; rw [List.mem_singleton.mp hr]; exact ok
  | lift t ws sh =>
    obtain ⟨ht, hl, hz, hs, hw⟩ := id ok
    intro r hr
    rw [backR_lift] at hr
    by_cases c : sh = 0
    · rw [if_pos c] at hr
      rw [List.mem_singleton.mp hr]
      refine ⟨ht, by rw [List.length_map, hl], ?_, by decide, fun w hw' => ?_⟩
      · rw [List.getD_eq_getElem?_getD] at hz ⊢
        rw [List.getElem?_map]
        rw [List.getElem?_eq_getElem (show t < ws.length by omega)] at hz ⊢
        simp only [Option.map_some, Option.getD_some] at hz ⊢
        omega
      · obtain ⟨y, hy, rfl⟩ := List.mem_map.mp hw'
        have := hw y hy
        omega
    · rw [if_neg c] at hr
      rcases List.mem_cons.mp hr with rfl | hr
      · exact ht
      · rcases List.mem_cons.mp hr with rfl | hr
        · exact ok
        · rw [List.mem_singleton.mp hr]
          exact ht
theorem undo_ok {n : Nat} {ss : List Step} (ok : ∀ s ∈ ss, s.ok n) : ∀ r ∈ undoF ss, r.ok n := fun r hr => by
  obtain ⟨s, hs, h⟩ := List.mem_flatMap.mp hr
  exact backR_ok (ok s (List.mem_reverse.mp hs)) r h
theorem backR_bits (s : Step) : bitsS (backR s) = shS s := by
  cases s with
  | turn i => rfl
  | swap i j => rfl
  | lift t ws sh =>
    rw [backR_lift]
    by_cases c : sh = 0
    · rw [if_pos c, c]
      rfl
    · rw [if_neg c]
      show 0 + (sh + (0 + 0)) = sh
      omega
theorem backR_len (s : Step) : (backR s).length ≤ 3 := by
  cases s with
  | turn i => exact (by decide : 1 ≤ 3)
  | swap i j => exact (by decide : 1 ≤ 3)
  | lift t ws sh =>
    rw [backR_lift]
    split <;> simp
theorem undo_len (ss : List Step) : (undoF ss).length ≤ 3 * ss.length := by
  have k : ∀ l : List Step, (l.flatMap backR).length ≤ 3 * l.length := fun l => by
    induction l with
    | nil => simp
    | cons s l ih =>
      rw [List.flatMap_cons, List.length_append, List.length_cons]
      have := backR_len s
      omega
  have := k ss.reverse
  rw [List.length_reverse] at this
  exact this
theorem undo_bits0 {ss : List Step} (h : ∀ s ∈ ss, shS s = 0) : ∀ s ∈ undoF ss, shS s = 0 := fun r hr => by
  obtain ⟨s, hs, k⟩ := List.mem_flatMap.mp hr
  have h1 := h s (List.mem_reverse.mp hs)
  cases s with
  | turn i => rw [List.mem_singleton.mp k]; rfl
  | swap i j => rw [List.mem_singleton.mp k]; rfl
  | lift t ws sh =>
    have h2 : sh = 0 := h1
    rw [backR_lift, if_pos h2] at k
    rw [List.mem_singleton.mp k]
    rfl
theorem bits_zero {ss : List Step} (h : ∀ s ∈ ss, shS s = 0) : bitsS ss = 0 := by
  induction ss with
  | nil => rfl
  | cons s ss ih =>
    show shS s + bitsS ss = 0
    rw [h s List.mem_cons_self, ih fun t ht => h t (List.mem_cons_of_mem _ ht)]
end My

namespace My
open PySem PySem.Spec PyProof.Rows L2 Pre
theorem cut_rev_all (us : List V) : us.reverse.length = us.length := List.length_reverse
theorem AllV.foldB {R : V → Step → Prop} {vs : List V} {ss : List Step} (h : AllV R vs ss) (i : Nat) : AllV R (vs.take i) (ss.take i) := by
  induction i generalizing vs ss with
  | zero => exact trivial
  | succ i ih =>
    match vs, ss, h with
    | [], [], _ => exact trivial
    | _ :: _, _ :: _, h => exact ⟨h.1, ih h.2⟩
theorem undo_take {ss : List Step} {i : Nat} {s : Step} (h : ss[i]? = some s) : (ss.take (i + 1)).flatMap backR = (ss.take i).flatMap backR ++ backR s := by
  rw [take_snoc h, List.flatMap_append, List.flatMap_cons, List.flatMap_nil, List.append_nil]
theorem back_take_len (ss : List Step) : (ss.flatMap backR).length ≤ 3 * ss.length := by
  induction ss with
  | nil => simp
  | cons s l ih =>
    rw [List.flatMap_cons, List.length_append, List.length_cons]
    have := backR_len s
    omega
local macro_rules | `(tactic| walk_at "go") => `(tactic| repeat (first | (with_reducible first | refine iteT ?_ | refine iteF ?_ | refine iteNtt ?_ | refine iteNff ?_ | refine iteET (by omega) ?_ | refine iteEF (by omega) ?_ | refine iteENT (by omega) ?_ | refine iteENF (by omega) ?_ | refine iteDT (by omega) ?_ | refine iteDF (by omega) ?_ | refine iteNT (by omega) ?_ | refine iteNF (by omega) ?_) | refine ⟨_, rfl, ?_⟩ | refine ⟨_, _, rfl, rfl, ?_⟩ | refine ⟨_, _, rfl, ?_⟩ | refine ⟨rfl, ?_⟩ | refine .inl ⟨_, rfl, ?_⟩ | refine .inr ⟨_, rfl, ?_⟩))
local macro_rules | `(tactic| walk_at "b") => `(tactic| try dsimp (config := { proj := false, iota := false, eta := false, zeta := false }) only)
section
variable {P : Program} {w : World} {K : PySem.W.Frag} {mg : Str → Option Value} {base : Heap}
def sp_made (C : Addr) (K : PySem.W.Frag) : Sp := fun vs H Q _ => ∃ (r : Addr) (n : Nat) (us : List V) (ss : List Step), vs = [.int n, .ref r] ∧ H r = some (.lst us) ∧ AllV (RowV H) us ss ∧ (∀ s ∈ ss, s.ok n) ∧ 1 ≤ n ∧ n ≤ 4 ∧ ss.length ≤ 100 ∧
  ∀ H' x r', Same H H' → H x = none → H r' = none → MixAt C H' x r' n ss → Q (.ref x) H'
theorem G_made (T : Top K mg) : FnOk P w K mg base CX0 7 T.f_made T.fd_made ["wide", "rows"] (sp_made T.C_Mixer K) := by
  refine T.F_made.ok sc_made (fun vs H Q E h => by obtain ⟨r, n, vs, ss, rfl, _⟩ := h; rfl) (fun cdv A outer s H vs Q E hr h => ?_)
  obtain ⟨r, n, vs, ss, rfl, hr0, hv, hO, hn1, hn4, hl, q⟩ := h
  refine ⟨_, PSs.nox (pss_one (ps_ret (pe_make T.mk_Mixer (G_Mixer___init__ T) (hr.mono (by decide)) (by rfl) T.gc_Mixer T.b_Mixer___init__ .nil pass0 (pa_cons (pv 0) (pa_cons (pe_lc (own := [("row", 2)]) (g := gName 2) (tt := tYes) (by rfl) sc_made.nd (k_piL K rfl (pv 1)) (blkOk_by (own := [("row", 2)]) (N := N_made) (sc := defScope s_made) (by decide +kernel)) (fun _ _ _ _ _ => (pg_name (i := 2) sc_made.nd rfl (by first | exact Or.inl rfl | exact Or.inr rfl))) (fun _ _ _ _ _ => pts_nil) (fun _ _ _ _ _ => (pe_call (G_opened T) (hr.mono (by decide)) (by rfl) T.g_opened T.F_opened.kp T.b_opened .nil pass0 (pa_cons (pv 2) pa_nil)))) pa_nil))))), ?_⟩
  have hvl := hv.len
  walk_at "go"
  refine ⟨⟨_, .inl (.inl hr0)⟩, fun D nD => ?_⟩
  refine lc_stp (K := K) (xs := vs) (ss := ss) (fun H1 => StepV (fun l => l ≠ D ∧ H l = none) H1) step_off nD (.inl (.inl hr0)) hvl (small1000 (by omega)) (fun x => rfl) ?_ ?_
  · intro i y s H' hy hs s' ⟨zs, hD⟩ Qt qt
    obtain ⟨s2, hs2, hys⟩ := hv.get hy
    rw [hs] at hs2
    cases hs2
    walk_at "go"
    refine ⟨y, s, rfl, hys.same s', fun H3 v' s3 k => ?_⟩
    exact qt v' H3 s3 (k.mono fun l hf => ⟨fun z => (by rw [z] at hf; rw [hf.1] at hD; cases hD), s'.free hf.1⟩)
  intro H3 ys s3 hD hys
  have S3 : StepsAt (fun _ => True) H3 D ss := ⟨ys, hD, hys.imp fun v s h => h.mono fun _ _ => trivial⟩
  walk_at "go"
  intro x z2 z3 z4 z5
  refine ⟨x, z2, D, n, ss, rfl, upd_same, hn1, hn4, S3.same (mk_same z3 z4), hO, hl, fun H4 r' kp nr M4 => ⟨rfl, ?_⟩⟩
  exact q H4 x r' (s3.trans (mk_kept z3 z4 kp)) (s3.free z3) ((s3.trans (mk_same z3 z4)).free nr) M4
def sp_back_rows (K : PySem.W.Frag) : Sp := fun vs H Q _ => ∃ (v : V) (n : Nat) (s : Step), vs = [v] ∧ RowV H v s ∧ s.ok n ∧ n ≤ 4 ∧ ∀ H' p us, Same H H' → H p = none → H' p = some (.lst us) → AllV (RowV H') us (backR s) → Q (.ref p) H'
theorem G_back_rows (T : Top K mg) : FnOk P w K mg base CX0 1 T.f_back_rows T.fd_back_rows ["row"] (sp_back_rows K) := by
  refine T.F_back_rows.ok sc_back_rows (fun vs H Q E h => by obtain ⟨v, n, s, rfl, _⟩ := h; rfl) (fun cdv A outer s H vs Q E hr h => ?_)
  obtain ⟨v, n, s, rfl, hV, hO, hn4, q⟩ := h
  refine ⟨_, PSs.nox (pss_cons (ps_if (pt_cmpR op_ne (pe_ix (k_ixT K rfl) (pv 0) pe_int (fun _ _ => rfl)) pe_str (nomark _))
    (pss_one (ps_ret (pe_lst (pa_cons (pv 0) pa_nil))))
    pss_nil)
  (pss_cons (ps_if (pt_cmpR op_eq (pe_ix (k_ixT K rfl) (pv 0) pe_int (fun _ _ => rfl)) pe_int (nomark _))
    (pss_one (ps_ret (pe_lst (pa_cons (pe_tup (pa_cons pe_str (pa_cons (pe_ix (k_ixT K rfl) (pv 0) pe_int (fun _ _ => rfl)) (pa_cons (pe_callTy (k_tupleOf K rfl) (by rfl) T.n_tuple (by decide +kernel) (pa_cons (pe_lc (own := [("weight", 1)]) (g := gName 1) (tt := tYes) (by rfl) sc_back_rows.nd (k_piT K rfl (pe_ix (k_ixT K rfl) (pv 0) pe_int (fun _ _ => rfl))) (blkOk_by (own := [("weight", 1)]) (N := N_back_rows) (sc := defScope s_back_rows) (by decide +kernel)) (fun _ _ _ _ _ => (pg_name (i := 1) sc_back_rows.nd rfl (by first | exact Or.inl rfl | exact Or.inr rfl))) (fun _ _ _ _ _ => pts_nil) (fun _ _ _ _ _ => (pe_op op_sub pe_int (pv 1)))) pa_nil)) (pa_cons pe_int pa_nil))))) pa_nil))))
    pss_nil)
  (pss_one (ps_ret (pe_lst (pa_cons (pe_tup (pa_cons pe_str (pa_cons (pe_ix (k_ixT K rfl) (pv 0) pe_int (fun _ _ => rfl)) pa_nil))) (pa_cons (pv 0) (pa_cons (pe_tup (pa_cons pe_str (pa_cons (pe_ix (k_ixT K rfl) (pv 0) pe_int (fun _ _ => rfl)) pa_nil))) pa_nil)))))))), ?_⟩
  cases s with
  | turn i =>
    obtain ⟨t, rfl, ht⟩ := hV
    have hT : SqT K H t [sT, .int i] := .inl (.inl ht)
    walk_at "go"
    refine ⟨t, _, _, _, rfl, rfl, hT, rfl, rfl, _, rfl, iteNT (by decide) ?_⟩
    walk_at "go"
    refine ⟨(show 1 ≤ sizeLine by decide), fun p np => ?_⟩
    exact q _ p _ (same_upd np) np upd_same ⟨⟨t, rfl, same_upd np _ _ ht⟩, trivial⟩
  | swap i j =>
    obtain ⟨t, rfl, ht⟩ := hV
    have hT : SqT K H t [sS, .int i, .int j] := .inl (.inl ht)
    walk_at "go"
    refine ⟨t, _, _, _, rfl, rfl, hT, rfl, rfl, _, rfl, iteNT (by decide) ?_⟩
    walk_at "go"
    refine ⟨(show 1 ≤ sizeLine by decide), fun p np => ?_⟩
    exact q _ p _ (same_upd np) np upd_same ⟨⟨t, rfl, same_upd np _ _ ht⟩, trivial⟩
  | lift b ws sh =>
    obtain ⟨t, l, rfl, ht, hlw⟩ := hV
    obtain ⟨hb, hwl, hw0, hs15, hws⟩ := id hO
    have hT : SqT K H t [sL, .int b, .ref l, .int sh] := .inl (.inl ht)
    walk_at "go"
    refine ⟨t, _, _, _, rfl, rfl, hT, rfl, rfl, _, rfl, iteNF rfl ?_⟩
    walk_at "go"
    refine ⟨t, _, _, _, rfl, rfl, hT, rfl, ?_⟩
    walk_at "go"
    rw [backR_lift] at q
    by_cases c : sh = 0
    · rw [if_pos c] at q
      walk_at "go"
      refine ⟨t, _, _, _, rfl, rfl, hT, rfl, ?_⟩
      walk_at "go"
      refine ⟨t, _, _, _, rfl, rfl, hT, rfl, ?_⟩
      walk_at "go"
      refine ⟨⟨_, .inl (.inl hlw)⟩, fun D nD => ?_⟩
      refine lc_dW (walk_tup (K := K) (a := l) (xs := ws.map V.int)) (S := []) Has.nil ((ws.map fun w => 0 - w).map fun x => some (PyData.int x)) nD (by rw [List.length_map, List.length_map, List.length_map]) (by rw [List.length_map]; exact small1000 (by omega)) (fun H' s => .inl (.inl (s _ _ hlw))) ?_ ?_
      · rintro k o H0 x H'' hk ho s0 hH ⟨rfl, hx⟩ Qt qt
        obtain ⟨m, hm, rfl⟩ := int_at hx
        rw [List.getElem?_map, List.getElem?_map, hm] at ho
        cases ho
        refine ⟨rfl, ?_⟩
        walk_at "go"
        exact qt _ _ (Same.refl _) (.int _)
      intro H1 s1 _ dD
      rw [show ((ws.map fun w => 0 - w).map fun x => some (PyData.int x)).filterMap id = (ws.map fun w => 0 - w).map PyData.int from sel_map _ _, rs_nil] at dD
      obtain ⟨_, e, hD⟩ := Dt.intsE (ns := ws.map fun w => 0 - w) dD
      cases e
      walk_at "go"
      refine ⟨D, _, rfl, .inl ⟨.inl (.inl hD), fun p np => ?_⟩⟩
      obtain ⟨H2, e2, s2, h2⟩ := fresh (.tup ((ws.map fun w => 0 - w).map V.int)) np
      rw [e2]
      walk_at "go"
      refine ⟨(show 4 ≤ sizeLine by decide), fun tq ntq => ?_⟩
      obtain ⟨H3, e3, s3, h3⟩ := fresh (.tup [sL, V.int b, .ref p, .int (0 : Nat)]) ntq
      rw [show upd H2 tq (.tup [V.str (Str.ofString "lift"), V.int b, V.ref p, V.int 0]) = H3 from e3]
      refine ⟨(show 1 ≤ sizeLine by decide), fun p2 np2 => ?_⟩
      obtain ⟨H4, e4, s4, h4⟩ := fresh (.lst [V.ref tq]) np2
      rw [e4]
      have s03 := s1.trans (s2.trans s3)
      exact q _ p2 _ (s03.trans s4) (s03.free np2) h4 (show AllV (RowV H4) [V.ref tq] [.lift b (ws.map fun w => 0 - w) 0] from ⟨⟨tq, p, rfl, s4 _ _ h3, (s3.trans s4) _ _ h2⟩, trivial⟩)
    · rw [if_neg c] at q
      walk_at "go"
      refine ⟨t, _, _, _, rfl, rfl, hT, rfl, ?_⟩
      walk_at "go"
      refine ⟨(show 2 ≤ sizeLine by decide), fun t1 nt1 => ?_⟩
      obtain ⟨H1, e1, s1, h1⟩ := fresh (.tup [sT, V.int b]) nt1
      rw [show upd H t1 (.tup [V.str (Str.ofString "turn"), V.int b]) = H1 from e1]
      walk_at "go"
      refine ⟨t, _, _, _, rfl, rfl, Same.tup s1 hT, rfl, ?_⟩
      walk_at "go"
      refine ⟨(show 2 ≤ sizeLine by decide), fun t2 nt2 => ?_⟩
      obtain ⟨H2, e2, s2, h2⟩ := fresh (.tup [sT, V.int b]) nt2
      rw [show upd H1 t2 (.tup [V.str (Str.ofString "turn"), V.int b]) = H2 from e2]
      refine ⟨(show 3 ≤ sizeLine by decide), fun p np => ?_⟩
      obtain ⟨H3, e3, s3, h3⟩ := fresh (.lst [V.ref t1, V.ref t, V.ref t2]) np
      rw [e3]
      have s13 := s2.trans s3
      have s03 := s1.trans s13
      exact q _ p _ s03 ((s1.trans s2).free np) h3 (show AllV (RowV H3) [V.ref t1, V.ref t, V.ref t2] [.turn b, .lift b ws sh, .turn b] from ⟨⟨t1, rfl, s13 _ _ h1⟩, ⟨t, l, rfl, s03 _ _ ht, s03 _ _ hlw⟩, ⟨t2, rfl, s3 _ _ h2⟩, trivial⟩)
def sp_undoing (C : Addr) (K : PySem.W.Frag) : Sp := fun vs H Q _ => ∃ (a r : Addr) (n : Nat) (ss : List Step), vs = [.ref a] ∧ MixAt C H a r n ss ∧ (∀ s ∈ ss, s.ok n) ∧ 1 ≤ n ∧ n ≤ 4 ∧ ss.length ≤ 33 ∧
  ∀ H' x r', Same H H' → H x = none → H r' = none → MixAt C H' x r' n (undoF ss) → Q (.ref x) H'
theorem G_undoing (T : Top K mg) : FnOk P w K mg base CX0 8 T.f_undoing T.fd_undoing ["mixer"] (sp_undoing T.C_Mixer K) := by
  refine T.F_undoing.ok sc_undoing (fun vs H Q E h => by obtain ⟨a, r, n, ss, rfl, _⟩ := h; rfl) (fun cdv A outer s H vs Q E hr h => ?_)
  obtain ⟨a, r, n, ss, rfl, hM, hO, hn1, hn4, hl, q⟩ := h
  refine ⟨_, PSs.nox (pss_cons (ps_expr (pe_call (G_check_mixer T) (hr.mono (by decide)) (by rfl) T.g_check_mixer T.F_check_mixer.kp T.b_check_mixer .nil pass0 (pa_cons (pv 0) pa_nil)))
  (pss_cons (ps_set (i := 1) sc_undoing.nd rfl (by first | exact Or.inl rfl | exact Or.inr rfl) (pe_lst pa_nil))
  (pss_cons (ps_for PassesOwn.never rfl (k_piL K rfl (pe_revL (pe_fld (pv 0) rfl))) (pg_name (i := 2) sc_undoing.nd rfl (by first | exact Or.inl rfl | exact Or.inr rfl))
    (pss_one (ps_set (i := 1) sc_undoing.nd rfl (by first | exact Or.inl rfl | exact Or.inr rfl) (pe_op op_cat (pv 1) (pe_call (G_back_rows T) (hr.mono (by decide)) (by rfl) T.g_back_rows T.F_back_rows.kp T.b_back_rows .nil pass0 (pa_cons (pv 2) pa_nil))))))
  (pss_one (ps_ret (pe_call (G_made T) (hr.mono (by decide)) (by rfl) T.g_made T.F_made.kp T.b_made .nil pass0 (pa_cons (pe_fld (pv 0) rfl) (pa_cons (pv 1) pa_nil)))))))), ?_⟩
  obtain ⟨dx, us, ha, hr0, hv⟩ := id hM
  have hvl := hv.len
  walk_at "go"
  refine ⟨a, r, n, ss, rfl, hM, ?_⟩
  walk_at "go"
  refine ⟨Nat.zero_le _, fun p0 np0 => ?_⟩
  obtain ⟨H1, e1, s1, h1⟩ := fresh (.lst []) np0
  rw [e1]
  walk_at "go"
  refine ⟨a, T.C_Mixer, dx, _, _, rfl, s1 _ _ ha, T.cl_Mixer, T.na_Mixer_rows, rfl, ?_⟩
  refine ⟨r, us, rfl, .inl (.inl (s1 _ _ hr0)), fun p3 np3 => ?_⟩
  obtain ⟨H2, e2, s2, h2⟩ := fresh (.lst us.reverse) np3
  rw [e2]
  have s02 := s1.trans s2
  have hv2 : AllV (RowV H2) us.reverse ss.reverse := (hv.imp fun v s => RowV.same s02).rev
  refine ⟨p3, rfl, ⟨_, .inl (.inl h2)⟩, for_list (K := K) (a := p3) (xs := us.reverse) (fun i σ H4 => ∃ (v2 : Option V) (p' : Addr) (ws : List V), σ = [some (.ref a), some (.ref p'), v2] ∧ Same H2 H4 ∧ H p' = none ∧ H4 p' = some (.lst ws) ∧ AllV (RowV H4) ws ((ss.reverse.take i).flatMap backR)) ⟨none, p0, [], rfl, Same.refl _, np0, s2 _ _ h1, trivial⟩ (fun i σ H4 _ ⟨_, _, _, _, s, _⟩ => .inl (.inl (s _ _ h2))) ?_ ?_⟩
  · rintro i v σ H4 hi ⟨v2, p', ws, rfl, s4, np', h4, hw⟩
    obtain ⟨s, hs, hvs⟩ := hv2.get hi
    have ho := hO s (List.mem_reverse.mp (List.mem_of_getElem? hs))
    have hwl := hw.len
    have hil := back_take_len (ss.reverse.take i)
    rw [List.length_take, List.length_reverse] at hil
    walk_at "go"
    refine ⟨v, n, s, rfl, hvs.same s4, ho, hn4, fun H5 pb ub s5 npb h5 hb => ?_⟩
    have hbl := hb.len
    have hb3 := backR_len s
    refine ⟨p', pb, _, _, rfl, rfl, s5 _ _ h4, h5, Nat.le_of_lt (small1000 (by omega)), fun q1 nq1 => ?_⟩
    obtain ⟨H6, e6, s6, h6⟩ := fresh (.lst (ws ++ ub)) nq1
    rw [e6]
    have s46 := s5.trans s6
    refine ⟨_, q1, ws ++ ub, rfl, s4.trans s46, ((s02.trans s4).trans s5).free nq1, h6, ?_⟩
    rw [undo_take hs]
    exact AllV.app (hw.imp fun v s => RowV.same s46) (hb.imp fun v s => RowV.same s6)
  · rintro σ H4 ⟨v2, p', ws, rfl, s4, np', h4, hw⟩
    rw [hv2.len, List.take_length] at hw
    have s04 := s02.trans s4
    walk_at "go"
    refine ⟨a, T.C_Mixer, dx, _, _, rfl, s04 _ _ ha, T.cl_Mixer, T.na_Mixer_many, rfl, ?_⟩
    walk_at "go"
    have ul := undo_len ss
    exact ⟨p', n, ws, undoF ss, rfl, h4, hw, undo_ok hO, hn1, hn4, by omega, fun H5 x r' s5 nx nr M5 => q H5 x r' (s04.trans s5) (s04.free nx) (s04.free nr) M5⟩
def sp_joined_mixers (C : Addr) (K : PySem.W.Frag) : Sp := fun vs H Q _ => ∃ (a r b r2 : Addr) (n : Nat) (ss ts : List Step), vs = [.ref a, .ref b] ∧ MixAt C H a r n ss ∧ MixAt C H b r2 n ts ∧ (∀ s ∈ ss, s.ok n) ∧ (∀ s ∈ ts, s.ok n) ∧ 1 ≤ n ∧ n ≤ 4 ∧ ss.length + ts.length ≤ 100 ∧
  ∀ H' x r', Same H H' → H x = none → H r' = none → MixAt C H' x r' n (ss ++ ts) → Q (.ref x) H'
theorem G_joined_mixers (T : Top K mg) : FnOk P w K mg base CX0 8 T.f_joined_mixers T.fd_joined_mixers ["one", "other"] (sp_joined_mixers T.C_Mixer K) := by
  refine T.F_joined_mixers.ok sc_joined_mixers (fun vs H Q E h => by obtain ⟨a, r, b, r2, n, ss, ts, rfl, _⟩ := h; rfl) (fun cdv A outer s H vs Q E hr h => ?_)
  obtain ⟨a, r, b, r2, n, ss, ts, rfl, hM, hM2, hO, hO2, hn1, hn4, hl, q⟩ := h
  refine ⟨_, PSs.nox (pss_cons (ps_expr (pe_call (G_check_both T) (hr.mono (by decide)) (by rfl) T.g_check_both T.F_check_both.kp T.b_check_both .nil pass0 (pa_cons (pv 0) (pa_cons (pv 1) pa_nil))))
  (pss_one (ps_ret (pe_call (G_made T) (hr.mono (by decide)) (by rfl) T.g_made T.F_made.kp T.b_made .nil pass0 (pa_cons (pe_fld (pv 0) rfl) (pa_cons (pe_op op_cat (pe_fld (pv 0) rfl) (pe_fld (pv 1) rfl)) pa_nil)))))), ?_⟩
  obtain ⟨dx, us, ha, hr0, hv⟩ := id hM
  obtain ⟨dy, ws, hb, hr2, hu⟩ := id hM2
  have hvl := hv.len
  have hul := hu.len
  walk_at "go"
  refine ⟨a, r, b, r2, n, ss, ts, rfl, hM, hM2, ?_⟩
  walk_at "go"
  refine ⟨a, T.C_Mixer, dx, _, _, rfl, ha, T.cl_Mixer, T.na_Mixer_many, rfl, ?_⟩
  walk_at "go"
  refine ⟨a, T.C_Mixer, dx, _, _, rfl, ha, T.cl_Mixer, T.na_Mixer_rows, rfl, ?_⟩
  walk_at "go"
  refine ⟨b, T.C_Mixer, dy, _, _, rfl, hb, T.cl_Mixer, T.na_Mixer_rows, rfl, ?_⟩
  refine ⟨r, r2, _, _, rfl, rfl, hr0, hr2, Nat.le_of_lt (small1000 (by omega)), fun p np => ?_⟩
  obtain ⟨H1, e1, s1, h1⟩ := fresh (.lst (us ++ ws)) np
  rw [e1]
  walk_at "go"
  exact ⟨p, n, us ++ ws, ss ++ ts, rfl, h1, AllV.app (hv.imp fun v s => RowV.same s1) (hu.imp fun v s => RowV.same s1), fun s hs => (List.mem_append.mp hs).elim (hO s) (hO2 s), hn1, hn4, by rw [List.length_append]; exact hl, fun H5 x r' s5 nx nr M5 => q H5 x r' (s1.trans s5) (s1.free nx) (s1.free nr) M5⟩
end
end My

namespace My
/-! ### steps made shorter, one thing at a time -/
def pairF : Step → Step → Option (List Step)
  | .turn i, .turn j => if i = j then some [] else none
  | .swap a b, .swap c d => if (a = c ∧ b = d) ∨ (a = d ∧ b = c) then some [] else none
  | .lift a ws s, .lift b us t => if a = b ∧ min s t = 0 then some [.lift a (List.zipWith (fun w u => w * 2 ^ (max s t - s) + u * 2 ^ (max s t - t)) ws us) (max s t)] else none
  | _, _ => none
def oneF : Step → Option (List Step)
  | .lift t ws sh => if ∀ w ∈ ws, w = 0 then some [] else if 0 < sh ∧ ∀ w ∈ ws, w % 2 = 0 then some [.lift t (ws.map fun w => w / 2) (sh - 1)] else none
  | _ => none
theorem one_zero {t sh : Nat} {ws : List Int} (c : ∀ w ∈ ws, w = 0) : oneF (.lift t ws sh) = some [] := if_pos c
theorem one_half {t sh : Nat} {ws : List Int} (c : ¬ ∀ w ∈ ws, w = 0) (d : 0 < sh ∧ ∀ w ∈ ws, w % 2 = 0) : oneF (.lift t ws sh) = some [.lift t (ws.map fun w => w / 2) (sh - 1)] := (if_neg c).trans (if_pos d)
theorem one_none {t sh : Nat} {ws : List Int} (c : ¬ ∀ w ∈ ws, w = 0) (d : ¬ (0 < sh ∧ ∀ w ∈ ws, w % 2 = 0)) : oneF (.lift t ws sh) = none := (if_neg c).trans (if_neg d)
def shortF : List Step → Option (List Step)
  | [] => none
  | s :: r => match oneF s with
    | some l => some (l ++ r)
    | none => match r with
      | [] => none
      | u :: q => match pairF s u with
        | some l => some (l ++ q)
        | none => (shortF (u :: q)).map (s :: ·)
theorem short_one {s : Step} {r l : List Step} (h : oneF s = some l) : shortF (s :: r) = some (l ++ r) := by
  unfold shortF
  rw [h]
theorem short_pair {s u : Step} {q l : List Step} (h : oneF s = none) (k : pairF s u = some l) : shortF (s :: u :: q) = some (l ++ q) := by
  unfold shortF
  rw [h]
  show (match pairF s u with | some l => some (l ++ q) | none => (shortF (u :: q)).map (s :: ·)) = _
  rw [k]
theorem short_last {s : Step} (h : oneF s = none) : shortF [s] = none := by
  unfold shortF
  rw [h]
theorem short_skip {s u : Step} {q : List Step} (h : oneF s = none) (k : pairF s u = none) : shortF (s :: u :: q) = (shortF (u :: q)).map (s :: ·) := by
  rw [shortF, h]
  show (match pairF s u with | some l => some (l ++ q) | none => (shortF (u :: q)).map (s :: ·)) = _
  rw [k]
/-- the way of a walk: what is ahead of a place stays -/
def ShAt (ss : List Step) (i : Nat) : Prop := shortF ss = (shortF (ss.drop i)).map (ss.take i ++ ·)
theorem ShAt.zero (ss : List Step) : ShAt ss 0 := by
  unfold ShAt
  rw [List.drop_zero, List.take_zero]
  cases shortF ss <;> rfl
theorem drop_at {ss : List Step} {i : Nat} {s : Step} (h : ss[i]? = some s) : ss.drop i = s :: ss.drop (i + 1) := by
  obtain ⟨hi, e⟩ := List.getElem?_eq_some_iff.mp h
  rw [List.drop_eq_getElem_cons hi, e]
theorem take_at {ss : List Step} {i : Nat} {s : Step} (h : ss[i]? = some s) : ss.take (i + 1) = ss.take i ++ [s] := by
  rw [List.take_add_one, h]
  rfl
theorem ShAt.hit1 {ss l : List Step} {i : Nat} {s : Step} (k : ShAt ss i) (h : ss[i]? = some s) (e : oneF s = some l) : shortF ss = some (ss.take i ++ (l ++ ss.drop (i + 1))) := by
  rw [k, drop_at h, short_one e]
  rfl
theorem ShAt.hit2 {ss l : List Step} {i : Nat} {s u : Step} (k : ShAt ss i) (h : ss[i]? = some s) (h2 : ss[i + 1]? = some u) (e : oneF s = none) (f : pairF s u = some l) : shortF ss = some (ss.take i ++ (l ++ ss.drop (i + 2))) := by
  rw [k, drop_at h, drop_at h2, short_pair e f]
  rfl
theorem ShAt.next {ss : List Step} {i : Nat} {s u : Step} (k : ShAt ss i) (h : ss[i]? = some s) (h2 : ss[i + 1]? = some u) (e : oneF s = none) (f : pairF s u = none) : ShAt ss (i + 1) := by
  unfold ShAt
  rw [k, drop_at h, drop_at h2, short_skip e f, take_at h, Option.map_map]
  congr 1
  funext l
  show ss.take i ++ s :: l = ss.take i ++ [s] ++ l
  rw [List.append_assoc]
  rfl
theorem ShAt.end_ {ss : List Step} {i : Nat} {s : Step} (k : ShAt ss i) (h : ss[i]? = some s) (h2 : i + 1 = ss.length) (e : oneF s = none) : ShAt ss (i + 1) := by
  have ed : ss.drop (i + 1) = [] := List.drop_eq_nil_of_le (by omega)
  unfold ShAt
  rw [k, drop_at h, ed, short_last e]
  rfl
theorem ShAt.none_ {ss : List Step} (k : ShAt ss ss.length) : shortF ss = none := by
  rw [k, List.drop_length]
  rfl
/-! ### it ends -/
def muS : Step → Nat
  | .lift _ _ sh => 1 + sh
  | _ => 1
def muF (ss : List Step) : Nat := (ss.map muS).sum
theorem mu_app (a b : List Step) : muF (a ++ b) = muF a + muF b := by unfold muF; rw [List.map_append, List.sum_append]
theorem mu_cons (a : Step) (b : List Step) : muF (a :: b) = muS a + muF b := by unfold muF; rw [List.map_cons, List.sum_cons]
theorem one_mu {s : Step} {l : List Step} (h : oneF s = some l) : muF l < muS s := by
  cases s with
  | turn i => cases h
  | swap i j => cases h
  | lift t ws sh =>
    by_cases c : ∀ w ∈ ws, w = 0
    · rw [one_zero c] at h
      cases h
      show 0 < 1 + sh
      omega
    · by_cases d : 0 < sh ∧ ∀ w ∈ ws, w % 2 = 0
      · rw [one_half c d] at h
        cases h
        have := d.1
        show (1 + (sh - 1)) + 0 < 1 + sh
        omega
      · rw [one_none c d] at h
        cases h
theorem pair_mu {s u : Step} {l : List Step} (h : pairF s u = some l) : muF l < muS s + muS u := by
  cases s <;> cases u <;> simp only [pairF] at h <;> first | (cases h; done) | skip
  · split at h
    · cases h; show 0 < 1 + 1; omega
    · cases h
  · split at h
    · cases h; show 0 < 1 + 1; omega
    · cases h
  · split at h
    · cases h
      rename_i c
      show (1 + max _ _) + 0 < 1 + _ + (1 + _)
      omega
    · cases h
theorem short_mu : ∀ {ss l : List Step}, shortF ss = some l → muF l < muF ss
  | [], _, h => nomatch h
  | s :: r, l, h => by
    cases e : oneF s with
    | some x =>
      rw [short_one e] at h
      cases h
      rw [mu_app, mu_cons]
      have := one_mu e
      omega
    | none =>
      cases r with
      | nil => rw [short_last e] at h; cases h
      | cons u q =>
        cases f : pairF s u with
        | some x =>
          rw [short_pair e f] at h
          cases h
          rw [mu_app, mu_cons, mu_cons]
          have := pair_mu f
          omega
        | none =>
          rw [short_skip e f] at h
          obtain ⟨y, hy, rfl⟩ := Option.map_eq_some_iff.mp h
          have := short_mu hy
          rw [mu_cons s y, mu_cons s]
          omega
def tidyN : Nat → List Step → List Step
  | 0, ss => ss
  | n + 1, ss => match shortF ss with
    | none => ss
    | some l => tidyN n l
def tidyF (ss : List Step) : List Step := tidyN (muF ss) ss
theorem tidyN_none {ss : List Step} (h : shortF ss = none) (n : Nat) : tidyN n ss = ss := by
  cases n with
  | zero => rfl
  | succ n => unfold tidyN; rw [h]
theorem tidyN_any : ∀ (n m : Nat) (ss : List Step), muF ss ≤ n → muF ss ≤ m → tidyN n ss = tidyN m ss
  | n, m, ss, hn, hm => by
    cases e : shortF ss with
    | none => rw [tidyN_none e, tidyN_none e]
    | some l =>
      have := short_mu e
      cases n with
      | zero => omega
      | succ n =>
        cases m with
        | zero => omega
        | succ m =>
          unfold tidyN
          rw [e]
          exact tidyN_any n m l (by omega) (by omega)
theorem tidy_none {ss : List Step} (h : shortF ss = none) : tidyF ss = ss := tidyN_none h _
theorem tidy_some {ss l : List Step} (h : shortF ss = some l) : tidyF ss = tidyF l := by
  have := short_mu h
  unfold tidyF
  rw [show tidyN (muF ss) ss = tidyN (muF ss + 1) ss from tidyN_any _ _ _ (Nat.le_refl _) (by omega)]
  show (match shortF ss with | none => ss | some l => tidyN (muF ss) l) = _
  rw [h]
  exact tidyN_any _ _ _ (by omega) (Nat.le_refl _)
theorem tidy_ind {Q : List Step → Prop} (hq : ∀ {ss l : List Step}, Q ss → shortF ss = some l → Q l) : ∀ (n : Nat) {ss : List Step}, muF ss ≤ n → Q ss → Q (tidyF ss) ∧ shortF (tidyF ss) = none
  | n, ss, hn, h => by
    cases e : shortF ss with
    | none => rw [tidy_none e]; exact ⟨h, e⟩
    | some l =>
      have := short_mu e
      cases n with
      | zero => omega
      | succ n =>
        rw [tidy_some e]
        exact tidy_ind hq n (by omega) (hq h e)
theorem short_tidy (ss : List Step) : shortF (tidyF ss) = none := (tidy_ind (Q := fun _ => True) (fun _ _ => trivial) _ (Nat.le_refl _) trivial).2
theorem tidy_tidy (ss : List Step) : tidyF (tidyF ss) = tidyF ss := tidy_none (short_tidy ss)
/-! ### what is left of any order of such things -/
/-- a change of a few steps side by side that keeps R goes through -/
theorem short_keeps {R : List Step → List Step → Prop} (h1 : ∀ {s : Step} {l : List Step}, oneF s = some l → R [s] l) (h2 : ∀ {s u : Step} {l : List Step}, pairF s u = some l → R [s, u] l) (hr : ∀ {a b : List Step} (r : List Step), R a b → R (a ++ r) (b ++ r)) (hl : ∀ {a b : List Step} (s : Step), R a b → R (s :: a) (s :: b)) : ∀ {ss l : List Step}, shortF ss = some l → R ss l
  | [], _, h => nomatch h
  | s :: r, l, h => by
    cases e : oneF s with
    | some x =>
      rw [short_one e] at h
      cases h
      exact hr r (h1 e)
    | none =>
      cases r with
      | nil => rw [short_last e] at h; cases h
      | cons u q =>
        cases f : pairF s u with
        | some x =>
          rw [short_pair e f] at h
          cases h
          exact hr q (h2 f)
        | none =>
          rw [short_skip e f] at h
          obtain ⟨y, hy, rfl⟩ := Option.map_eq_some_iff.mp h
          exact hl s (short_keeps h1 h2 hr hl hy)
end My

namespace My
/-! ### what is made shorter mixes alike -/
theorem dot_zero : ∀ (ws xs : List Int), (∀ w ∈ ws, w = 0) → dotP ws xs = 0
  | [], xs, _ => by cases xs <;> rfl
  | _ :: _, [], _ => rfl
  | w :: ws, x :: xs, h => by
    show w * x + dotP ws xs = 0
    rw [h w List.mem_cons_self, dot_zero ws xs fun w hw => h w (List.mem_cons_of_mem _ hw), Int.zero_mul]
    rfl
theorem dot_half : ∀ (ws xs : List Int), (∀ w ∈ ws, w % 2 = 0) → dotP ws xs = 2 * dotP (ws.map fun w => w / 2) xs
  | [], xs, _ => by cases xs <;> rfl
  | _ :: _, [], _ => rfl
  | w :: ws, x :: xs, h => by
    show w * x + dotP ws xs = 2 * (w / 2 * x + dotP (ws.map fun w => w / 2) xs)
    have hw := h w List.mem_cons_self
    rw [dot_half ws xs fun w hw => h w (List.mem_cons_of_mem _ hw), Int.mul_add, ← Int.mul_assoc, show 2 * (w / 2) = w by omega]
theorem dot_zipM (c d : Int) : ∀ (ws us xs : List Int), ws.length = us.length → dotP (List.zipWith (fun w u => w * c + u * d) ws us) xs = dotP ws xs * c + dotP us xs * d
  | [], [], xs, _ => by cases xs <;> (show (0 : Int) = 0 * c + 0 * d; rw [Int.zero_mul, Int.zero_mul]; rfl)
  | _ :: _, _ :: _, [], _ => by show (0 : Int) = 0 * c + 0 * d; rw [Int.zero_mul, Int.zero_mul]; rfl
  | w :: ws, u :: us, x :: xs, h => by
    show (w * c + u * d) * x + dotP (List.zipWith (fun w u => w * c + u * d) ws us) xs = (w * x + dotP ws xs) * c + (u * x + dotP us xs) * d
    rw [dot_zipM c d ws us xs (by simpa using h), Int.add_mul, Int.add_mul, Int.add_mul, Int.mul_right_comm w c x, Int.mul_right_comm u d x]
    omega
  | [], _ :: _, _, h => by simp at h
  | _ :: _, [], _, h => by simp at h
theorem set_self (xs : List Int) (t : Nat) (v : Int) (h : v = xs.getD t 0) : xs.set t v = xs := by
  apply List.ext_getElem (by rw [List.length_set])
  intro i h1 h2
  rw [List.getElem_set]
  split
  · rename_i e
    subst e
    rw [h, List.getD_eq_getElem?_getD, List.getElem?_eq_getElem h2]
    rfl
  · rfl
theorem two_pow_pos' (k : Nat) : (0 : Int) < 2 ^ k := Int.pow_pos (by decide)
theorem pow_sub_mul {m s : Nat} (h : s ≤ m) : (2 : Int) ^ (m - s) * 2 ^ s = 2 ^ m := by
  rw [← Int.pow_add, Nat.sub_add_cancel h]
/-- two floors, one of them of a whole number -/
theorem floor_pair (a b : Int) {s t : Nat} (h : min s t = 0) : (a * 2 ^ (max s t - s) + b * 2 ^ (max s t - t)) / 2 ^ max s t = a / 2 ^ s + b / 2 ^ t := by
  rcases Nat.eq_zero_or_pos s with z | z
  · subst z
    rw [Nat.zero_max, Nat.sub_zero, Nat.sub_self, Int.pow_zero, Int.mul_one, Int.ediv_one, Int.add_comm, Int.add_mul_ediv_right _ _ (by have := two_pow_pos' t; omega), Int.add_comm]
  · have : t = 0 := by omega
    subst this
    rw [Nat.max_zero, Nat.sub_zero, Nat.sub_self, Int.pow_zero, Int.mul_one, Int.ediv_one, Int.add_mul_ediv_right _ _ (by have := two_pow_pos' s; omega)]
theorem half_floor (a : Int) {s : Nat} (h : 0 < s) : 2 * a / 2 ^ s = a / 2 ^ (s - 1) := by
  obtain ⟨k, rfl⟩ : ∃ k, s = k + 1 := ⟨s - 1, by omega⟩
  rw [Nat.add_sub_cancel, Int.pow_succ, Int.mul_comm _ 2, Int.mul_ediv_mul_of_pos _ _ (by decide)]
theorem play_cons (s : Step) (r : List Step) (xs : List Int) : playF (s :: r) xs = playF r (stepF 1 s xs) := rfl
theorem one_play {s : Step} {l : List Step} {xs : List Int} (h : oneF s = some l) : playF [s] xs = playF l xs := by
  cases s with
  | turn i => cases h
  | swap i j => cases h
  | lift t ws sh =>
    by_cases c : ∀ w ∈ ws, w = 0
    · rw [one_zero c] at h
      cases h
      show xs.set t (xs.getD t 0 + 1 * (dotP ws xs / 2 ^ sh)) = xs
      rw [dot_zero ws xs c, Int.zero_ediv]
      exact set_self xs t _ (by omega)
    · by_cases d : 0 < sh ∧ ∀ w ∈ ws, w % 2 = 0
      · rw [one_half c d] at h
        cases h
        show xs.set t (xs.getD t 0 + 1 * (dotP ws xs / 2 ^ sh)) = xs.set t (xs.getD t 0 + 1 * (dotP (ws.map fun w => w / 2) xs / 2 ^ (sh - 1)))
        rw [dot_half ws xs d.2, half_floor _ d.1]
      · rw [one_none c d] at h
        cases h
theorem pair_play {s u : Step} {l : List Step} {xs : List Int} (hs : s.ok xs.length) (hu : u.ok xs.length) (h : pairF s u = some l) : playF [s, u] xs = playF l xs := by
  cases s with
  | turn i =>
    cases u with
    | turn j =>
      by_cases c : i = j
      · subst c
        have e : pairF (.turn i) (.turn i) = some [] := if_pos rfl
        rw [e] at h
        cases h
        exact step_back (-1) (s := .turn i) hs
      · rw [show pairF (.turn i) (.turn j) = none from if_neg c] at h
        cases h
    | _ => cases h
  | swap a b =>
    cases u with
    | swap c d =>
      by_cases e : (a = c ∧ b = d) ∨ (a = d ∧ b = c)
      · rw [show pairF (.swap a b) (.swap c d) = some [] from if_pos e] at h
        cases h
        rcases e with ⟨rfl, rfl⟩ | ⟨rfl, rfl⟩
        · exact step_back (-1) (s := .swap a b) hs
        · show stepF 1 (.swap b a) (stepF 1 (.swap a b) xs) = xs
          have k : stepF 1 (.swap b a) = stepF 1 (.swap a b) ∨ True := .inr trivial
          have e2 : stepF 1 (.swap b a) (stepF 1 (.swap a b) xs) = stepF 1 (.swap a b) (stepF 1 (.swap a b) xs) := by
            have hab : b ≠ a := fun z => hs.2.2 z.symm
            show (List.set _ b _).set a _ = (List.set _ a _).set b _
            rw [List.set_comm _ _ hab]
          rw [e2]
          exact step_back (-1) (s := .swap a b) hs
      · rw [show pairF (.swap a b) (.swap c d) = none from if_neg e] at h
        cases h
    | _ => cases h
  | lift a ws s =>
    cases u with
    | lift b us t =>
      by_cases c : a = b ∧ min s t = 0
      · rw [show pairF (.lift a ws s) (.lift b us t) = _ from if_pos c] at h
        cases h
        obtain ⟨rfl, hm⟩ := c
        obtain ⟨ha, hwl, hw0, _, _⟩ := hs
        obtain ⟨_, hul, hu0, _, _⟩ := hu
        show (xs.set a (xs.getD a 0 + 1 * (dotP ws xs / 2 ^ s))).set a ((xs.set a (xs.getD a 0 + 1 * (dotP ws xs / 2 ^ s))).getD a 0 + 1 * (dotP us (xs.set a (xs.getD a 0 + 1 * (dotP ws xs / 2 ^ s))) / 2 ^ t)) = xs.set a (xs.getD a 0 + 1 * (dotP (List.zipWith (fun w u => w * 2 ^ (max s t - s) + u * 2 ^ (max s t - t)) ws us) xs / 2 ^ max s t))
        rw [dot_set _ _ _ _ hu0, getD_set ha, if_pos rfl, dot_zipM _ _ _ _ _ (by omega), floor_pair _ _ hm, List.set_set]
        congr 1
        omega
      · rw [show pairF (.lift a ws s) (.lift b us t) = none from if_neg c] at h
        cases h
    | _ => cases h
/-! ### what is made shorter is steps still, its weights are not too great -/
def Step.okl (n : Nat) : Step → Prop
  | .turn i => i < n
  | .swap i j => i < n ∧ j < n ∧ i ≠ j
  | .lift t ws sh => t < n ∧ ws.length = n ∧ ws.getD t 0 = 0 ∧ sh ≤ 15
theorem Step.ok.okl {n : Nat} {s : Step} (h : s.ok n) : s.okl n := by
  cases s with
  | turn i => exact h
  | swap i j => exact h
  | lift t ws sh => exact ⟨h.1, h.2.1, h.2.2.1, h.2.2.2.1⟩
def wsum (ws : List Int) : Nat := (ws.map Int.natAbs).sum
def magS : Step → Nat
  | .lift _ ws sh => wsum ws * 2 ^ (15 - sh)
  | _ => 0
def magF (ss : List Step) : Nat := (ss.map magS).sum
theorem mag_app (a b : List Step) : magF (a ++ b) = magF a + magF b := by unfold magF; rw [List.map_append, List.sum_append]
theorem mag_cons (a : Step) (b : List Step) : magF (a :: b) = magS a + magF b := by unfold magF; rw [List.map_cons, List.sum_cons]
theorem wsum_mem : ∀ {ws : List Int} {w : Int}, w ∈ ws → w.natAbs ≤ wsum ws
  | v :: ws, w, h => by
    show _ ≤ v.natAbs + wsum ws
    rcases List.mem_cons.mp h with rfl | h
    · omega
    · have := wsum_mem h
      omega
theorem wsum_half : ∀ (ws : List Int), (∀ w ∈ ws, w % 2 = 0) → wsum ws = 2 * wsum (ws.map fun w => w / 2)
  | [], _ => rfl
  | w :: ws, h => by
    show w.natAbs + wsum ws = 2 * ((w / 2).natAbs + wsum (ws.map fun w => w / 2))
    rw [wsum_half ws fun w hw => h w (List.mem_cons_of_mem _ hw)]
    have := h w List.mem_cons_self
    omega
theorem wsum_zip (c d : Nat) : ∀ (ws us : List Int), wsum (List.zipWith (fun w u => w * 2 ^ c + u * 2 ^ d) ws us) ≤ wsum ws * 2 ^ c + wsum us * 2 ^ d
  | [], us => by cases us <;> exact Nat.zero_le _
  | _ :: _, [] => Nat.zero_le _
  | w :: ws, u :: us => by
    show (w * 2 ^ c + u * 2 ^ d).natAbs + wsum (List.zipWith (fun w u => w * 2 ^ c + u * 2 ^ d) ws us) ≤ (w.natAbs + wsum ws) * 2 ^ c + (u.natAbs + wsum us) * 2 ^ d
    have ih := wsum_zip c d ws us
    have h := Int.natAbs_add_le (w * 2 ^ c) (u * 2 ^ d)
    rw [Int.natAbs_mul, Int.natAbs_mul, Int.natAbs_pow, Int.natAbs_pow] at h
    rw [Nat.add_mul, Nat.add_mul]
    have e : (2 : Int).natAbs = 2 := rfl
    rw [e] at h
    omega
def Good (n B : Nat) (ss : List Step) : Prop := (∀ s ∈ ss, s.okl n) ∧ magF ss ≤ B
theorem one_good {n : Nat} {s : Step} {l : List Step} (hs : s.okl n) (h : oneF s = some l) : (∀ t ∈ l, t.okl n) ∧ magF l ≤ magS s ∧ l.length ≤ 1 := by
  cases s with
  | turn i => cases h
  | swap i j => cases h
  | lift t ws sh =>
    by_cases c : ∀ w ∈ ws, w = 0
    · rw [one_zero c] at h
      cases h
      exact ⟨(fun _ z => nomatch z), Nat.zero_le _, Nat.zero_le _⟩
    · by_cases d : 0 < sh ∧ ∀ w ∈ ws, w % 2 = 0
      · rw [one_half c d] at h
        cases h
        obtain ⟨ht, hl, h0, h15⟩ := hs
        refine ⟨fun r hr => ?_, ?_, Nat.le_refl 1⟩
        · rw [List.mem_singleton.mp hr]
          refine ⟨ht, by rw [List.length_map]; exact hl, ?_, by omega⟩
          rw [List.getD_eq_getElem?_getD, List.getElem?_map, List.getElem?_eq_getElem (by omega)]
          rw [List.getD_eq_getElem?_getD, List.getElem?_eq_getElem (by omega)] at h0
          show ws[_]'_ / 2 = 0
          have : ws[t]'(by omega) = 0 := h0
          omega
        · show wsum (ws.map fun w => w / 2) * 2 ^ (15 - (sh - 1)) + 0 ≤ wsum ws * 2 ^ (15 - sh)
          rw [wsum_half ws d.2, show 15 - (sh - 1) = 15 - sh + 1 by omega, Nat.pow_succ, Nat.add_zero, Nat.mul_comm 2, Nat.mul_assoc, Nat.mul_comm 2]
          exact Nat.le_refl _
      · rw [one_none c d] at h
        cases h
theorem pair_good {n : Nat} {s u : Step} {l : List Step} (hs : s.okl n) (hu : u.okl n) (h : pairF s u = some l) : (∀ t ∈ l, t.okl n) ∧ magF l ≤ magS s + magS u ∧ l.length ≤ 2 := by
  cases s with
  | turn i =>
    cases u with
    | turn j =>
      have e : l = [] := by
        simp only [pairF] at h
        split at h
        · exact (Option.some.inj h).symm
        · cases h
      subst e
      exact ⟨(fun _ z => nomatch z), Nat.zero_le _, Nat.zero_le _⟩
    | _ => cases h
  | swap a b =>
    cases u with
    | swap c d =>
      have e : l = [] := by
        simp only [pairF] at h
        split at h
        · exact (Option.some.inj h).symm
        · cases h
      subst e
      exact ⟨(fun _ z => nomatch z), Nat.zero_le _, Nat.zero_le _⟩
    | _ => cases h
  | lift a ws s =>
    cases u with
    | lift b us t =>
      by_cases c : a = b ∧ min s t = 0
      · rw [show pairF (.lift a ws s) (.lift b us t) = _ from if_pos c] at h
        cases h
        obtain ⟨rfl, hm⟩ := c
        obtain ⟨ha, hwl, hw0, hs15⟩ := hs
        obtain ⟨_, hul, hu0, ht15⟩ := hu
        refine ⟨fun r hr => ?_, ?_, (show 1 ≤ 2 by decide)⟩
        · rw [List.mem_singleton.mp hr]
          refine ⟨ha, by rw [List.length_zipWith]; omega, ?_, by omega⟩
          rw [List.getD_eq_getElem?_getD, List.getElem?_eq_getElem (by omega)] at hw0 hu0
          have e1 : ws[a]'(by omega) = 0 := hw0
          have e2 : us[a]'(by omega) = 0 := hu0
          rw [List.getD_eq_getElem?_getD, List.getElem?_eq_getElem (by rw [List.length_zipWith]; omega), List.getElem_zipWith, e1, e2, Int.zero_mul, Int.zero_mul]
          rfl
        · show wsum (List.zipWith _ ws us) * 2 ^ (15 - max s t) + 0 ≤ wsum ws * 2 ^ (15 - s) + wsum us * 2 ^ (15 - t)
          have k := Nat.mul_le_mul_right (2 ^ (15 - max s t)) (wsum_zip (max s t - s) (max s t - t) ws us)
          rw [Nat.add_mul, Nat.mul_assoc, Nat.mul_assoc, ← Nat.pow_add, ← Nat.pow_add, show max s t - s + (15 - max s t) = 15 - s by omega, show max s t - t + (15 - max s t) = 15 - t by omega] at k
          omega
      · rw [show pairF (.lift a ws s) (.lift b us t) = none from if_neg c] at h
        cases h
    | _ => cases h
theorem short_good {n B : Nat} {ss l : List Step} (g : Good n B ss) (h : shortF ss = some l) : Good n B l ∧ l.length ≤ ss.length := by
  have := short_keeps (R := fun a b => (∀ s ∈ a, s.okl n) → (∀ s ∈ b, s.okl n) ∧ magF b ≤ magF a ∧ b.length ≤ a.length)
    (fun {s l} e k => by
      have := one_good (k s List.mem_cons_self) e
      exact ⟨this.1, by rw [mag_cons]; exact Nat.le_trans this.2.1 (Nat.le_add_right _ _), this.2.2⟩)
    (fun {s u l} e k => by
      have := pair_good (k s List.mem_cons_self) (k u (List.mem_cons_of_mem _ List.mem_cons_self)) e
      exact ⟨this.1, by rw [mag_cons, mag_cons]; have := this.2.1; omega, this.2.2⟩)
    (fun {a b} r e k => by
      have := e fun s hs => k s (List.mem_append_left _ hs)
      refine ⟨fun s hs => (List.mem_append.mp hs).elim (this.1 s) fun h => k s (List.mem_append_right _ h), by rw [mag_app, mag_app]; have := this.2.1; omega, by rw [List.length_append, List.length_append]; have := this.2.2; omega⟩)
    (fun {a b} s e k => by
      have := e fun t ht => k t (List.mem_cons_of_mem _ ht)
      refine ⟨fun t ht => (List.mem_cons.mp ht).elim (fun z => z ▸ k s List.mem_cons_self) (this.1 t), by rw [mag_cons, mag_cons]; have := this.2.1; omega, by rw [List.length_cons, List.length_cons]; have := this.2.2; omega⟩)
    h g.1
  exact ⟨⟨this.1, Nat.le_trans this.2.1 g.2⟩, this.2.2⟩
theorem Good.ok {n : Nat} {ss : List Step} (g : Good n (2 ^ 36) ss) : ∀ s ∈ ss, s.ok n := fun s hs => by
  have hk := g.1 s hs
  have hm : magS s ≤ 2 ^ 36 := by
    refine Nat.le_trans ?_ g.2
    have : ∀ {l : List Step}, s ∈ l → magS s ≤ magF l := fun {l} h => by
      induction l with
      | nil => cases h
      | cons a r ih =>
        rw [mag_cons]
        rcases List.mem_cons.mp h with rfl | h
        · omega
        · have := ih h
          omega
    exact this hs
  cases s with
  | turn i => exact hk
  | swap i j => exact hk
  | lift t ws sh =>
    refine ⟨hk.1, hk.2.1, hk.2.2.1, hk.2.2.2, fun w hw => ?_⟩
    have h1 := wsum_mem hw
    have h2 : wsum ws ≤ magS (.lift t ws sh) := Nat.le_mul_of_pos_right _ (Nat.two_pow_pos _)
    omega
theorem short_play {n : Nat} {ss l : List Step} (h : shortF ss = some l) {xs : List Int} (hx : xs.length = n) (ok : ∀ s ∈ ss, s.ok n) : playF ss xs = playF l xs := by
  exact short_keeps (R := fun a b => ∀ xs : List Int, xs.length = n → (∀ s ∈ a, s.ok n) → playF a xs = playF b xs)
    (fun e xs _ _ => one_play e)
    (fun {s u l} e xs hx k => pair_play (hx ▸ k s List.mem_cons_self) (hx ▸ k u (List.mem_cons_of_mem _ List.mem_cons_self)) e)
    (fun r e xs hx k => by rw [play_app, play_app, e xs hx fun s hs => k s (List.mem_append_left _ hs)])
    (fun s e xs hx k => by
      rw [play_cons, play_cons]
      exact e _ (by rw [stepF_len]; exact hx) fun t ht => k t (List.mem_cons_of_mem _ ht))
    h xs hx ok
theorem tidy_good {n : Nat} {ss : List Step} (g : Good n (2 ^ 36) ss) : Good n (2 ^ 36) (tidyF ss) ∧ (tidyF ss).length ≤ ss.length ∧ ∀ xs : List Int, xs.length = n → playF (tidyF ss) xs = playF ss xs :=
  (tidy_ind (Q := fun t => Good n (2 ^ 36) t ∧ t.length ≤ ss.length ∧ ∀ xs : List Int, xs.length = n → playF t xs = playF ss xs)
    (fun {t l} ⟨g1, g2, g3⟩ e => by
      have := short_good g1 e
      exact ⟨this.1, Nat.le_trans this.2 g2, fun xs hx => by rw [← g3 xs hx, short_play e hx g1.ok]⟩) _ (Nat.le_refl _) ⟨g, Nat.le_refl _, fun _ _ => rfl⟩).1
end My

namespace My
open PySem PySem.Spec PyProof.Rows PySem.W L2 Pre
/-! ### sorted of a tuple of whole numbers, any of whole numbers -/
section
variable {prog : Program} {w : World} {A : Around} {E : Value → Shared → Prop} {s : Shared}
theorem sorted_tupI {l : Addr} {vs : List Value} {ns : List Int} {Q : Value → Shared → Prop} (hl : IsTup s.heap l vs.toArray) (hz : vs.length ≤ sizeLine) (hI : IntsAre vs ns)
    (hQ : ∀ (h1 h' : Heap) p (out : List Value) (c : Nat), (∀ b o, s.heap.get? b = some o → h1.get? b = some o) → (∀ b o, h1.get? b = some o → h'.get? b = some o) → h1.objs.size ≤ p → h'.get? p = some (seqObj "list" out.toArray c) → IntsAre out (out.map SrtO.iv) → (out.map SrtO.iv).Perm ns → (out.map SrtO.iv).Pairwise (· ≤ ·) → Q (.ref p) { s with heap := h' }) :
    wpAny (model prog w) A (call (.builtin "sorted") [.ref l]) Q E s := by
  obtain ⟨o, ho, hc, n, hd⟩ := hl
  refine Calls.call_function_entry kind_sorted plain_sorted entry_sorted (args_sorted1 _) ?_
  unfold Builtin.«sorted»
  refine wpAny_bind (m := checkCount "sorted" 1 1 _) (wpAny_pure ?_)
  refine wpAny_bind (wpAny_collect_seq l (.inr rfl) ho hc hd (fun h1 k1 => ?_) (by rw [List.size_toArray]; exact hz))
  rw [List.toList_toArray]
  refine wpAny_bind (wpAny_newList ?_ hz)
  have hoL : (h1.push (seqObj "list" vs.toArray 0)).get? h1.objs.size = some (seqObj "list" vs.toArray 0) := Heap.get?_push_size _ rfl
  refine wpAny_bind (wpAny_holding (wpAny_call_entry slot_list_sort ⟨_, hoL, rfl⟩ entry_list_sort (SrtO.list_sort_ord SrtO.swo_int hoL hz (fun h2 => SrtO.ints_sortable hI h2) fun out hs hb => ⟨_, rfl, ?_⟩) (args_list_sort _)))
  obtain ⟨k2, k3, k4⟩ := SrtO.ints_out hI hs hb
  obtain ⟨c, hc'⟩ := sortedHeap_at (vs := vs) (out := out.toArray) hoL
  refine wpAny_pure ⟨_, rfl, hQ h1 _ h1.objs.size out c k1 (fun b u q => ?_) (Nat.le_refl _) hc' k2 k3 k4⟩
  have hlt := Heap.lt_size q
  show (sortedHeap (h1.push (seqObj "list" vs.toArray 0)) h1.objs.size vs out.toArray).get? b = some u
  rw [sortedHeap_old (Nat.ne_of_lt hlt) (by rw [size_push']; exact Nat.lt_succ_of_lt hlt)]
  exact Heap.get?_push_of_some _ q
end
def rSortedT (K : PySem.W.Frag) : List V → Hp → VK → Prop := fun vs H Q => ∃ (a : Addr) (ns : List Int), vs = [V.ref a] ∧ SqT K H a (ns.map V.int) ∧
  ∀ (ns' : List Int) (p : Addr), ns'.Perm ns → ns'.Pairwise (· ≤ ·) → H p = none → Q (.ref p) (upd H p (.lst (ns'.map V.int)))
theorem k_sortedT {X : Cx} (K : PySem.W.Frag) (h : X.K = K) : CallR X (.builtin "sorted") (rSortedT K) := by
  subst h
  intro pins s σ H vs us Q I r h
  obtain ⟨a, ns, rfl, hs, q⟩ := h
  obtain ⟨its, rv, hl, hz⟩ := I.tuple hs
  rw [Vals.ref1 r]
  have hi := rv.ints
  refine sorted_tupI hl (by rw [← rv.length]; exact hz) hi fun h1 h' p out c k0 k hp hg k1 k2 k3 => ?_
  have hlen : ((out.map SrtO.iv).map V.int).length ≤ sizeLine := by
    rw [List.length_map, k2.length_eq]
    rw [List.length_map] at hz
    exact hz
  have I1 : Inv X pins σ H { s with heap := h1 } := I.kept (t' := s.toks) k0
  exact ⟨.ref p, upd H p (.lst ((out.map SrtO.iv).map V.int)), I1.laid (t' := s.toks) k hp ⟨hlen, out, c, vals_of_ints k1, hg⟩, rfl, q _ _ k2 k3 (I1.hok.fresh hp)⟩
theorem truth_intsT {prog : Program} {w : World} {A : Around} {its : List Value} {ns : List Int} (e : IntsAre its ns) :
    TruthOf prog w A (fun i v => its.toArray[i]? = some v) (fun i => ns.getD i 0 != 0) := fun i v s Q E hv hq => by
  have hv' : its[i]? = some v := by simpa using hv
  obtain ⟨t, rfl⟩ : ∃ t, v = .int (ns.getD i 0) t := by
    induction e generalizing i with
    | nil => simp at hv'
    | @cons n t _ _ _ ih =>
      cases i with
      | zero =>
        simp only [List.getElem?_cons_zero, Option.some.injEq] at hv'
        subst hv'
        exact ⟨t, rfl⟩
      | succ i => exact ih i (by simpa using hv') (by simpa using hq) (by simpa using hv')
  exact truthy_int hq
theorem any_rangeI : ∀ ns : List Int, (List.range ns.length).any (fun i => ns.getD i 0 != 0) = ns.any (· != 0)
  | [] => rfl
  | b :: bs => by
    rw [List.length_cons, List.range_succ_eq_map, List.any_cons, List.any_map, List.any_cons, ← any_rangeI bs]
    all_goals rfl
def rAnyI (K : PySem.W.Frag) : List V → Hp → VK → Prop := fun vs H Q => ∃ (a : Addr) (ns : List Int), vs = [V.ref a] ∧ (SqL K H a (ns.map V.int) ∨ SqT K H a (ns.map V.int)) ∧ Q (.bl (ns.any (· != 0))) H
theorem k_anyI {X : Cx} (K : PySem.W.Frag) (h : X.K = K) (hc : X.calm = true) : CallR X (.builtin "any") (rAnyI K) := by
  subst h
  intro pins s σ H vs us Q I r h
  obtain ⟨a, ns, rfl, hs, q⟩ := h
  rcases hs with hs | hs
  · obtain ⟨its, rv, hl, _⟩ := I.list hs
    rw [Vals.ref1 r]
    have hi := rv.ints
    refine call_any_walk (iter_any hl.isList fun s₂ e2 st hne => ?_)
    subst e2
    refine ⟨_, _, _, _, _, _, _, rfl, Walks.list (A := X.A.in1) (I.ok.hd hc) _ a hne its.toArray, st, truth_intsT hi, fun h' tk hk => ?_⟩
    refine ⟨.bl _, H, I.kept fun b o eo => hk b o (fun hmem => ?_) (Heap.get?_push_of_some _ eo), ?_, q⟩
    · rcases List.mem_cons.mp hmem with e1 | hmem
      · exact absurd (e1 ▸ Heap.lt_size eo) (Nat.lt_irrefl _)
      · cases hmem
    · show Value.bool _ = Value.bool _
      rw [← any_rangeI, List.size_toArray, hi.length]
  · obtain ⟨its, rv, hl, _⟩ := I.tuple hs
    rw [Vals.ref1 r]
    have hi := rv.ints
    have hlt : a < s.heap.objs.size := by obtain ⟨_, e, _⟩ := hl; exact Heap.lt_size e
    refine call_any_walk (wpAny_pyIter_tuple hl ?_)
    refine ⟨_, _, _, _, _, _, _, rfl, Walks.tuple (A := X.A.in1) (I.ok.hd hc) s.heap.objs.size a (Nat.ne_of_lt hlt) its.toArray, ⟨⟨_, Heap.get?_push_size _ rfl, rfl, rfl⟩, hl.push _⟩, truth_intsT hi, fun h' tk hk => ?_⟩
    refine ⟨.bl _, H, I.kept fun b o eo => hk b o (fun hmem => ?_) (Heap.get?_push_of_some _ eo), ?_, q⟩
    · rcases List.mem_cons.mp hmem with e1 | hmem
      · exact absurd (e1 ▸ Heap.lt_size eo) (Nat.lt_irrefl _)
      · cases hmem
    · show Value.bool _ = Value.bool _
      rw [← any_rangeI, List.size_toArray, hi.length]
end My

namespace My
open PySem PySem.Spec PyProof.Rows L2 Pre
def tagS : Step → V
  | .turn _ => sT
  | .swap _ _ => sS
  | .lift _ _ _ => sL
theorem sorted_same {l1 l2 A B : List Int} (p1 : l1.Perm A) (w1 : l1.Pairwise (· ≤ ·)) (p2 : l2.Perm B) (w2 : l2.Pairwise (· ≤ ·)) : l1 = l2 ↔ A.Perm B := by
  constructor
  · intro e
    subst e
    exact p1.symm.trans p2
  · intro h
    exact List.Perm.eq_of_pairwise (fun a b _ _ h1 h2 => Int.le_antisymm h1 h2) w1 w2 (p1.trans (h.trans p2.symm))
theorem pair_turn_t {i j : Nat} (h : [(i : Int)].Perm [(j : Int)]) : pairF (.turn i) (.turn j) = some [] := by
  have := List.cons.inj (List.perm_singleton.mp h)
  exact if_pos (by omega)
theorem pair_turn_f {i j : Nat} (h : ¬ [(i : Int)].Perm [(j : Int)]) : pairF (.turn i) (.turn j) = none := if_neg fun e => h (by rw [e])
theorem perm_two {a b c d : Int} : [a, b].Perm [c, d] ↔ (a = c ∧ b = d) ∨ (a = d ∧ b = c) := by
  constructor
  · intro h
    have ha : a ∈ [c, d] := h.mem_iff.mp List.mem_cons_self
    rcases List.mem_cons.mp ha with rfl | ha
    · have := List.perm_singleton.mp (List.Perm.cons_inv h)
      exact .inl ⟨rfl, (List.cons.inj this).1⟩
    · obtain rfl := List.mem_singleton.mp ha
      have h2 : [a, b].Perm [a, c] := h.trans (List.Perm.swap a c [])
      have := List.perm_singleton.mp (List.Perm.cons_inv h2)
      exact .inr ⟨rfl, (List.cons.inj this).1⟩
  · rintro (⟨rfl, rfl⟩ | ⟨rfl, rfl⟩)
    · exact List.Perm.refl _
    · exact List.Perm.swap _ _ []
theorem pair_swap_t {i j k l : Nat} (h : [(i : Int), (j : Int)].Perm [(k : Int), (l : Int)]) : pairF (.swap i j) (.swap k l) = some [] := if_pos (by have := perm_two.mp h; omega)
theorem pair_swap_f {i j k l : Nat} (h : ¬ [(i : Int), (j : Int)].Perm [(k : Int), (l : Int)]) : pairF (.swap i j) (.swap k l) = none := if_neg fun e => h (perm_two.mpr (by omega))
local macro_rules | `(tactic| walk_at "go") => `(tactic| repeat (first | (with_reducible first | refine iteT ?_ | refine iteF ?_ | refine iteNtt ?_ | refine iteNff ?_ | refine iteET (by omega) ?_ | refine iteEF (by omega) ?_ | refine iteENT (by omega) ?_ | refine iteENF (by omega) ?_ | refine iteDT (by omega) ?_ | refine iteDF (by omega) ?_ | refine iteNT (by omega) ?_ | refine iteNF (by omega) ?_) | refine ⟨_, rfl, ?_⟩ | refine ⟨_, _, rfl, rfl, ?_⟩ | refine ⟨_, _, rfl, ?_⟩ | refine ⟨rfl, ?_⟩ | refine .inl ⟨_, rfl, ?_⟩ | refine .inr ⟨_, rfl, ?_⟩))
local macro_rules | `(tactic| walk_at "b") => `(tactic| try dsimp (config := { proj := false, iota := false, eta := false, zeta := false }) only)
section
variable {P : Program} {w : World} {K : PySem.W.Frag} {mg : Str → Option Value} {base : Heap}
def sp_paired (K : PySem.W.Frag) : Sp := fun vs H Q _ => ∃ (v u : V) (n : Nat) (s t : Step), vs = [v, u] ∧ RowV H v s ∧ RowV H u t ∧ s.ok n ∧ t.ok n ∧ n ≤ 4 ∧
  (pairF s t = none → ∀ H', Same H H' → Q .non H') ∧ ∀ l, pairF s t = some l → ∀ H' p us, Same H H' → H p = none → H' p = some (.lst us) → AllV (RowV H') us l → Q (.ref p) H'
theorem G_paired (T : Top K mg) : FnOk P w K mg base CX0 1 T.f_paired T.fd_paired ["row", "behind"] (sp_paired K) := by
  refine T.F_paired.ok sc_paired (fun vs H Q E h => by obtain ⟨v, u, n, s, t, rfl, _⟩ := h; rfl) (fun cdv A outer s H vs Q E hr h => ?_)
  obtain ⟨v, u, n, s, t, rfl, hV, hU, hO, hP, hn4, q1, q2⟩ := h
  refine ⟨_, PSs.nox (pss_cons (ps_if (pt_cmpR op_ne (pe_ix (k_ixT K rfl) (pv 0) pe_int (fun _ _ => rfl)) (pe_ix (k_ixT K rfl) (pv 1) pe_int (fun _ _ => rfl)) (nomark _))
    (pss_one (ps_ret pe_non))
    pss_nil)
  (pss_cons (ps_if (pt_cmpR op_ne (pe_ix (k_ixT K rfl) (pv 0) pe_int (fun _ _ => rfl)) pe_str (nomark _))
    (pss_one (ps_ret (pe_ifExp (pt_cmpR (k_eqD K rfl hr.units) (pe_callB (k_sortedT K rfl) (by rfl) T.n_sorted (by decide +kernel) (pa_cons (pe_slice (k_slT K rfl) (pv 0) (po_some pe_int) po_none) pa_nil)) (pe_callB (k_sortedT K rfl) (by rfl) T.n_sorted (by decide +kernel) (pa_cons (pe_slice (k_slT K rfl) (pv 1) (po_some pe_int) po_none) pa_nil)) (nomark _)) (pe_lst pa_nil) pe_non)))
    pss_nil)
  (pss_cons (ps_if (PW.pt (pw_or (pt_cmpR op_ne (pe_ix (k_ixT K rfl) (pv 0) pe_int (fun _ _ => rfl)) (pe_ix (k_ixT K rfl) (pv 1) pe_int (fun _ _ => rfl)) (nomark _)) (pw_or1 (PW.pt (pw_and (pt_cmpR op_gt (pe_ix (k_ixT K rfl) (pv 0) pe_int (fun _ _ => rfl)) pe_int (nomark _)) (pw_and1 (pt_cmpR op_gt (pe_ix (k_ixT K rfl) (pv 1) pe_int (fun _ _ => rfl)) pe_int (nomark _))))))))
    (pss_one (ps_ret pe_non))
    pss_nil)
  (pss_cons (ps_par (by rfl) sc_paired.nd (i := 2) (j := 3) rfl rfl (by decide) rfl rfl (pa_cons (pe_callB (call_max2 rfl) (by rfl) T.n_max (by decide +kernel) (pa_cons (pe_ix (k_ixT K rfl) (pv 0) pe_int (fun _ _ => rfl)) (pa_cons (pe_ix (k_ixT K rfl) (pv 1) pe_int (fun _ _ => rfl)) pa_nil))) (pa_cons (pe_lst pa_nil) pa_nil)) (by rfl))
  (pss_cons (ps_for PassesOwn.never rfl (k_piZT K rfl (by rfl) T.n_zip (pa_cons (pe_ix (k_ixT K rfl) (pv 0) pe_int (fun _ _ => rfl)) (pa_cons (pe_ix (k_ixT K rfl) (pv 1) pe_int (fun _ _ => rfl)) pa_nil)) (pk_cons pe_bl pk_nil)) (k_pgT K rfl (by rfl) (pgs_cons (pg_name (i := 4) sc_paired.nd rfl (by first | exact Or.inl rfl | exact Or.inr rfl)) (pgs_cons (pg_name (i := 5) sc_paired.nd rfl (by first | exact Or.inl rfl | exact Or.inr rfl)) pgs_nil)))
    (pss_one (ps_expr (pe_bm PySem.F.plainAttrs_list PySem.F.slot_list_append PySem.F.type_list_append mt_append (pv 3) (pa_cons (pe_op op_add (pe_op op_shlW (pv 4) (pe_op op_sub (pv 2) (pe_ix (k_ixT K rfl) (pv 0) pe_int (fun _ _ => rfl)))) (pe_op op_shlW (pv 5) (pe_op op_sub (pv 2) (pe_ix (k_ixT K rfl) (pv 1) pe_int (fun _ _ => rfl))))) pa_nil)))))
  (pss_one (ps_ret (pe_lst (pa_cons (pe_tup (pa_cons pe_str (pa_cons (pe_ix (k_ixT K rfl) (pv 0) pe_int (fun _ _ => rfl)) (pa_cons (pe_callTy (k_tupleOf K rfl) (by rfl) T.n_tuple (by decide +kernel) (pa_cons (pv 3) pa_nil)) (pa_cons (pv 2) pa_nil))))) pa_nil))))))))), ?_⟩
  have tag : ∀ {v : V} {s : Step}, RowV H v s → ∃ a xs, v = .ref a ∧ H a = some (.tup xs) ∧ xs[0]? = some (tagS s) := fun {v s} h => by
    cases s with
    | turn i => obtain ⟨a, e, h⟩ := h; exact ⟨a, _, e, h, rfl⟩
    | swap i j => obtain ⟨a, e, h⟩ := h; exact ⟨a, _, e, h, rfl⟩
    | lift b ws sh => obtain ⟨a, l, e, h, _⟩ := h; exact ⟨a, _, e, h, rfl⟩
  cases s with
  | turn i =>
    obtain ⟨a, rfl, ha⟩ := hV
    have hA : SqT K H a [sT, .int i] := .inl (.inl ha)
    cases t with
    | turn j =>
      obtain ⟨b, rfl, hb⟩ := hU
      have hB : SqT K H b [sT, .int j] := .inl (.inl hb)
      walk_at "go"
      refine ⟨a, _, _, _, rfl, rfl, hA, rfl, ?_⟩
      walk_at "go"
      refine ⟨b, _, _, _, rfl, rfl, hB, rfl, ?_⟩
      walk_at "go"
      refine ⟨a, _, _, _, rfl, rfl, hA, rfl, rfl, _, rfl, iteNT (by decide) ?_⟩
      walk_at "go"
      refine ⟨a, _, rfl, hA, (show ¬ (HT.sIx 2 0 (some 1) = 0 ∧ HT.sIx 2 2 none = 2) by decide), fun p1 np1 => ?_⟩
      obtain ⟨H1, e1, s1, h1⟩ := fresh (.tup ([(i : Int)].map V.int)) np1
      rw [show upd H p1 (.tup (cutV [sT, .int i] (some 1) none)) = H1 from e1]
      refine ⟨p1, [(i : Int)], rfl, .inl (.inl h1), fun l1 p2 pm1 pw1 np2 => ?_⟩
      obtain ⟨H2, e2, s2, h2⟩ := fresh (.lst (l1.map V.int)) np2
      rw [e2]
      walk_at "go"
      refine ⟨b, _, rfl, .inl (.inl (s2 _ _ (s1 _ _ hb))), (show ¬ (HT.sIx 2 0 (some 1) = 0 ∧ HT.sIx 2 2 none = 2) by decide), fun p3 np3 => ?_⟩
      obtain ⟨H3, e3, s3, h3⟩ := fresh (.tup ([(j : Int)].map V.int)) np3
      rw [show upd H2 p3 (.tup (cutV [sT, .int j] (some 1) none)) = H3 from e3]
      refine ⟨p3, [(j : Int)], rfl, .inl (.inl h3), fun l2 p4 pm2 pw2 np4 => ?_⟩
      obtain ⟨H4, e4, s4, h4⟩ := fresh (.lst (l2.map V.int)) np4
      rw [e4]
      refine eqD_lst (.inl (.inl (s4 _ _ (s3 _ _ h2)))) (.inl (.inl h4)) ?_
      have s04 := s1.trans (s2.trans (s3.trans s4))
      have key := sorted_same pm1 pw1 pm2 pw2
      by_cases c : [(i : Int)].Perm [(j : Int)]
      · rw [decide_eq_true (key.mpr c)]
        walk_at "go"
        refine ⟨Nat.zero_le _, fun p5 np5 => ?_⟩
        exact q2 [] (pair_turn_t c) _ p5 [] (s04.trans (same_upd np5)) (s04.free np5) upd_same trivial
      · rw [decide_eq_false (fun z => c (key.mp z))]
        walk_at "go"
        exact q1 (pair_turn_f c) _ s04
    | swap c d =>
      obtain ⟨b, ys, rfl, hb, hb0⟩ := tag hU
      have hB : SqT K H b ys := .inl (.inl hb)
      walk_at "go"
      refine ⟨a, _, _, _, rfl, rfl, hA, rfl, ?_⟩
      walk_at "go"
      refine ⟨b, _, _, _, rfl, rfl, hB, atI_nat (j := 0) hb0, rfl, _, rfl, iteNT (by first | exact (by decide : ¬ sT = sS) | exact (by decide : ¬ sT = sL) | exact (by decide : ¬ sS = sT) | exact (by decide : ¬ sS = sL) | exact (by decide : ¬ sL = sT) | exact (by decide : ¬ sL = sS)) ?_⟩
      walk_at "go"
      exact q1 rfl _ (Same.refl _)
    | lift c us sh =>
      obtain ⟨b, ys, rfl, hb, hb0⟩ := tag hU
      have hB : SqT K H b ys := .inl (.inl hb)
      walk_at "go"
      refine ⟨a, _, _, _, rfl, rfl, hA, rfl, ?_⟩
      walk_at "go"
      refine ⟨b, _, _, _, rfl, rfl, hB, atI_nat (j := 0) hb0, rfl, _, rfl, iteNT (by first | exact (by decide : ¬ sT = sS) | exact (by decide : ¬ sT = sL) | exact (by decide : ¬ sS = sT) | exact (by decide : ¬ sS = sL) | exact (by decide : ¬ sL = sT) | exact (by decide : ¬ sL = sS)) ?_⟩
      walk_at "go"
      exact q1 rfl _ (Same.refl _)
  | swap i j =>
    obtain ⟨a, rfl, ha⟩ := hV
    have hA : SqT K H a [sS, .int i, .int j] := .inl (.inl ha)
    cases t with
    | turn c =>
      obtain ⟨b, ys, rfl, hb, hb0⟩ := tag hU
      have hB : SqT K H b ys := .inl (.inl hb)
      walk_at "go"
      refine ⟨a, _, _, _, rfl, rfl, hA, rfl, ?_⟩
      walk_at "go"
      refine ⟨b, _, _, _, rfl, rfl, hB, atI_nat (j := 0) hb0, rfl, _, rfl, iteNT (by first | exact (by decide : ¬ sT = sS) | exact (by decide : ¬ sT = sL) | exact (by decide : ¬ sS = sT) | exact (by decide : ¬ sS = sL) | exact (by decide : ¬ sL = sT) | exact (by decide : ¬ sL = sS)) ?_⟩
      walk_at "go"
      exact q1 rfl _ (Same.refl _)
    | swap k l =>
      obtain ⟨b, rfl, hb⟩ := hU
      have hB : SqT K H b [sS, .int k, .int l] := .inl (.inl hb)
      walk_at "go"
      refine ⟨a, _, _, _, rfl, rfl, hA, rfl, ?_⟩
      walk_at "go"
      refine ⟨b, _, _, _, rfl, rfl, hB, rfl, ?_⟩
      walk_at "go"
      refine ⟨a, _, _, _, rfl, rfl, hA, rfl, rfl, _, rfl, iteNT (by decide) ?_⟩
      walk_at "go"
      refine ⟨a, _, rfl, hA, (show ¬ (HT.sIx 3 0 (some 1) = 0 ∧ HT.sIx 3 3 none = 3) by decide), fun p1 np1 => ?_⟩
      obtain ⟨H1, e1, s1, h1⟩ := fresh (.tup ([(i : Int), (j : Int)].map V.int)) np1
      rw [show upd H p1 (.tup (cutV [sS, .int i, .int j] (some 1) none)) = H1 from e1]
      refine ⟨p1, [(i : Int), (j : Int)], rfl, .inl (.inl h1), fun l1 p2 pm1 pw1 np2 => ?_⟩
      obtain ⟨H2, e2, s2, h2⟩ := fresh (.lst (l1.map V.int)) np2
      rw [e2]
      walk_at "go"
      refine ⟨b, _, rfl, .inl (.inl (s2 _ _ (s1 _ _ hb))), (show ¬ (HT.sIx 3 0 (some 1) = 0 ∧ HT.sIx 3 3 none = 3) by decide), fun p3 np3 => ?_⟩
      obtain ⟨H3, e3, s3, h3⟩ := fresh (.tup ([(k : Int), (l : Int)].map V.int)) np3
      rw [show upd H2 p3 (.tup (cutV [sS, .int k, .int l] (some 1) none)) = H3 from e3]
      refine ⟨p3, [(k : Int), (l : Int)], rfl, .inl (.inl h3), fun l2 p4 pm2 pw2 np4 => ?_⟩
      obtain ⟨H4, e4, s4, h4⟩ := fresh (.lst (l2.map V.int)) np4
      rw [e4]
      refine eqD_lst (.inl (.inl (s4 _ _ (s3 _ _ h2)))) (.inl (.inl h4)) ?_
      have s04 := s1.trans (s2.trans (s3.trans s4))
      have key := sorted_same pm1 pw1 pm2 pw2
      by_cases c : [(i : Int), (j : Int)].Perm [(k : Int), (l : Int)]
      · rw [decide_eq_true (key.mpr c)]
        walk_at "go"
        refine ⟨Nat.zero_le _, fun p5 np5 => ?_⟩
        exact q2 [] (pair_swap_t c) _ p5 [] (s04.trans (same_upd np5)) (s04.free np5) upd_same trivial
      · rw [decide_eq_false (fun z => c (key.mp z))]
        walk_at "go"
        exact q1 (pair_swap_f c) _ s04
    | lift c us sh =>
      obtain ⟨b, ys, rfl, hb, hb0⟩ := tag hU
      have hB : SqT K H b ys := .inl (.inl hb)
      walk_at "go"
      refine ⟨a, _, _, _, rfl, rfl, hA, rfl, ?_⟩
      walk_at "go"
      refine ⟨b, _, _, _, rfl, rfl, hB, atI_nat (j := 0) hb0, rfl, _, rfl, iteNT (by first | exact (by decide : ¬ sT = sS) | exact (by decide : ¬ sT = sL) | exact (by decide : ¬ sS = sT) | exact (by decide : ¬ sS = sL) | exact (by decide : ¬ sL = sT) | exact (by decide : ¬ sL = sS)) ?_⟩
      walk_at "go"
      exact q1 rfl _ (Same.refl _)
  | lift i ws sh =>
    obtain ⟨a, la, rfl, ha, hla⟩ := hV
    have hA : SqT K H a [sL, .int i, .ref la, .int sh] := .inl (.inl ha)
    cases t with
    | turn c =>
      obtain ⟨b, ys, rfl, hb, hb0⟩ := tag hU
      have hB : SqT K H b ys := .inl (.inl hb)
      walk_at "go"
      refine ⟨a, _, _, _, rfl, rfl, hA, rfl, ?_⟩
      walk_at "go"
      refine ⟨b, _, _, _, rfl, rfl, hB, atI_nat (j := 0) hb0, rfl, _, rfl, iteNT (by first | exact (by decide : ¬ sT = sS) | exact (by decide : ¬ sT = sL) | exact (by decide : ¬ sS = sT) | exact (by decide : ¬ sS = sL) | exact (by decide : ¬ sL = sT) | exact (by decide : ¬ sL = sS)) ?_⟩
      walk_at "go"
      exact q1 rfl _ (Same.refl _)
    | swap c d =>
      obtain ⟨b, ys, rfl, hb, hb0⟩ := tag hU
      have hB : SqT K H b ys := .inl (.inl hb)
      walk_at "go"
      refine ⟨a, _, _, _, rfl, rfl, hA, rfl, ?_⟩
      walk_at "go"
      refine ⟨b, _, _, _, rfl, rfl, hB, atI_nat (j := 0) hb0, rfl, _, rfl, iteNT (by first | exact (by decide : ¬ sT = sS) | exact (by decide : ¬ sT = sL) | exact (by decide : ¬ sS = sT) | exact (by decide : ¬ sS = sL) | exact (by decide : ¬ sL = sT) | exact (by decide : ¬ sL = sS)) ?_⟩
      walk_at "go"
      exact q1 rfl _ (Same.refl _)
    | lift j us th =>
      obtain ⟨b, lb, rfl, hb, hlb⟩ := hU
      have hB : SqT K H b [sL, .int j, .ref lb, .int th] := .inl (.inl hb)
      obtain ⟨hi, hwl, hw0, hs15, hws⟩ := id hO
      obtain ⟨hj, hul, hu0, ht15, hus⟩ := id hP
      walk_at "go"
      refine ⟨a, _, _, _, rfl, rfl, hA, rfl, ?_⟩
      walk_at "go"
      refine ⟨b, _, _, _, rfl, rfl, hB, rfl, ?_⟩
      walk_at "go"
      refine ⟨a, _, _, _, rfl, rfl, hA, rfl, rfl, _, rfl, iteNF rfl ?_⟩
      walk_at "go"
      refine ⟨a, _, _, _, rfl, rfl, hA, rfl, ?_⟩
      walk_at "go"
      refine ⟨b, _, _, _, rfl, rfl, hB, rfl, ?_⟩
      by_cases e : i = j
      · subst e
        refine ⟨rfl, _, rfl, iteENF rfl ?_⟩
        have finN : ¬ min sh th = 0 → pairF (.lift i ws sh) (.lift i us th) = none := fun h => if_neg fun z => h z.2
        walk_at "go"
        refine ⟨a, _, _, _, rfl, rfl, hA, rfl, ?_⟩
        by_cases c : 0 < sh ∧ 0 < th
        · obtain ⟨c1, c2⟩ := c
          walk_at "go"
          refine ⟨b, _, _, _, rfl, rfl, hB, rfl, ?_⟩
          walk_at "go"
          exact q1 (finN (by omega)) _ (Same.refl _)
        have hm : min sh th = 0 := by omega
        have e2 := q2 _ (if_pos ⟨rfl, hm⟩)
        clear q1 q2 finN
        by_cases c1 : 0 < sh
        · walk_at "go"
          refine ⟨b, _, _, _, rfl, rfl, hB, rfl, ?_⟩
          walk_at "go"
          refine ⟨a, _, _, _, rfl, rfl, hA, rfl, ?_⟩
          walk_at "go"
          refine ⟨b, _, _, _, rfl, rfl, hB, rfl, ?_⟩
          refine ⟨_, _, rfl, ?_⟩
          rw [show (if (th : Int) > (sh : Int) then (th : Int) else (sh : Int)) = ((max sh th : Nat) : Int) by split <;> omega]
          have m1 : sh ≤ max sh th := Nat.le_max_left _ _
          have m2 : th ≤ max sh th := Nat.le_max_right _ _
          have m3 : max sh th ≤ 15 := by omega
          generalize max sh th = m at e2 m1 m2 m3 ⊢
          walk_at "go"
          refine ⟨Nat.zero_le _, fun p1 np1 => ?_⟩
          obtain ⟨H1, e1, s1, h1⟩ := fresh (.lst ([] : List V)) np1
          rw [e1]
          have hA1 := Same.tup s1 hA
          have hB1 := Same.tup s1 hB
          walk_at "go"
          refine ⟨a, _, _, _, rfl, rfl, hA1, rfl, ?_⟩
          walk_at "go"
          refine ⟨b, _, _, _, rfl, rfl, hB1, rfl, ?_⟩
          walk_at "go"
          refine ⟨la, lb, _, _, rfl, .inl (.inl (s1 _ _ hla)), .inl (.inl (s1 _ _ hlb)), ?_⟩
          have zl : ws.length = us.length := by omega
          have hW := walk_zt (K := K) (a := la) (b := lb) (xs := ws.map V.int) (ys := us.map V.int) (by rw [List.length_map, List.length_map, zl])
          refine for_it hW (fun k σ H2 => ∃ (v4 v5 : Option V), σ = [some (.ref a), some (.ref b), some (.int m), some (.ref p1), v4, v5] ∧ Same H H2 ∧ H2 p1 = some (.lst (((List.zipWith (fun w u => w * 2 ^ (m - sh) + u * 2 ^ (m - th)) ws us).take k).map V.int))) ⟨none, none, rfl, s1, h1⟩ (fun k σ H2 _ ⟨_, _, _, s, _⟩ => ⟨.inl (.inl (s _ _ hla)), .inl (.inl (s _ _ hlb))⟩) ?_ ?_
          · rintro k x σ H2 H3 hk ⟨v4, v5, rfl, s2, h2⟩ ⟨T1, y1, z1, rfl, nT, rfl, f1, f2⟩
            have st := same_upd (o := .tup [y1, z1]) nT
            obtain ⟨n1, en1, rfl⟩ := int_at f1
            obtain ⟨n2, en2, rfl⟩ := int_at f2
            have h3 := st _ _ h2
            have s3 := s2.trans st
            refine ⟨T1, _, rfl, .inl (.inl upd_same), rfl, ?_⟩
            generalize upd H2 T1 (.tup [V.int n1, V.int n2]) = H3 at *
            walk_at "go"
            refine ⟨.inl ⟨rfl, _, .inl (.inl h3)⟩, ?_⟩
            walk_at "go"
            refine ⟨a, _, _, _, rfl, rfl, Same.tup s3 hA, rfl, ?_⟩
            have d1 : (m : Int) - (sh : Int) = ((m - sh : Nat) : Int) := by omega
            have d2 : (m : Int) - (th : Int) = ((m - th : Nat) : Int) := by omega
            have b1 := hws n1 (List.mem_of_getElem? en1)
            have b2 := hus n2 (List.mem_of_getElem? en2)
            refine ⟨_, _, rfl, rfl, ?_⟩
            refine ⟨_, ((m - sh : Nat) : Int), rfl, congrArg V.int d1, shl_ok (n := 40) (by omega) (by omega), ?_⟩
            walk_at "go"
            refine ⟨b, _, _, _, rfl, rfl, Same.tup s3 hB, rfl, ?_⟩
            refine ⟨_, _, rfl, rfl, ?_⟩
            refine ⟨_, ((m - th : Nat) : Int), rfl, congrArg V.int d2, shl_ok (n := 40) (by omega) (by omega), ?_⟩
            walk_at "go"
            refine ⟨p1, _, _, rfl, rfl, h3, by rw [List.length_map, List.length_take]; exact small1000 (by rw [List.length_zipWith]; omega), ?_⟩
            refine ⟨_, _, rfl, same_over np1 s3, ?_⟩
            rw [upd_same, List.take_add_one, List.getElem?_zipWith, en1, en2, List.map_append, Int.toNat_natCast, Int.toNat_natCast]
            rfl
          · rintro σ H2 ⟨v4, v5, rfl, s2, h2⟩
            rw [List.take_of_length_le (by rw [List.length_map, List.length_zipWith]; omega)] at h2
            walk_at "go"
            refine ⟨a, _, _, _, rfl, rfl, Same.tup s2 hA, rfl, ?_⟩
            walk_at "go"
            refine ⟨p1, _, rfl, .inl ⟨.inl (.inl h2), fun p2 np2 => ?_⟩⟩
            obtain ⟨H3, e3, s3, h3⟩ := fresh (.tup (((List.zipWith (fun w u => w * 2 ^ (m - sh) + u * 2 ^ (m - th)) ws us)).map V.int)) np2
            rw [e3]
            walk_at "go"
            refine ⟨(show 4 ≤ sizeLine by decide), fun p3 np3 => ?_⟩
            obtain ⟨H4, e4, s4, h4⟩ := fresh (.tup [sL, V.int i, .ref p2, .int m]) np3
            rw [show upd H3 p3 (.tup [V.str (Str.ofString "lift"), V.int i, V.ref p2, V.int m]) = H4 from e4]
            refine ⟨(show 1 ≤ sizeLine by decide), fun p5 np5 => ?_⟩
            obtain ⟨H5, e5, s5, h5⟩ := fresh (.lst [V.ref p3]) np5
            rw [e5]
            exact e2 _ p5 _ (s2.trans (s3.trans (s4.trans s5))) ((s2.trans (s3.trans s4)).free np5) h5 ⟨⟨p3, p2, rfl, s5 _ _ h4, (s4.trans s5) _ _ h3⟩, trivial⟩
        · skip
          walk_at "go"
          refine ⟨a, _, _, _, rfl, rfl, hA, rfl, ?_⟩
          walk_at "go"
          refine ⟨b, _, _, _, rfl, rfl, hB, rfl, ?_⟩
          refine ⟨_, _, rfl, ?_⟩
          rw [show (if (th : Int) > (sh : Int) then (th : Int) else (sh : Int)) = ((max sh th : Nat) : Int) by split <;> omega]
          have m1 : sh ≤ max sh th := Nat.le_max_left _ _
          have m2 : th ≤ max sh th := Nat.le_max_right _ _
          have m3 : max sh th ≤ 15 := by omega
          generalize max sh th = m at e2 m1 m2 m3 ⊢
          walk_at "go"
          refine ⟨Nat.zero_le _, fun p1 np1 => ?_⟩
          obtain ⟨H1, e1, s1, h1⟩ := fresh (.lst ([] : List V)) np1
          rw [e1]
          have hA1 := Same.tup s1 hA
          have hB1 := Same.tup s1 hB
          walk_at "go"
          refine ⟨a, _, _, _, rfl, rfl, hA1, rfl, ?_⟩
          walk_at "go"
          refine ⟨b, _, _, _, rfl, rfl, hB1, rfl, ?_⟩
          walk_at "go"
          refine ⟨la, lb, _, _, rfl, .inl (.inl (s1 _ _ hla)), .inl (.inl (s1 _ _ hlb)), ?_⟩
          have zl : ws.length = us.length := by omega
          have hW := walk_zt (K := K) (a := la) (b := lb) (xs := ws.map V.int) (ys := us.map V.int) (by rw [List.length_map, List.length_map, zl])
          refine for_it hW (fun k σ H2 => ∃ (v4 v5 : Option V), σ = [some (.ref a), some (.ref b), some (.int m), some (.ref p1), v4, v5] ∧ Same H H2 ∧ H2 p1 = some (.lst (((List.zipWith (fun w u => w * 2 ^ (m - sh) + u * 2 ^ (m - th)) ws us).take k).map V.int))) ⟨none, none, rfl, s1, h1⟩ (fun k σ H2 _ ⟨_, _, _, s, _⟩ => ⟨.inl (.inl (s _ _ hla)), .inl (.inl (s _ _ hlb))⟩) ?_ ?_
          · rintro k x σ H2 H3 hk ⟨v4, v5, rfl, s2, h2⟩ ⟨T1, y1, z1, rfl, nT, rfl, f1, f2⟩
            have st := same_upd (o := .tup [y1, z1]) nT
            obtain ⟨n1, en1, rfl⟩ := int_at f1
            obtain ⟨n2, en2, rfl⟩ := int_at f2
            have h3 := st _ _ h2
            have s3 := s2.trans st
            refine ⟨T1, _, rfl, .inl (.inl upd_same), rfl, ?_⟩
            generalize upd H2 T1 (.tup [V.int n1, V.int n2]) = H3 at *
            walk_at "go"
            refine ⟨.inl ⟨rfl, _, .inl (.inl h3)⟩, ?_⟩
            walk_at "go"
            refine ⟨a, _, _, _, rfl, rfl, Same.tup s3 hA, rfl, ?_⟩
            have d1 : (m : Int) - (sh : Int) = ((m - sh : Nat) : Int) := by omega
            have d2 : (m : Int) - (th : Int) = ((m - th : Nat) : Int) := by omega
            have b1 := hws n1 (List.mem_of_getElem? en1)
            have b2 := hus n2 (List.mem_of_getElem? en2)
            refine ⟨_, _, rfl, rfl, ?_⟩
            refine ⟨_, ((m - sh : Nat) : Int), rfl, congrArg V.int d1, shl_ok (n := 40) (by omega) (by omega), ?_⟩
            walk_at "go"
            refine ⟨b, _, _, _, rfl, rfl, Same.tup s3 hB, rfl, ?_⟩
            refine ⟨_, _, rfl, rfl, ?_⟩
            refine ⟨_, ((m - th : Nat) : Int), rfl, congrArg V.int d2, shl_ok (n := 40) (by omega) (by omega), ?_⟩
            walk_at "go"
            refine ⟨p1, _, _, rfl, rfl, h3, by rw [List.length_map, List.length_take]; exact small1000 (by rw [List.length_zipWith]; omega), ?_⟩
            refine ⟨_, _, rfl, same_over np1 s3, ?_⟩
            rw [upd_same, List.take_add_one, List.getElem?_zipWith, en1, en2, List.map_append, Int.toNat_natCast, Int.toNat_natCast]
            rfl
          · rintro σ H2 ⟨v4, v5, rfl, s2, h2⟩
            rw [List.take_of_length_le (by rw [List.length_map, List.length_zipWith]; omega)] at h2
            walk_at "go"
            refine ⟨a, _, _, _, rfl, rfl, Same.tup s2 hA, rfl, ?_⟩
            walk_at "go"
            refine ⟨p1, _, rfl, .inl ⟨.inl (.inl h2), fun p2 np2 => ?_⟩⟩
            obtain ⟨H3, e3, s3, h3⟩ := fresh (.tup (((List.zipWith (fun w u => w * 2 ^ (m - sh) + u * 2 ^ (m - th)) ws us)).map V.int)) np2
            rw [e3]
            walk_at "go"
            refine ⟨(show 4 ≤ sizeLine by decide), fun p3 np3 => ?_⟩
            obtain ⟨H4, e4, s4, h4⟩ := fresh (.tup [sL, V.int i, .ref p2, .int m]) np3
            rw [show upd H3 p3 (.tup [V.str (Str.ofString "lift"), V.int i, V.ref p2, V.int m]) = H4 from e4]
            refine ⟨(show 1 ≤ sizeLine by decide), fun p5 np5 => ?_⟩
            obtain ⟨H5, e5, s5, h5⟩ := fresh (.lst [V.ref p3]) np5
            rw [e5]
            exact e2 _ p5 _ (s2.trans (s3.trans (s4.trans s5))) ((s2.trans (s3.trans s4)).free np5) h5 ⟨⟨p3, p2, rfl, s5 _ _ h4, (s4.trans s5) _ _ h3⟩, trivial⟩
      · refine ⟨rfl, _, rfl, iteENT (fun z => e (Int.ofNat.inj z)) ?_⟩
        walk_at "go"
        exact q1 (if_neg fun z => e z.1) _ (Same.refl _)
end
end My

namespace My
open PySem PySem.Spec PyProof.Rows L2 Pre
theorem AllV.foldD {R : V → Step → Prop} {vs : List V} {ss : List Step} (h : AllV R vs ss) (i : Nat) : AllV R (vs.drop i) (ss.drop i) := by
  induction i generalizing vs ss with
  | zero => exact h
  | succ i ih =>
    match vs, ss, h with
    | [], [], _ => exact trivial
    | _ :: _, _ :: _, h => exact ih h.2
theorem any_zero {ws : List Int} : (ws.any (· != 0)) = !decide (∀ w ∈ ws, w = 0) := by
  by_cases c : ∀ w ∈ ws, w = 0
  · rw [decide_eq_true c]
    exact Bool.eq_false_iff.mpr fun z => by
      obtain ⟨w, hw, h⟩ := List.any_eq_true.mp z
      rw [c w hw] at h
      cases h
  · rw [decide_eq_false c]
    refine List.any_eq_true.mpr ?_
    have : ∃ w, w ∈ ws ∧ w ≠ 0 := Classical.byContradiction fun k => c fun w hw => Classical.byContradiction fun z => k ⟨w, hw, z⟩
    obtain ⟨w, hw, h⟩ := this
    exact ⟨w, hw, bne_iff_ne.mpr h⟩
theorem any_half {ws : List Int} : ((ws.map fun w => w % 2).any (· != 0)) = !decide (∀ w ∈ ws, w % 2 = 0) := by
  rw [any_zero]
  congr 1
  exact decide_eq_decide.mpr ⟨fun h w hw => h _ (List.mem_map.mpr ⟨w, hw, rfl⟩), fun h x hx => by
    obtain ⟨w, hw, rfl⟩ := List.mem_map.mp hx
    exact h w hw⟩
/-- what tidied has handed back of steps -/
def LatV (H0 H : Hp) (v : V) (t : List Step) : Prop := (shortF t = none ∧ v = .non) ∨ ∃ l p ws, shortF t = some l ∧ v = .ref p ∧ H0 p = none ∧ H p = some (.lst ws) ∧ AllV (RowV H) ws l
local macro_rules | `(tactic| walk_at "go") => `(tactic| repeat (first | (with_reducible first | refine iteT ?_ | refine iteF ?_ | refine iteNtt ?_ | refine iteNff ?_ | refine iteET (by omega) ?_ | refine iteEF (by omega) ?_ | refine iteENT (by omega) ?_ | refine iteENF (by omega) ?_ | refine iteDT (by omega) ?_ | refine iteDF (by omega) ?_ | refine iteNT (by omega) ?_ | refine iteNF (by omega) ?_) | refine ⟨_, rfl, ?_⟩ | refine ⟨_, _, rfl, rfl, ?_⟩ | refine ⟨_, _, rfl, ?_⟩ | refine ⟨rfl, ?_⟩ | refine .inl ⟨_, rfl, ?_⟩ | refine .inr ⟨_, rfl, ?_⟩))
local macro_rules | `(tactic| walk_at "b") => `(tactic| try dsimp (config := { proj := false, iota := false, eta := false, zeta := false }) only)
section
variable {P : Program} {w : World} {K : PySem.W.Frag} {mg : Str → Option Value} {base : Heap}
def sp_tidied (K : PySem.W.Frag) : Sp := fun vs H Q _ => ∃ (r : Addr) (us : List V) (n : Nat) (ss : List Step), vs = [.ref r] ∧ H r = some (.lst us) ∧ AllV (RowV H) us ss ∧ (∀ s ∈ ss, s.ok n) ∧ n ≤ 4 ∧ ss.length ≤ 60 ∧
  ∀ H' v, Same H H' → LatV H H' v ss → Q v H'
theorem G_tidied (T : Top K mg) : FnOk P w K mg base CX0 2 T.f_tidied T.fd_tidied ["rows"] (sp_tidied K) := by
  refine T.F_tidied.ok sc_tidied (fun vs H Q E h => by obtain ⟨r, us, n, ss, rfl, _⟩ := h; rfl) (fun cdv A outer s H vs Q E hr h => ?_)
  obtain ⟨r, us, n, ss, rfl, hr0, hv, hO, hn4, hl, q⟩ := h
  refine ⟨_, PSs.nox (pss_cons (ps_for PassesOwn.never rfl (k_piE K rfl (by rfl) T.n_enumerate (pa_cons (pv 0) pa_nil)) (k_pgT K rfl (by rfl) (pgs_cons (pg_name (i := 1) sc_tidied.nd rfl (by first | exact Or.inl rfl | exact Or.inr rfl)) (pgs_cons (pg_name (i := 2) sc_tidied.nd rfl (by first | exact Or.inl rfl | exact Or.inr rfl)) pgs_nil)))
    (pss_cons (ps_if (PW.pt (pw_and (pt_cmpR op_eq (pe_ix (k_ixT K rfl) (pv 2) pe_int (fun _ _ => rfl)) pe_str (nomark _)) (pw_and1 (pt_not (pt_val (pe_callB (k_anyI K rfl rfl) (by rfl) T.n_any (by decide +kernel) (pa_cons (pe_ix (k_ixT K rfl) (pv 2) pe_int (fun _ _ => rfl)) pa_nil)))))))
    (pss_one (ps_ret (pe_op op_cat (pe_slice (k_slL K rfl) (pv 0) po_none (po_some (pv 1))) (pe_slice (k_slL K rfl) (pv 0) (po_some (pe_op op_add (pv 1) pe_int)) po_none))))
    pss_nil)
  (pss_cons (ps_if (PW.pt (pw_and (pt_cmpR op_eq (pe_ix (k_ixT K rfl) (pv 2) pe_int (fun _ _ => rfl)) pe_str (nomark _)) (pw_and (pt_cmpR op_gt (pe_ix (k_ixT K rfl) (pv 2) pe_int (fun _ _ => rfl)) pe_int (nomark _)) (pw_and1 (pt_not (pt_val (pe_callB (k_anyI K rfl rfl) (by rfl) T.n_any (by decide +kernel) (pa_cons (pe_lc (own := [("weight", 5)]) (g := gName 5) (tt := tYes) (by rfl) sc_tidied.nd (k_piT K rfl (pe_ix (k_ixT K rfl) (pv 2) pe_int (fun _ _ => rfl))) (blkOk_by (own := [("weight", 5)]) (N := N_tidied) (sc := defScope s_tidied) (by decide +kernel)) (fun _ _ _ _ _ => (pg_name (i := 5) sc_tidied.nd rfl (by first | exact Or.inl rfl | exact Or.inr rfl))) (fun _ _ _ _ _ => pts_nil) (fun _ _ _ _ _ => (pe_op op_mod (pv 5) pe_int))) pa_nil))))))))
    (pss_cons (ps_set (i := 4) sc_tidied.nd rfl (by first | exact Or.inl rfl | exact Or.inr rfl) (pe_callTy (k_tupleOf K rfl) (by rfl) T.n_tuple (by decide +kernel) (pa_cons (pe_lc (own := [("weight", 5)]) (g := gName 5) (tt := tYes) (by rfl) sc_tidied.nd (k_piT K rfl (pe_ix (k_ixT K rfl) (pv 2) pe_int (fun _ _ => rfl))) (blkOk_by (own := [("weight", 5)]) (N := N_tidied) (sc := defScope s_tidied) (by decide +kernel)) (fun _ _ _ _ _ => (pg_name (i := 5) sc_tidied.nd rfl (by first | exact Or.inl rfl | exact Or.inr rfl))) (fun _ _ _ _ _ => pts_nil) (fun _ _ _ _ _ => (pe_op op_fdivW (pv 5) pe_int))) pa_nil)))
  (pss_one (ps_ret (pe_lst (StX.pa_star (pe_slice (k_slL K rfl) (pv 0) po_none (po_some (pv 1))) (pa_cons (pe_tup (pa_cons pe_str (pa_cons (pe_ix (k_ixT K rfl) (pv 2) pe_int (fun _ _ => rfl)) (pa_cons (pv 4) (pa_cons (pe_op op_sub (pe_ix (k_ixT K rfl) (pv 2) pe_int (fun _ _ => rfl)) pe_int) pa_nil))))) (StX.pa_star (pe_slice (k_slL K rfl) (pv 0) (po_some (pe_op op_add (pv 1) pe_int)) po_none) pa_nil)))))))
    pss_nil)
  (pss_cons (ps_set (i := 3) sc_tidied.nd rfl (by first | exact Or.inl rfl | exact Or.inr rfl) (pe_ifExp (pt_cmpR op_eq (pe_op op_add (pv 1) pe_int) (pe_callB (k_len K rfl) (by rfl) T.n_len (by decide +kernel) (pa_cons (pv 0) pa_nil)) (nomark _)) pe_non (pe_call (G_paired T) (hr.mono (by decide)) (by rfl) T.g_paired T.F_paired.kp T.b_paired .nil pass0 (pa_cons (pv 2) (pa_cons (pe_ix (k_ixL K rfl) (pv 0) (pe_op op_add (pv 1) pe_int) (fun _ _ => rfl)) pa_nil)))))
  (pss_one (ps_if (pt_cmpR op_notN (pv 3) pe_non (nomark _))
    (pss_one (ps_ret (pe_op op_cat (pe_op op_cat (pe_slice (k_slL K rfl) (pv 0) po_none (po_some (pv 1))) (pv 3)) (pe_slice (k_slL K rfl) (pv 0) (po_some (pe_op op_add (pv 1) pe_int)) po_none))))
    pss_nil))))))
  (pss_one (ps_ret pe_non))), ?_⟩
  have hvl := hv.len
  have q1 : shortF ss = none → ∀ H', Same H H' → Q .non H' := fun h H' s => q H' _ s (.inl ⟨h, rfl⟩)
  have q2 : ∀ l, shortF ss = some l → ∀ H' p ws, Same H H' → H p = none → H' p = some (.lst ws) → AllV (RowV H') ws l → Q (.ref p) H' := fun l h H' p ws s np hp hw => q H' _ s (.inr ⟨l, p, ws, h, rfl, np, hp, hw⟩)
  clear q
  walk_at "go"
  refine ⟨r, us, rfl, .inl (.inl hr0), ?_⟩
  refine for_it (walk_enum (K := K) (a := r) (xs := us)) (fun i σ H1 => ∃ (v1 v2 v3 v4 : Option V), σ = [some (.ref r), v1, v2, v3, v4, none] ∧ Same H H1 ∧ ShAt ss i) ⟨none, none, none, none, rfl, Same.refl _, .zero _⟩ (fun i σ H1 _ ⟨_, _, _, _, _, s, _⟩ => .inl (.inl (s _ _ hr0))) ?_ ?_
  · rintro i x σ H1 H2 hi ⟨v1, v2, v3, v4, rfl, s1, hS⟩ ⟨T1, y1, z1, rfl, nT, rfl, e1, ez1⟩
    have st := same_upd (o := .tup [y1, z1]) nT
    cases e1
    dsimp only at ez1
    obtain ⟨s, hs, hvs⟩ := hv.get ez1
    have hil : i < ss.length := (List.getElem?_eq_some_iff.mp hs).1
    have os := hO s (List.mem_of_getElem? hs)
    have s2 := s1.trans st
    refine ⟨T1, _, rfl, .inl (.inl upd_same), rfl, _, _, rfl, _, _, rfl, rfl, ?_⟩
    generalize upd H1 T1 (.tup [V.int (i : Nat), z1]) = H2 at *
    have hvs0 := hvs
    have hvs := RowV.same s2 hvs
    cases s with
    | turn j =>
      obtain ⟨t, rfl, ht⟩ := id hvs
      have hT : SqT K H2 t [sT, .int j] := .inl (.inl ht)
      have e1 : oneF (.turn j) = none := rfl
      walk_at "go"
      refine ⟨t, _, _, _, rfl, rfl, hT, rfl, rfl, _, rfl, iteDF (by decide) ?_⟩
      walk_at "go"
      refine ⟨t, _, _, _, rfl, rfl, hT, rfl, rfl, _, rfl, iteDF (by decide) ?_⟩
      walk_at "go"
      refine ⟨r, us, rfl, .inl (.inl (.inl (s2 _ _ hr0))), ?_⟩
      by_cases cl : i + 1 = ss.length
      · rw [hvl]
        walk_at "go"
        refine ⟨_, _, _, v4, rfl, s2, hS.end_ hs cl e1⟩
      · rw [hvl]
        have hil2 : i + 1 < ss.length := by omega
        obtain ⟨x2, hx2⟩ : ∃ x2, us[i + 1]? = some x2 := ⟨_, List.getElem?_eq_getElem (by omega)⟩
        obtain ⟨u, hu, hvu⟩ := hv.get hx2
        walk_at "go"
        refine ⟨r, us, _, _, rfl, rfl, .inl (.inl (s2 _ _ hr0)), atI_nat (j := i + 1) hx2, ?_⟩
        refine ⟨_, x2, n, _, u, rfl, hvs0.same s2, hvu.same s2, os, hO u (List.mem_of_getElem? hu), hn4, fun hp H9 s9 => ?_, fun l hp H9 p9 w9 s9 np9 h9 hw9 => ?_⟩
        · walk_at "go"
          exact ⟨_, _, _, v4, rfl, (s2).trans s9, hS.next hs hu e1 hp⟩
        · have s09 := (s2).trans s9
          have hw9l := hw9.len
          have hl2 := (pair_good os.okl (hO u (List.mem_of_getElem? hu)).okl hp).2.2
          walk_at "go"
          refine ⟨r, us, rfl, .inl (.inl (s09 _ _ hr0)), fun pa npa => ?_⟩
          rw [cut_take]
          obtain ⟨Ha, ea, sa, ha⟩ := fresh (.lst (us.take i)) npa
          rw [ea]
          walk_at "go"
          refine ⟨pa, p9, _, _, rfl, rfl, ha, sa _ _ h9, Nat.le_of_lt (small1000 (by rw [List.length_take]; omega)), fun pb npb => ?_⟩
          obtain ⟨Hb, eb, sb, hb⟩ := fresh (.lst (us.take i ++ w9)) npb
          rw [eb]
          walk_at "go"
          refine ⟨r, us, rfl, .inl (.inl ((s09.trans (sa.trans sb)) _ _ hr0)), fun pc npc => ?_⟩
          rw [show cutV us (some ((i : Int) + 2)) none = us.drop (i + 2) from cut_drop us (i + 2)]
          obtain ⟨Hc, ec, sc, hc⟩ := fresh (.lst (us.drop (i + 2))) npc
          rw [ec]
          walk_at "go"
          refine ⟨pb, pc, _, _, rfl, rfl, sc _ _ hb, hc, Nat.le_of_lt (small1000 (by rw [List.length_append, List.length_take, List.length_drop]; omega)), fun pd npd => ?_⟩
          obtain ⟨Hd, ed, sd, hd⟩ := fresh (.lst (us.take i ++ w9 ++ us.drop (i + 2))) npd
          rw [ed]
          have s9d := sa.trans (sb.trans (sc.trans sd))
          refine q2 _ (hS.hit2 hs hu e1 hp) _ pd _ (s09.trans s9d) ((s09.trans (sa.trans (sb.trans sc))).free npd) hd ?_
          rw [← List.append_assoc]
          exact (((hv.foldB i).imp fun v s => RowV.same (s09.trans s9d)).app (hw9.imp fun v s => RowV.same s9d)).app ((hv.foldD (i + 2)).imp fun v s => RowV.same (s09.trans s9d))
    | swap j k =>
      obtain ⟨t, rfl, ht⟩ := id hvs
      have hT : SqT K H2 t [sS, .int j, .int k] := .inl (.inl ht)
      have e1 : oneF (.swap j k) = none := rfl
      walk_at "go"
      refine ⟨t, _, _, _, rfl, rfl, hT, rfl, rfl, _, rfl, iteDF (by decide) ?_⟩
      walk_at "go"
      refine ⟨t, _, _, _, rfl, rfl, hT, rfl, rfl, _, rfl, iteDF (by decide) ?_⟩
      walk_at "go"
      refine ⟨r, us, rfl, .inl (.inl (.inl (s2 _ _ hr0))), ?_⟩
      by_cases cl : i + 1 = ss.length
      · rw [hvl]
        walk_at "go"
        refine ⟨_, _, _, v4, rfl, s2, hS.end_ hs cl e1⟩
      · rw [hvl]
        have hil2 : i + 1 < ss.length := by omega
        obtain ⟨x2, hx2⟩ : ∃ x2, us[i + 1]? = some x2 := ⟨_, List.getElem?_eq_getElem (by omega)⟩
        obtain ⟨u, hu, hvu⟩ := hv.get hx2
        walk_at "go"
        refine ⟨r, us, _, _, rfl, rfl, .inl (.inl (s2 _ _ hr0)), atI_nat (j := i + 1) hx2, ?_⟩
        refine ⟨_, x2, n, _, u, rfl, hvs0.same s2, hvu.same s2, os, hO u (List.mem_of_getElem? hu), hn4, fun hp H9 s9 => ?_, fun l hp H9 p9 w9 s9 np9 h9 hw9 => ?_⟩
        · walk_at "go"
          exact ⟨_, _, _, v4, rfl, (s2).trans s9, hS.next hs hu e1 hp⟩
        · have s09 := (s2).trans s9
          have hw9l := hw9.len
          have hl2 := (pair_good os.okl (hO u (List.mem_of_getElem? hu)).okl hp).2.2
          walk_at "go"
          refine ⟨r, us, rfl, .inl (.inl (s09 _ _ hr0)), fun pa npa => ?_⟩
          rw [cut_take]
          obtain ⟨Ha, ea, sa, ha⟩ := fresh (.lst (us.take i)) npa
          rw [ea]
          walk_at "go"
          refine ⟨pa, p9, _, _, rfl, rfl, ha, sa _ _ h9, Nat.le_of_lt (small1000 (by rw [List.length_take]; omega)), fun pb npb => ?_⟩
          obtain ⟨Hb, eb, sb, hb⟩ := fresh (.lst (us.take i ++ w9)) npb
          rw [eb]
          walk_at "go"
          refine ⟨r, us, rfl, .inl (.inl ((s09.trans (sa.trans sb)) _ _ hr0)), fun pc npc => ?_⟩
          rw [show cutV us (some ((i : Int) + 2)) none = us.drop (i + 2) from cut_drop us (i + 2)]
          obtain ⟨Hc, ec, sc, hc⟩ := fresh (.lst (us.drop (i + 2))) npc
          rw [ec]
          walk_at "go"
          refine ⟨pb, pc, _, _, rfl, rfl, sc _ _ hb, hc, Nat.le_of_lt (small1000 (by rw [List.length_append, List.length_take, List.length_drop]; omega)), fun pd npd => ?_⟩
          obtain ⟨Hd, ed, sd, hd⟩ := fresh (.lst (us.take i ++ w9 ++ us.drop (i + 2))) npd
          rw [ed]
          have s9d := sa.trans (sb.trans (sc.trans sd))
          refine q2 _ (hS.hit2 hs hu e1 hp) _ pd _ (s09.trans s9d) ((s09.trans (sa.trans (sb.trans sc))).free npd) hd ?_
          rw [← List.append_assoc]
          exact (((hv.foldB i).imp fun v s => RowV.same (s09.trans s9d)).app (hw9.imp fun v s => RowV.same s9d)).app ((hv.foldD (i + 2)).imp fun v s => RowV.same (s09.trans s9d))
    | lift b ws sh =>
      obtain ⟨t, lw, rfl, ht, hlw⟩ := id hvs
      obtain ⟨hb, hwl, hw0, hs15, hws⟩ := id os
      have hT : SqT K H2 t [sL, .int b, .ref lw, .int sh] := .inl (.inl ht)
      walk_at "go"
      refine ⟨t, _, _, _, rfl, rfl, hT, rfl, rfl, _, rfl, iteDT rfl ?_⟩
      walk_at "go"
      refine ⟨t, _, _, _, rfl, rfl, hT, rfl, ?_⟩
      refine ⟨lw, ws, rfl, .inr (.inl (.inl hlw)), ?_⟩
      rw [any_zero]
      by_cases c : ∀ w ∈ ws, w = 0
      · rw [decide_eq_true c]
        walk_at "go"
        refine ⟨r, us, rfl, .inl (.inl (s2 _ _ hr0)), fun pa npa => ?_⟩
        rw [cut_take]
        obtain ⟨Ha, ea, sa, ha⟩ := fresh (.lst (us.take i)) npa
        rw [ea]
        walk_at "go"
        refine ⟨r, us, rfl, .inl (.inl ((s2.trans sa) _ _ hr0)), fun pc npc => ?_⟩
        rw [show cutV us (some ((i : Int) + 1)) none = us.drop (i + 1) from cut_drop us (i + 1)]
        obtain ⟨Hc, ec, sc, hc⟩ := fresh (.lst (us.drop (i + 1))) npc
        rw [ec]
        walk_at "go"
        refine ⟨pa, pc, _, _, rfl, rfl, sc _ _ ha, hc, Nat.le_of_lt (small1000 (by rw [List.length_take, List.length_drop]; omega)), fun pd npd => ?_⟩
        obtain ⟨Hd, ed, sd, hd⟩ := fresh (.lst (us.take i ++ us.drop (i + 1))) npd
        rw [ed]
        have s0d := s2.trans (sa.trans (sc.trans sd))
        exact q2 _ (hS.hit1 hs (one_zero c)) _ pd _ s0d ((s2.trans (sa.trans sc)).free npd) hd (((hv.foldB i).imp fun v s => RowV.same s0d).app ((hv.foldD (i + 1)).imp fun v s => RowV.same s0d))
      · rw [decide_eq_false c]
        walk_at "go"
        refine ⟨t, _, _, _, rfl, rfl, hT, rfl, rfl, _, rfl, iteDT rfl ?_⟩
        walk_at "go"
        refine ⟨t, _, _, _, rfl, rfl, hT, rfl, ?_⟩
        walk_at "go"
        by_cases c0 : 0 < sh
        · walk_at "go"
          refine ⟨t, _, _, _, rfl, rfl, hT, rfl, ?_⟩
          walk_at "go"
          refine ⟨⟨_, .inl (.inl hlw)⟩, fun D nD => ?_⟩
          refine lc_dW (walk_tup (K := K) (a := lw) (xs := ws.map V.int)) (S := []) Has.nil ((ws.map fun w => w % 2).map fun x => some (PyData.int x)) nD (by rw [List.length_map, List.length_map, List.length_map]) (by rw [List.length_map]; exact small1000 (by omega)) (fun H' s => .inl (.inl (s _ _ hlw))) ?_ ?_
          · rintro k o H0 x H'' hk ho s0 hH ⟨rfl, hx⟩ Qt qt
            obtain ⟨m, hm, rfl⟩ := int_at hx
            rw [List.getElem?_map, List.getElem?_map, hm] at ho
            cases ho
            refine ⟨rfl, ?_⟩
            walk_at "go"
            refine ⟨(show (0 : Int) < 2 by decide), ?_⟩
            exact qt _ _ (Same.refl _) (.int _)
          intro H3 s3 _ dD
          rw [show ((ws.map fun w => w % 2).map fun x => some (PyData.int x)).filterMap id = (ws.map fun w => w % 2).map PyData.int from sel_map _ _, rs_nil] at dD
          obtain ⟨_, e, hD⟩ := Dt.intsE (ns := ws.map fun w => w % 2) dD
          cases e
          have s23 := s2.trans s3
          have hT3 := Same.tup s3 hT
          have hlw3 := s3 _ _ hlw
          refine ⟨D, _, rfl, .inl (.inl (.inl hD)), ?_⟩
          rw [any_half]
          by_cases c2 : ∀ w ∈ ws, w % 2 = 0
          · rw [decide_eq_true c2]
            walk_at "go"
            refine ⟨t, _, _, _, rfl, rfl, hT3, rfl, ?_⟩
            walk_at "go"
            refine ⟨⟨_, .inl (.inl hlw3)⟩, fun D2 nD2 => ?_⟩
            refine lc_dW (walk_tup (K := K) (a := lw) (xs := ws.map V.int)) (S := []) Has.nil ((ws.map fun w => w / 2).map fun x => some (PyData.int x)) nD2 (by rw [List.length_map, List.length_map, List.length_map]) (by rw [List.length_map]; exact small1000 (by omega)) (fun H' s => .inl (.inl (s _ _ hlw3))) ?_ ?_
            · rintro k o H0 x H'' hk ho s0 hH ⟨rfl, hx⟩ Qt qt
              obtain ⟨m, hm, rfl⟩ := int_at hx
              rw [List.getElem?_map, List.getElem?_map, hm] at ho
              cases ho
              refine ⟨rfl, ?_⟩
              walk_at "go"
              refine ⟨wide_div (b := 60) (show (0 : Int) < 2 by decide) (by decide) (by decide) (by decide), ?_⟩
              exact qt _ _ (Same.refl _) (.int _)
            intro H4 s4 _ dD4
            rw [show ((ws.map fun w => w / 2).map fun x => some (PyData.int x)).filterMap id = (ws.map fun w => w / 2).map PyData.int from sel_map _ _, rs_nil] at dD4
            obtain ⟨_, e, hD4⟩ := Dt.intsE (ns := ws.map fun w => w / 2) dD4
            cases e
            refine ⟨D2, _, rfl, .inl ⟨.inl (.inl hD4), fun p2 np2 => ?_⟩⟩
            obtain ⟨H5, e5, s5, h5⟩ := fresh (.tup ((ws.map fun w => w / 2).map V.int)) np2
            rw [e5]
            have s25 := s23.trans (s4.trans s5)
            walk_at "go"
            refine ⟨r, us, rfl, .inl (.inl (s25 _ _ hr0)), fun pa npa => ?_⟩
            rw [cut_take]
            obtain ⟨Ha, ea, sa, ha⟩ := fresh (.lst (us.take i)) npa
            rw [ea]
            refine ⟨pa, _, rfl, .inr (.inl (.inl ha)), ?_⟩
            walk_at "go"
            refine ⟨t, _, _, _, rfl, rfl, Same.tup (s4.trans (s5.trans sa)) hT3, rfl, ?_⟩
            walk_at "go"
            refine ⟨t, _, _, _, rfl, rfl, Same.tup (s4.trans (s5.trans sa)) hT3, rfl, ?_⟩
            have d1 : (sh : Int) - 1 = ((sh - 1 : Nat) : Int) := by omega
            walk_at "go"
            refine ⟨(show 4 ≤ sizeLine by decide), fun tb ntb => ?_⟩
            obtain ⟨Hb, eb, sb, hb2⟩ := fresh (.tup [sL, V.int b, .ref p2, .int ((sh - 1 : Nat) : Int)]) ntb
            rw [show upd Ha tb (.tup [V.str (Str.ofString "lift"), V.int b, V.ref p2, V.int ((sh : Int) - 1)]) = Hb from by rw [d1]; exact eb]
            walk_at "go"
            refine ⟨r, us, rfl, .inl (.inl ((s25.trans (sa.trans sb)) _ _ hr0)), fun pc npc => ?_⟩
            rw [show cutV us (some ((i : Int) + 1)) none = us.drop (i + 1) from cut_drop us (i + 1)]
            obtain ⟨Hc, ec, sc, hc⟩ := fresh (.lst (us.drop (i + 1))) npc
            rw [ec]
            refine ⟨pc, _, rfl, .inr (.inl (.inl hc)), ?_⟩
            refine ⟨Nat.le_of_lt (small1000 (by rw [List.append_nil, List.length_append, List.length_cons, List.length_take, List.length_drop]; omega)), fun pd npd => ?_⟩
            rw [List.append_nil]
            obtain ⟨Hd, ed, sd, hd⟩ := fresh (.lst (us.take i ++ V.ref tb :: us.drop (i + 1))) npd
            rw [ed]
            have s5d := sa.trans (sb.trans (sc.trans sd))
            have s0d := s25.trans s5d
            refine q2 _ (hS.hit1 hs (one_half c ⟨c0, c2⟩)) _ pd _ s0d ((s25.trans (sa.trans (sb.trans sc))).free npd) hd ?_
            exact ((hv.foldB i).imp fun v s => RowV.same s0d).app ⟨⟨tb, p2, rfl, (sc.trans sd) _ _ hb2, s5d _ _ h5⟩, (hv.foldD (i + 1)).imp fun v s => RowV.same s0d⟩
          · rw [decide_eq_false c2]
            have e1 : oneF (.lift b ws sh) = none := one_none c fun z => c2 z.2
            walk_at "go"
            refine ⟨r, us, rfl, .inl (.inl (.inl (s23 _ _ hr0))), ?_⟩
            by_cases cl : i + 1 = ss.length
            · rw [hvl]
              walk_at "go"
              refine ⟨_, _, _, v4, rfl, s23, hS.end_ hs cl e1⟩
            · rw [hvl]
              have hil2 : i + 1 < ss.length := by omega
              obtain ⟨x2, hx2⟩ : ∃ x2, us[i + 1]? = some x2 := ⟨_, List.getElem?_eq_getElem (by omega)⟩
              obtain ⟨u, hu, hvu⟩ := hv.get hx2
              walk_at "go"
              refine ⟨r, us, _, _, rfl, rfl, .inl (.inl (s23 _ _ hr0)), atI_nat (j := i + 1) hx2, ?_⟩
              refine ⟨_, x2, n, _, u, rfl, hvs0.same s23, hvu.same s23, os, hO u (List.mem_of_getElem? hu), hn4, fun hp H9 s9 => ?_, fun l hp H9 p9 w9 s9 np9 h9 hw9 => ?_⟩
              · walk_at "go"
                exact ⟨_, _, _, v4, rfl, (s23).trans s9, hS.next hs hu e1 hp⟩
              · have s09 := (s23).trans s9
                have hw9l := hw9.len
                have hl2 := (pair_good os.okl (hO u (List.mem_of_getElem? hu)).okl hp).2.2
                walk_at "go"
                refine ⟨r, us, rfl, .inl (.inl (s09 _ _ hr0)), fun pa npa => ?_⟩
                rw [cut_take]
                obtain ⟨Ha, ea, sa, ha⟩ := fresh (.lst (us.take i)) npa
                rw [ea]
                walk_at "go"
                refine ⟨pa, p9, _, _, rfl, rfl, ha, sa _ _ h9, Nat.le_of_lt (small1000 (by rw [List.length_take]; omega)), fun pb npb => ?_⟩
                obtain ⟨Hb, eb, sb, hb⟩ := fresh (.lst (us.take i ++ w9)) npb
                rw [eb]
                walk_at "go"
                refine ⟨r, us, rfl, .inl (.inl ((s09.trans (sa.trans sb)) _ _ hr0)), fun pc npc => ?_⟩
                rw [show cutV us (some ((i : Int) + 2)) none = us.drop (i + 2) from cut_drop us (i + 2)]
                obtain ⟨Hc, ec, sc, hc⟩ := fresh (.lst (us.drop (i + 2))) npc
                rw [ec]
                walk_at "go"
                refine ⟨pb, pc, _, _, rfl, rfl, sc _ _ hb, hc, Nat.le_of_lt (small1000 (by rw [List.length_append, List.length_take, List.length_drop]; omega)), fun pd npd => ?_⟩
                obtain ⟨Hd, ed, sd, hd⟩ := fresh (.lst (us.take i ++ w9 ++ us.drop (i + 2))) npd
                rw [ed]
                have s9d := sa.trans (sb.trans (sc.trans sd))
                refine q2 _ (hS.hit2 hs hu e1 hp) _ pd _ (s09.trans s9d) ((s09.trans (sa.trans (sb.trans sc))).free npd) hd ?_
                rw [← List.append_assoc]
                exact (((hv.foldB i).imp fun v s => RowV.same (s09.trans s9d)).app (hw9.imp fun v s => RowV.same s9d)).app ((hv.foldD (i + 2)).imp fun v s => RowV.same (s09.trans s9d))
        · have e1 : oneF (.lift b ws sh) = none := one_none c fun z => c0 z.1
          walk_at "go"
          refine ⟨r, us, rfl, .inl (.inl (.inl (s2 _ _ hr0))), ?_⟩
          by_cases cl : i + 1 = ss.length
          · rw [hvl]
            walk_at "go"
            refine ⟨_, _, _, v4, rfl, s2, hS.end_ hs cl e1⟩
          · rw [hvl]
            have hil2 : i + 1 < ss.length := by omega
            obtain ⟨x2, hx2⟩ : ∃ x2, us[i + 1]? = some x2 := ⟨_, List.getElem?_eq_getElem (by omega)⟩
            obtain ⟨u, hu, hvu⟩ := hv.get hx2
            walk_at "go"
            refine ⟨r, us, _, _, rfl, rfl, .inl (.inl (s2 _ _ hr0)), atI_nat (j := i + 1) hx2, ?_⟩
            refine ⟨_, x2, n, _, u, rfl, hvs0.same s2, hvu.same s2, os, hO u (List.mem_of_getElem? hu), hn4, fun hp H9 s9 => ?_, fun l hp H9 p9 w9 s9 np9 h9 hw9 => ?_⟩
            · walk_at "go"
              exact ⟨_, _, _, v4, rfl, (s2).trans s9, hS.next hs hu e1 hp⟩
            · have s09 := (s2).trans s9
              have hw9l := hw9.len
              have hl2 := (pair_good os.okl (hO u (List.mem_of_getElem? hu)).okl hp).2.2
              walk_at "go"
              refine ⟨r, us, rfl, .inl (.inl (s09 _ _ hr0)), fun pa npa => ?_⟩
              rw [cut_take]
              obtain ⟨Ha, ea, sa, ha⟩ := fresh (.lst (us.take i)) npa
              rw [ea]
              walk_at "go"
              refine ⟨pa, p9, _, _, rfl, rfl, ha, sa _ _ h9, Nat.le_of_lt (small1000 (by rw [List.length_take]; omega)), fun pb npb => ?_⟩
              obtain ⟨Hb, eb, sb, hb⟩ := fresh (.lst (us.take i ++ w9)) npb
              rw [eb]
              walk_at "go"
              refine ⟨r, us, rfl, .inl (.inl ((s09.trans (sa.trans sb)) _ _ hr0)), fun pc npc => ?_⟩
              rw [show cutV us (some ((i : Int) + 2)) none = us.drop (i + 2) from cut_drop us (i + 2)]
              obtain ⟨Hc, ec, sc, hc⟩ := fresh (.lst (us.drop (i + 2))) npc
              rw [ec]
              walk_at "go"
              refine ⟨pb, pc, _, _, rfl, rfl, sc _ _ hb, hc, Nat.le_of_lt (small1000 (by rw [List.length_append, List.length_take, List.length_drop]; omega)), fun pd npd => ?_⟩
              obtain ⟨Hd, ed, sd, hd⟩ := fresh (.lst (us.take i ++ w9 ++ us.drop (i + 2))) npd
              rw [ed]
              have s9d := sa.trans (sb.trans (sc.trans sd))
              refine q2 _ (hS.hit2 hs hu e1 hp) _ pd _ (s09.trans s9d) ((s09.trans (sa.trans (sb.trans sc))).free npd) hd ?_
              rw [← List.append_assoc]
              exact (((hv.foldB i).imp fun v s => RowV.same (s09.trans s9d)).app (hw9.imp fun v s => RowV.same s9d)).app ((hv.foldD (i + 2)).imp fun v s => RowV.same (s09.trans s9d))
  · rintro σ H1 ⟨v1, v2, v3, v4, rfl, s1, hS⟩
    rw [hvl] at hS
    walk_at "go"
    exact q1 hS.none_ _ s1
end
end My

namespace My
open PySem PySem.Spec PyProof.Rows L2 Pre
theorem bits_app (xs ys : List Step) : bitsS (xs ++ ys) = bitsS xs + bitsS ys := by
  unfold bitsS
  rw [List.map_append, List.sum_append]
local macro_rules | `(tactic| walk_at "go") => `(tactic| repeat (first | (with_reducible first | refine iteT ?_ | refine iteF ?_ | refine iteNtt ?_ | refine iteNff ?_ | refine iteET (by omega) ?_ | refine iteEF (by omega) ?_ | refine iteENT (by omega) ?_ | refine iteENF (by omega) ?_ | refine iteDT (by omega) ?_ | refine iteDF (by omega) ?_ | refine iteNT (by omega) ?_ | refine iteNF (by omega) ?_) | refine ⟨_, rfl, ?_⟩ | refine ⟨_, _, rfl, rfl, ?_⟩ | refine ⟨_, _, rfl, ?_⟩ | refine ⟨rfl, ?_⟩ | refine .inl ⟨_, rfl, ?_⟩ | refine .inr ⟨_, rfl, ?_⟩))
local macro_rules | `(tactic| walk_at "b") => `(tactic| try dsimp (config := { proj := false, iota := false, eta := false, zeta := false }) only)
section
variable {P : Program} {w : World} {K : PySem.W.Frag} {mg : Str → Option Value} {base : Heap}
def sp_tidy (C : Addr) (K : PySem.W.Frag) : Sp := fun vs H Q _ => ∃ (a r : Addr) (n : Nat) (ss : List Step), vs = [.ref a] ∧ MixAt C H a r n ss ∧ Good n (2 ^ 36) ss ∧ 1 ≤ n ∧ n ≤ 4 ∧ ss.length ≤ 60 ∧
  ∀ H' x r', Same H H' → H x = none → H r' = none → MixAt C H' x r' n (tidyF ss) → Q (.ref x) H'
theorem G_tidy (T : Top K mg) : FnOk P w K mg base CX0 8 T.f_tidy T.fd_tidy ["mixer"] (sp_tidy T.C_Mixer K) := by
  refine T.F_tidy.ok sc_tidy (fun vs H Q E h => by obtain ⟨a, r, n, ss, rfl, _⟩ := h; rfl) (fun cdv A outer s H vs Q E hr h => ?_)
  obtain ⟨a, r, n, ss, rfl, hM, hG, hn1, hn4, hl, q⟩ := h
  refine ⟨_, PSs.nox (pss_cons (ps_expr (pe_call (G_check_mixer T) (hr.mono (by decide)) (by rfl) T.g_check_mixer T.F_check_mixer.kp T.b_check_mixer .nil pass0 (pa_cons (pv 0) pa_nil)))
  (pss_cons (ps_par (by rfl) sc_tidy.nd (i := 1) (j := 2) rfl rfl (by decide) rfl rfl (pa_cons (pe_fld (pv 0) rfl) (pa_cons (pe_call (G_tidied T) (hr.mono (by decide)) (by rfl) T.g_tidied T.F_tidied.kp T.b_tidied .nil pass0 (pa_cons (pe_fld (pv 0) rfl) pa_nil)) pa_nil)) (by rfl))
  (pss_cons (ps_while PassesOwn.never (pt_cmpR op_notN (pv 2) pe_non (nomark _))
    (pss_one (ps_par (by rfl) sc_tidy.nd (i := 1) (j := 2) rfl rfl (by decide) rfl rfl (pa_cons (pv 2) (pa_cons (pe_call (G_tidied T) (hr.mono (by decide)) (by rfl) T.g_tidied T.F_tidied.kp T.b_tidied .nil pass0 (pa_cons (pv 2) pa_nil)) pa_nil)) (by rfl))))
  (pss_one (ps_ret (pe_call (G_made T) (hr.mono (by decide)) (by rfl) T.g_made T.F_made.kp T.b_made .nil pass0 (pa_cons (pe_fld (pv 0) rfl) (pa_cons (pv 1) pa_nil)))))))), ?_⟩
  obtain ⟨dx, us, ha, hr0, hv⟩ := id hM
  have hvl := hv.len
  walk_at "go"
  refine ⟨a, r, n, ss, rfl, hM, ?_⟩
  walk_at "go"
  refine ⟨a, T.C_Mixer, dx, _, _, rfl, ha, T.cl_Mixer, T.na_Mixer_rows, rfl, ?_⟩
  walk_at "go"
  refine ⟨a, T.C_Mixer, dx, _, _, rfl, ha, T.cl_Mixer, T.na_Mixer_rows, rfl, ?_⟩
  walk_at "go"
  refine ⟨r, us, n, ss, rfl, hr0, hv, hG.ok, hn4, hl, fun H1 v1 s1 hL1 => ?_⟩
  walk_at "go"
  refine ⟨fun μ σ H2 => ∃ (t : List Step) (v : V) (rt : Addr) (ut : List V), μ = muF t ∧ σ = [some (.ref a), some (.ref rt), some v] ∧ Same H H2 ∧ LatV H H2 v t ∧ H2 rt = some (.lst ut) ∧ AllV (RowV H2) ut t ∧ Good n (2 ^ 36) t ∧ t.length ≤ ss.length ∧ tidyF t = tidyF ss, ⟨muF ss, ss, v1, r, us, rfl, rfl, s1, hL1, s1 _ _ hr0, hv.imp fun v s => RowV.same s1, hG, Nat.le_refl _, rfl⟩, ?_⟩
  rintro μ σ H2 ⟨t, v, rt, ut, rfl, rfl, s2, hL, hrt, hut, hGt, htl, hT⟩
  rcases hL with ⟨hn, rfl⟩ | ⟨l, p, ws, hp, rfl, np, h2, hw⟩
  · walk_at "go"
    refine ⟨a, T.C_Mixer, dx, _, _, rfl, s2 _ _ ha, T.cl_Mixer, T.na_Mixer_many, rfl, ?_⟩
    walk_at "go"
    rw [tidy_none hn] at hT
    refine ⟨rt, n, ut, t, rfl, hrt, hut, hGt.ok, hn1, hn4, by omega, fun H5 x r' s5 nx nr M5 => ?_⟩
    rw [hT] at M5
    exact q H5 x r' (s2.trans s5) (s2.free nx) (s2.free nr) M5
  · walk_at "go"
    refine iteNT (fun z : V.ref p = V.non => by cases z) ?_
    have g2 := short_good hGt hp
    refine ⟨fun σ H3 => ∃ v, σ = [some (.ref a), some (.ref p), some v] ∧ Same H2 H3 ∧ LatV H2 H3 v l, fun σ' H' ⟨v, e, s3, hL3⟩ => ⟨muF l, short_mu hp, l, v, p, ws, rfl, e, s2.trans s3, hL3.imp id (fun ⟨l2, p2, w2, c1, c2, c3, c4, c5⟩ => ⟨l2, p2, w2, c1, c2, s2.free c3, c4, c5⟩), s3 _ _ h2, hw.imp fun v s => RowV.same s3, g2.1, Nat.le_trans g2.2 htl, (tidy_some hp).symm.trans hT⟩, ?_⟩
    walk_at "go"
    refine ⟨p, ws, n, l, rfl, h2, hw, g2.1.ok, hn4, by have := g2.2; omega, fun H3 v3 s3 hL3 => ?_⟩
    walk_at "go"
    exact ⟨s3, hL3⟩
def sp_commute (C : Addr) (K : PySem.W.Frag) : Sp := fun vs H Q _ => ∃ (a r b r2 : Addr) (n : Nat) (ss ts : List Step), vs = [.ref a, .ref b] ∧ MixAt C H a r n ss ∧ MixAt C H b r2 n ts ∧ (∀ s ∈ ss, s.ok n) ∧ (∀ s ∈ ts, s.ok n) ∧ 1 ≤ n ∧ n ≤ 4 ∧ ss.length ≤ 30 ∧ ts.length ≤ 30 ∧ bitsS ss + bitsS ts ≤ 15 ∧ (2 ^ (bitsS ss + bitsS ts)) ^ n ≤ 1000 ∧
  ∀ H', Same H H' → Q (.bl (alikeF n (ss ++ ts) (ts ++ ss))) H'
theorem G_commute (T : Top K mg) : FnOk P w K mg base CX0 8 T.f_commute T.fd_commute ["one", "other"] (sp_commute T.C_Mixer K) := by
  refine T.F_commute.ok sc_commute (fun vs H Q E h => by obtain ⟨a, r, b, r2, n, ss, ts, rfl, _⟩ := h; rfl) (fun cdv A outer s H vs Q E hr h => ?_)
  obtain ⟨a, r, b, r2, n, ss, ts, rfl, hM, hM2, hO, hO2, hn1, hn4, hl, hl2, hm, hpow, q⟩ := h
  refine ⟨_, PSs.nox (pss_cons (ps_expr (pe_call (G_check_both T) (hr.mono (by decide)) (by rfl) T.g_check_both T.F_check_both.kp T.b_check_both .nil pass0 (pa_cons (pv 0) (pa_cons (pv 1) pa_nil))))
  (pss_one (ps_ret (pe_call (G_are_alike T) (hr.mono (by decide)) (by rfl) T.g_are_alike T.F_are_alike.kp T.b_are_alike .nil pass0 (pa_cons (pe_call (G_made T) (hr.mono (by decide)) (by rfl) T.g_made T.F_made.kp T.b_made .nil pass0 (pa_cons (pe_fld (pv 0) rfl) (pa_cons (pe_op op_cat (pe_fld (pv 0) rfl) (pe_fld (pv 1) rfl)) pa_nil))) (pa_cons (pe_call (G_made T) (hr.mono (by decide)) (by rfl) T.g_made T.F_made.kp T.b_made .nil pass0 (pa_cons (pe_fld (pv 0) rfl) (pa_cons (pe_op op_cat (pe_fld (pv 1) rfl) (pe_fld (pv 0) rfl)) pa_nil))) pa_nil)))))), ?_⟩
  obtain ⟨dx, us, ha, hr0, hv⟩ := id hM
  obtain ⟨dy, ws, hb, hr2, hu⟩ := id hM2
  have hvl := hv.len
  have hul := hu.len
  walk_at "go"
  refine ⟨a, r, b, r2, n, ss, ts, rfl, hM, hM2, ?_⟩
  walk_at "go"
  refine ⟨a, T.C_Mixer, dx, _, _, rfl, ha, T.cl_Mixer, T.na_Mixer_many, rfl, ?_⟩
  walk_at "go"
  refine ⟨a, T.C_Mixer, dx, _, _, rfl, ha, T.cl_Mixer, T.na_Mixer_rows, rfl, ?_⟩
  walk_at "go"
  refine ⟨b, T.C_Mixer, dy, _, _, rfl, hb, T.cl_Mixer, T.na_Mixer_rows, rfl, ?_⟩
  refine ⟨r, r2, _, _, rfl, rfl, hr0, hr2, Nat.le_of_lt (small1000 (by omega)), fun p np => ?_⟩
  obtain ⟨H1, e1, s1, h1⟩ := fresh (.lst (us ++ ws)) np
  rw [e1]
  walk_at "go"
  refine ⟨p, n, us ++ ws, ss ++ ts, rfl, h1, AllV.app (hv.imp fun v s => RowV.same s1) (hu.imp fun v s => RowV.same s1), fun s hs => (List.mem_append.mp hs).elim (hO s) (hO2 s), hn1, hn4, by rw [List.length_append]; omega, fun H2 x rx s2 nx nr M2 => ?_⟩
  have s02 := s1.trans s2
  walk_at "go"
  refine ⟨a, T.C_Mixer, dx, _, _, rfl, s02 _ _ ha, T.cl_Mixer, T.na_Mixer_many, rfl, ?_⟩
  walk_at "go"
  refine ⟨b, T.C_Mixer, dy, _, _, rfl, s02 _ _ hb, T.cl_Mixer, T.na_Mixer_rows, rfl, ?_⟩
  walk_at "go"
  refine ⟨a, T.C_Mixer, dx, _, _, rfl, s02 _ _ ha, T.cl_Mixer, T.na_Mixer_rows, rfl, ?_⟩
  refine ⟨r2, r, _, _, rfl, rfl, s02 _ _ hr2, s02 _ _ hr0, Nat.le_of_lt (small1000 (by omega)), fun p3 np3 => ?_⟩
  obtain ⟨H3, e3, s3, h3⟩ := fresh (.lst (ws ++ us)) np3
  rw [e3]
  walk_at "go"
  have s03 := s02.trans s3
  refine ⟨p3, n, ws ++ us, ts ++ ss, rfl, h3, AllV.app (hu.imp fun v s => RowV.same s03) (hv.imp fun v s => RowV.same s03), fun s hs => (List.mem_append.mp hs).elim (hO2 s) (hO s), hn1, hn4, by rw [List.length_append]; omega, fun H4 y ry s4 ny nry M4 => ?_⟩
  walk_at "go"
  have eb : bitsS (ss ++ ts) = bitsS ss + bitsS ts := bits_app ss ts
  have eb2 : bitsS (ts ++ ss) = bitsS ss + bitsS ts := (bits_app ts ss).trans (Nat.add_comm _ _)
  exact ⟨x, rx, y, ry, n, ss ++ ts, ts ++ ss, rfl, M2.same (s3.trans s4), M4, fun s hs => (List.mem_append.mp hs).elim (hO s) (hO2 s), fun s hs => (List.mem_append.mp hs).elim (hO2 s) (hO s), hn1, hn4, by rw [List.length_append]; omega, by rw [List.length_append]; omega, by rw [eb, eb2, Nat.max_self]; exact hm, by rw [eb, eb2, Nat.max_self]; exact hpow, fun H5 s5 => q H5 (s03.trans (s4.trans s5))⟩
end
end My

namespace My
open PySem PySem.Spec PyProof.Rows L2 Pre
theorem StepV.ne {N : Addr → Prop} {H : Hp} {v : V} {s : Step} {p : Addr} (h : StepV N H v s) (np : H p = none) : StepV (fun l => N l ∧ l ≠ p) H v s := by
  cases s with
  | turn i => exact h
  | swap i j => exact h
  | lift b ws sh =>
    obtain ⟨t, l, e, h1, h2, h3⟩ := h
    exact ⟨t, l, e, h1, h2, h3, fun z => by rw [z, np] at h2; cases h2⟩
/-- what a step behind another one makes of both, or what is made shorter, handed back by the law's own -/
def LatS (o : Option (List Step)) (H0 H : Hp) (v : V) : Prop := (o = none ∧ v = .non) ∨ ∃ l p, o = some l ∧ v = .ref p ∧ H0 p = none ∧ StepsAt (fun _ => True) H p l
theorem zip_range (c d : Int) : ∀ (ws us : List Int), ws.length = us.length → (List.range ws.length).map (fun k => ws.getD k 0 * c + us.getD k 0 * d) = List.zipWith (fun w u => w * c + u * d) ws us := fun ws us h => by
  apply List.ext_getElem (by rw [List.length_map, List.length_range, List.length_zipWith, h, Nat.min_self])
  intro i h1 h2
  rw [List.length_map, List.length_range] at h1
  rw [List.getElem_map, List.getElem_range, List.getElem_zipWith, List.getD_eq_getElem?_getD, List.getD_eq_getElem?_getD, List.getElem?_eq_getElem h1, List.getElem?_eq_getElem (by omega)]
  rfl
local macro_rules | `(tactic| walk_at "go") => `(tactic| repeat (first | (with_reducible first | refine iteT ?_ | refine iteF ?_ | refine iteNtt ?_ | refine iteNff ?_ | refine iteET (by omega) ?_ | refine iteEF (by omega) ?_ | refine iteENT (by omega) ?_ | refine iteENF (by omega) ?_ | refine iteDT (by omega) ?_ | refine iteDF (by omega) ?_ | refine iteNT (by omega) ?_ | refine iteNF (by omega) ?_) | refine ⟨_, rfl, ?_⟩ | refine ⟨_, _, rfl, rfl, ?_⟩ | refine ⟨_, _, rfl, ?_⟩ | refine ⟨rfl, ?_⟩ | refine .inl ⟨_, rfl, ?_⟩ | refine .inr ⟨_, rfl, ?_⟩))
local macro_rules | `(tactic| walk_at "b") => `(tactic| try dsimp (config := { proj := false, iota := false, eta := false, zeta := false }) only)
section
variable {P : Program} {w : World} {K : PySem.W.Frag} {mg : Str → Option Value} {base : Heap}
def sp_law_pair (K : PySem.W.Frag) : Sp := fun vs H Q _ => ∃ (v u : V) (n : Nat) (s t : Step), vs = [v, u] ∧ StepV (fun _ => True) H v s ∧ StepV (fun _ => True) H u t ∧ s.ok n ∧ t.ok n ∧ n ≤ 4 ∧
  ∀ H' v, Same H H' → LatS (pairF s t) H H' v → Q v H'
theorem G_law_pair (T : Top K mg) : FnOk P w K mg base CX0 1 T.f_law_pair T.fd_law_pair ["_law_step", "_law_later"] (sp_law_pair K) := by
  refine T.F_law_pair.ok sc_law_pair (fun vs H Q E h => by obtain ⟨v, u, n, s, t, rfl, _⟩ := h; rfl) (fun cdv A outer s H vs Q E hr h => ?_)
  obtain ⟨v, u, n, s, t, rfl, hV, hU, hO, hP, hn4, q⟩ := h
  refine ⟨_, PSs.nox (pss_cons (ps_if (pt_cmpR op_ne (pe_ix (k_ixT K rfl) (pv 0) pe_int (fun _ _ => rfl)) (pe_ix (k_ixT K rfl) (pv 1) pe_int (fun _ _ => rfl)) (nomark _))
    (pss_one (ps_ret pe_non))
    pss_nil)
  (pss_cons (ps_if (pt_cmpR op_ne (pe_ix (k_ixT K rfl) (pv 0) pe_int (fun _ _ => rfl)) pe_str (nomark _))
    (pss_one (ps_ret (pe_ifExp (pt_cmpR (k_eqD K rfl hr.units) (pe_callB (k_sortedT K rfl) (by rfl) T.n_sorted (by decide +kernel) (pa_cons (pe_slice (k_slT K rfl) (pv 0) (po_some pe_int) po_none) pa_nil)) (pe_callB (k_sortedT K rfl) (by rfl) T.n_sorted (by decide +kernel) (pa_cons (pe_slice (k_slT K rfl) (pv 1) (po_some pe_int) po_none) pa_nil)) (nomark _)) (pe_lst pa_nil) pe_non)))
    pss_nil)
  (pss_cons (ps_if (PW.pt (pw_or (pt_cmpR op_ne (pe_ix (k_ixT K rfl) (pv 0) pe_int (fun _ _ => rfl)) (pe_ix (k_ixT K rfl) (pv 1) pe_int (fun _ _ => rfl)) (nomark _)) (pw_or1 (pt_cmpR op_gt (pe_callB (call_min2 rfl) (by rfl) T.n_min (by decide +kernel) (pa_cons (pe_ix (k_ixT K rfl) (pv 0) pe_int (fun _ _ => rfl)) (pa_cons (pe_ix (k_ixT K rfl) (pv 1) pe_int (fun _ _ => rfl)) pa_nil))) pe_int (nomark _)))))
    (pss_one (ps_ret pe_non))
    pss_nil)
  (pss_cons (ps_set (i := 2) sc_law_pair.nd rfl (by first | exact Or.inl rfl | exact Or.inr rfl) (pe_callB (call_max2 rfl) (by rfl) T.n_max (by decide +kernel) (pa_cons (pe_ix (k_ixT K rfl) (pv 0) pe_int (fun _ _ => rfl)) (pa_cons (pe_ix (k_ixT K rfl) (pv 1) pe_int (fun _ _ => rfl)) pa_nil))))
  (pss_cons (ps_setLc (i := 3) (own := [("_law_k", 4)]) (g := gName 4) (tt := tYes) (by rfl) sc_law_pair.nd rfl rfl (sw_true rfl rfl rfl (by decide +kernel)) (pi_range1 (by rfl) T.n_range (pa_cons (pe_callB (k_len K rfl) (by rfl) T.n_len (by decide +kernel) (pa_cons (pe_ix (k_ixT K rfl) (pv 0) pe_int (fun _ _ => rfl)) pa_nil)) pa_nil)) (blkOk_by (own := [("_law_k", 4)]) (N := N_law_pair) (sc := defScope s_law_pair) (by decide +kernel)) (fun _ _ _ _ _ => (pg_name (i := 4) sc_law_pair.nd rfl (by first | exact Or.inl rfl | exact Or.inr rfl))) (fun _ _ _ _ _ => pts_nil) (fun _ _ _ _ _ => (pe_op op_add (pe_op op_shlW (pe_ix (k_ixL K rfl) (pe_ix (k_ixT K rfl) (pv 0) pe_int (fun _ _ => rfl)) (pv 4) (fun _ _ => rfl)) (pe_op op_sub (pv 2) (pe_ix (k_ixT K rfl) (pv 0) pe_int (fun _ _ => rfl)))) (pe_op op_shlW (pe_ix (k_ixL K rfl) (pe_ix (k_ixT K rfl) (pv 1) pe_int (fun _ _ => rfl)) (pv 4) (fun _ _ => rfl)) (pe_op op_sub (pv 2) (pe_ix (k_ixT K rfl) (pv 1) pe_int (fun _ _ => rfl)))))))
  (pss_one (ps_ret (pe_lst (pa_cons (pe_tup (pa_cons pe_str (pa_cons (pe_ix (k_ixT K rfl) (pv 0) pe_int (fun _ _ => rfl)) (pa_cons (pv 3) (pa_cons (pv 2) pa_nil))))) pa_nil))))))))), ?_⟩
  have q1 : pairF s t = none → ∀ H', Same H H' → Q .non H' := fun h H' sm => q H' _ sm (.inl ⟨h, rfl⟩)
  have q2 : ∀ l, pairF s t = some l → ∀ H' p us, Same H H' → H p = none → H' p = some (.lst us) → AllV (StepV (fun _ => True) H') us l → Q (.ref p) H' := fun l h H' p us sm np hp hw => q H' _ sm (.inr ⟨l, p, h, rfl, np, us, hp, hw⟩)
  clear q
  have tag : ∀ {v : V} {s : Step}, StepV (fun _ => True) H v s → ∃ a xs, v = .ref a ∧ H a = some (.tup xs) ∧ xs[0]? = some (tagS s) := fun {v s} h => by
    cases s with
    | turn i => obtain ⟨a, e, h⟩ := h; exact ⟨a, _, e, h, rfl⟩
    | swap i j => obtain ⟨a, e, h⟩ := h; exact ⟨a, _, e, h, rfl⟩
    | lift b ws sh => obtain ⟨a, l, e, h, _⟩ := h; exact ⟨a, _, e, h, rfl⟩
  cases s with
  | turn i =>
    obtain ⟨a, rfl, ha⟩ := hV
    have hA : SqT K H a [sT, .int i] := .inl (.inl ha)
    cases t with
    | turn j =>
      obtain ⟨b, rfl, hb⟩ := hU
      have hB : SqT K H b [sT, .int j] := .inl (.inl hb)
      walk_at "go"
      refine ⟨a, _, _, _, rfl, rfl, hA, rfl, ?_⟩
      walk_at "go"
      refine ⟨b, _, _, _, rfl, rfl, hB, rfl, ?_⟩
      walk_at "go"
      refine ⟨a, _, _, _, rfl, rfl, hA, rfl, rfl, _, rfl, iteNT (by decide) ?_⟩
      walk_at "go"
      refine ⟨a, _, rfl, hA, (show ¬ (HT.sIx 2 0 (some 1) = 0 ∧ HT.sIx 2 2 none = 2) by decide), fun p1 np1 => ?_⟩
      obtain ⟨H1, e1, s1, h1⟩ := fresh (.tup ([(i : Int)].map V.int)) np1
      rw [show upd H p1 (.tup (cutV [sT, .int i] (some 1) none)) = H1 from e1]
      refine ⟨p1, [(i : Int)], rfl, .inl (.inl h1), fun l1 p2 pm1 pw1 np2 => ?_⟩
      obtain ⟨H2, e2, s2, h2⟩ := fresh (.lst (l1.map V.int)) np2
      rw [e2]
      walk_at "go"
      refine ⟨b, _, rfl, .inl (.inl (s2 _ _ (s1 _ _ hb))), (show ¬ (HT.sIx 2 0 (some 1) = 0 ∧ HT.sIx 2 2 none = 2) by decide), fun p3 np3 => ?_⟩
      obtain ⟨H3, e3, s3, h3⟩ := fresh (.tup ([(j : Int)].map V.int)) np3
      rw [show upd H2 p3 (.tup (cutV [sT, .int j] (some 1) none)) = H3 from e3]
      refine ⟨p3, [(j : Int)], rfl, .inl (.inl h3), fun l2 p4 pm2 pw2 np4 => ?_⟩
      obtain ⟨H4, e4, s4, h4⟩ := fresh (.lst (l2.map V.int)) np4
      rw [e4]
      refine eqD_lst (.inl (.inl (s4 _ _ (s3 _ _ h2)))) (.inl (.inl h4)) ?_
      have s04 := s1.trans (s2.trans (s3.trans s4))
      have key := sorted_same pm1 pw1 pm2 pw2
      by_cases c : [(i : Int)].Perm [(j : Int)]
      · rw [decide_eq_true (key.mpr c)]
        walk_at "go"
        refine ⟨Nat.zero_le _, fun p5 np5 => ?_⟩
        exact q2 [] (pair_turn_t c) _ p5 [] (s04.trans (same_upd np5)) (s04.free np5) upd_same trivial
      · rw [decide_eq_false (fun z => c (key.mp z))]
        walk_at "go"
        exact q1 (pair_turn_f c) _ s04
    | swap c d =>
      obtain ⟨b, ys, rfl, hb, hb0⟩ := tag hU
      have hB : SqT K H b ys := .inl (.inl hb)
      walk_at "go"
      refine ⟨a, _, _, _, rfl, rfl, hA, rfl, ?_⟩
      walk_at "go"
      refine ⟨b, _, _, _, rfl, rfl, hB, atI_nat (j := 0) hb0, rfl, _, rfl, iteNT (by first | exact (by decide : ¬ sT = sS) | exact (by decide : ¬ sT = sL) | exact (by decide : ¬ sS = sT) | exact (by decide : ¬ sS = sL) | exact (by decide : ¬ sL = sT) | exact (by decide : ¬ sL = sS)) ?_⟩
      walk_at "go"
      exact q1 rfl _ (Same.refl _)
    | lift c us sh =>
      obtain ⟨b, ys, rfl, hb, hb0⟩ := tag hU
      have hB : SqT K H b ys := .inl (.inl hb)
      walk_at "go"
      refine ⟨a, _, _, _, rfl, rfl, hA, rfl, ?_⟩
      walk_at "go"
      refine ⟨b, _, _, _, rfl, rfl, hB, atI_nat (j := 0) hb0, rfl, _, rfl, iteNT (by first | exact (by decide : ¬ sT = sS) | exact (by decide : ¬ sT = sL) | exact (by decide : ¬ sS = sT) | exact (by decide : ¬ sS = sL) | exact (by decide : ¬ sL = sT) | exact (by decide : ¬ sL = sS)) ?_⟩
      walk_at "go"
      exact q1 rfl _ (Same.refl _)
  | swap i j =>
    obtain ⟨a, rfl, ha⟩ := hV
    have hA : SqT K H a [sS, .int i, .int j] := .inl (.inl ha)
    cases t with
    | turn c =>
      obtain ⟨b, ys, rfl, hb, hb0⟩ := tag hU
      have hB : SqT K H b ys := .inl (.inl hb)
      walk_at "go"
      refine ⟨a, _, _, _, rfl, rfl, hA, rfl, ?_⟩
      walk_at "go"
      refine ⟨b, _, _, _, rfl, rfl, hB, atI_nat (j := 0) hb0, rfl, _, rfl, iteNT (by first | exact (by decide : ¬ sT = sS) | exact (by decide : ¬ sT = sL) | exact (by decide : ¬ sS = sT) | exact (by decide : ¬ sS = sL) | exact (by decide : ¬ sL = sT) | exact (by decide : ¬ sL = sS)) ?_⟩
      walk_at "go"
      exact q1 rfl _ (Same.refl _)
    | swap k l =>
      obtain ⟨b, rfl, hb⟩ := hU
      have hB : SqT K H b [sS, .int k, .int l] := .inl (.inl hb)
      walk_at "go"
      refine ⟨a, _, _, _, rfl, rfl, hA, rfl, ?_⟩
      walk_at "go"
      refine ⟨b, _, _, _, rfl, rfl, hB, rfl, ?_⟩
      walk_at "go"
      refine ⟨a, _, _, _, rfl, rfl, hA, rfl, rfl, _, rfl, iteNT (by decide) ?_⟩
      walk_at "go"
      refine ⟨a, _, rfl, hA, (show ¬ (HT.sIx 3 0 (some 1) = 0 ∧ HT.sIx 3 3 none = 3) by decide), fun p1 np1 => ?_⟩
      obtain ⟨H1, e1, s1, h1⟩ := fresh (.tup ([(i : Int), (j : Int)].map V.int)) np1
      rw [show upd H p1 (.tup (cutV [sS, .int i, .int j] (some 1) none)) = H1 from e1]
      refine ⟨p1, [(i : Int), (j : Int)], rfl, .inl (.inl h1), fun l1 p2 pm1 pw1 np2 => ?_⟩
      obtain ⟨H2, e2, s2, h2⟩ := fresh (.lst (l1.map V.int)) np2
      rw [e2]
      walk_at "go"
      refine ⟨b, _, rfl, .inl (.inl (s2 _ _ (s1 _ _ hb))), (show ¬ (HT.sIx 3 0 (some 1) = 0 ∧ HT.sIx 3 3 none = 3) by decide), fun p3 np3 => ?_⟩
      obtain ⟨H3, e3, s3, h3⟩ := fresh (.tup ([(k : Int), (l : Int)].map V.int)) np3
      rw [show upd H2 p3 (.tup (cutV [sS, .int k, .int l] (some 1) none)) = H3 from e3]
      refine ⟨p3, [(k : Int), (l : Int)], rfl, .inl (.inl h3), fun l2 p4 pm2 pw2 np4 => ?_⟩
      obtain ⟨H4, e4, s4, h4⟩ := fresh (.lst (l2.map V.int)) np4
      rw [e4]
      refine eqD_lst (.inl (.inl (s4 _ _ (s3 _ _ h2)))) (.inl (.inl h4)) ?_
      have s04 := s1.trans (s2.trans (s3.trans s4))
      have key := sorted_same pm1 pw1 pm2 pw2
      by_cases c : [(i : Int), (j : Int)].Perm [(k : Int), (l : Int)]
      · rw [decide_eq_true (key.mpr c)]
        walk_at "go"
        refine ⟨Nat.zero_le _, fun p5 np5 => ?_⟩
        exact q2 [] (pair_swap_t c) _ p5 [] (s04.trans (same_upd np5)) (s04.free np5) upd_same trivial
      · rw [decide_eq_false (fun z => c (key.mp z))]
        walk_at "go"
        exact q1 (pair_swap_f c) _ s04
    | lift c us sh =>
      obtain ⟨b, ys, rfl, hb, hb0⟩ := tag hU
      have hB : SqT K H b ys := .inl (.inl hb)
      walk_at "go"
      refine ⟨a, _, _, _, rfl, rfl, hA, rfl, ?_⟩
      walk_at "go"
      refine ⟨b, _, _, _, rfl, rfl, hB, atI_nat (j := 0) hb0, rfl, _, rfl, iteNT (by first | exact (by decide : ¬ sT = sS) | exact (by decide : ¬ sT = sL) | exact (by decide : ¬ sS = sT) | exact (by decide : ¬ sS = sL) | exact (by decide : ¬ sL = sT) | exact (by decide : ¬ sL = sS)) ?_⟩
      walk_at "go"
      exact q1 rfl _ (Same.refl _)
  | lift i ws sh =>
    obtain ⟨a, la, rfl, ha, hla, _⟩ := hV
    have hA : SqT K H a [sL, .int i, .ref la, .int sh] := .inl (.inl ha)
    cases t with
    | turn c =>
      obtain ⟨b, ys, rfl, hb, hb0⟩ := tag hU
      have hB : SqT K H b ys := .inl (.inl hb)
      walk_at "go"
      refine ⟨a, _, _, _, rfl, rfl, hA, rfl, ?_⟩
      walk_at "go"
      refine ⟨b, _, _, _, rfl, rfl, hB, atI_nat (j := 0) hb0, rfl, _, rfl, iteNT (by first | exact (by decide : ¬ sT = sS) | exact (by decide : ¬ sT = sL) | exact (by decide : ¬ sS = sT) | exact (by decide : ¬ sS = sL) | exact (by decide : ¬ sL = sT) | exact (by decide : ¬ sL = sS)) ?_⟩
      walk_at "go"
      exact q1 rfl _ (Same.refl _)
    | swap c d =>
      obtain ⟨b, ys, rfl, hb, hb0⟩ := tag hU
      have hB : SqT K H b ys := .inl (.inl hb)
      walk_at "go"
      refine ⟨a, _, _, _, rfl, rfl, hA, rfl, ?_⟩
      walk_at "go"
      refine ⟨b, _, _, _, rfl, rfl, hB, atI_nat (j := 0) hb0, rfl, _, rfl, iteNT (by first | exact (by decide : ¬ sT = sS) | exact (by decide : ¬ sT = sL) | exact (by decide : ¬ sS = sT) | exact (by decide : ¬ sS = sL) | exact (by decide : ¬ sL = sT) | exact (by decide : ¬ sL = sS)) ?_⟩
      walk_at "go"
      exact q1 rfl _ (Same.refl _)
    | lift j us th =>
      obtain ⟨b, lb, rfl, hb, hlb, _⟩ := hU
      have hB : SqT K H b [sL, .int j, .ref lb, .int th] := .inl (.inl hb)
      obtain ⟨hi, hwl, hw0, hs15, hws⟩ := id hO
      obtain ⟨hj, hul, hu0, ht15, hus⟩ := id hP
      walk_at "go"
      refine ⟨a, _, _, _, rfl, rfl, hA, rfl, ?_⟩
      walk_at "go"
      refine ⟨b, _, _, _, rfl, rfl, hB, rfl, ?_⟩
      walk_at "go"
      refine ⟨a, _, _, _, rfl, rfl, hA, rfl, rfl, _, rfl, iteNF rfl ?_⟩
      walk_at "go"
      refine ⟨a, _, _, _, rfl, rfl, hA, rfl, ?_⟩
      walk_at "go"
      refine ⟨b, _, _, _, rfl, rfl, hB, rfl, ?_⟩
      by_cases e : i = j
      · subst e
        refine ⟨rfl, _, rfl, iteENF rfl ?_⟩
        walk_at "go"
        refine ⟨a, _, _, _, rfl, rfl, hA, rfl, ?_⟩
        walk_at "go"
        refine ⟨b, _, _, _, rfl, rfl, hB, rfl, ?_⟩
        refine ⟨_, _, rfl, ?_⟩
        rw [show (if (th : Int) < (sh : Int) then (th : Int) else (sh : Int)) = ((min sh th : Nat) : Int) by split <;> omega]
        by_cases hm : min sh th = 0
        · have e2 := q2 _ (if_pos ⟨rfl, hm⟩)
          clear q1 q2
          walk_at "go"
          refine ⟨a, _, _, _, rfl, rfl, hA, rfl, ?_⟩
          walk_at "go"
          refine ⟨b, _, _, _, rfl, rfl, hB, rfl, ?_⟩
          refine ⟨_, _, rfl, ?_⟩
          rw [show (if (th : Int) > (sh : Int) then (th : Int) else (sh : Int)) = ((max sh th : Nat) : Int) by split <;> omega]
          have m1 : sh ≤ max sh th := Nat.le_max_left _ _
          have m2 : th ≤ max sh th := Nat.le_max_right _ _
          have m3 : max sh th ≤ 15 := by omega
          generalize max sh th = m at e2 m1 m2 m3 ⊢
          walk_at "go"
          refine ⟨a, _, _, _, rfl, rfl, hA, rfl, ?_⟩
          refine ⟨la, _, rfl, .inl (.inl (.inl hla)), ?_⟩
          rw [List.length_map]
          walk_at "go"
          refine ⟨by omega, by omega, fun D nD => ?_⟩
          rw [Int.toNat_natCast]
          have zl : ws.length = us.length := by omega
          refine lc_mapR (lo := 0) (n := ws.length) (((List.range ws.length).map fun k => ws.getD k 0 * 2 ^ (m - sh) + us.getD k 0 * 2 ^ (m - th)).map V.int) nD (by rw [List.length_map, List.length_map, List.length_range]) (small1000 (by omega)) (fun x => rfl) ?_ ?_
          · intro k y H' hk hy s' Qt qt
            rw [List.getElem?_map, List.getElem?_map, List.getElem?_range hk] at hy
            cases hy
            rw [Int.zero_add]
            have d1 : (m : Int) - (sh : Int) = ((m - sh : Nat) : Int) := by omega
            have d2 : (m : Int) - (th : Int) = ((m - th : Nat) : Int) := by omega
            have b1 := hws (ws.getD k 0) (by rw [List.getD_eq_getElem?_getD, List.getElem?_eq_getElem hk]; exact List.getElem_mem _)
            have b2 := hus (us.getD k 0) (by rw [List.getD_eq_getElem?_getD, List.getElem?_eq_getElem (show k < us.length by omega)]; exact List.getElem_mem _)
            walk_at "go"
            refine ⟨a, _, _, _, rfl, rfl, Same.tup s' hA, rfl, ?_⟩
            walk_at "go"
            refine ⟨la, _, _, _, rfl, rfl, .inl (.inl (s' _ _ hla)), at_getD hk, ?_⟩
            walk_at "go"
            refine ⟨a, _, _, _, rfl, rfl, Same.tup s' hA, rfl, ?_⟩
            refine ⟨_, _, rfl, rfl, ?_⟩
            refine ⟨_, ((m - sh : Nat) : Int), rfl, congrArg V.int d1, shl_ok (n := 40) (by omega) (by omega), ?_⟩
            walk_at "go"
            refine ⟨b, _, _, _, rfl, rfl, Same.tup s' hB, rfl, ?_⟩
            walk_at "go"
            refine ⟨lb, _, _, _, rfl, rfl, .inl (.inl (s' _ _ hlb)), at_getD (by omega), ?_⟩
            walk_at "go"
            refine ⟨b, _, _, _, rfl, rfl, Same.tup s' hB, rfl, ?_⟩
            refine ⟨_, _, rfl, rfl, ?_⟩
            refine ⟨_, ((m - th : Nat) : Int), rfl, congrArg V.int d2, shl_ok (n := 40) (by omega) (by omega), ?_⟩
            walk_at "go"
            rw [Int.toNat_natCast, Int.toNat_natCast]
            exact qt _ (Same.refl _)
          intro H1 s1 hD
          rw [zip_range _ _ _ _ zl] at hD
          walk_at "go"
          refine ⟨a, _, _, _, rfl, rfl, Same.tup s1 hA, rfl, ?_⟩
          walk_at "go"
          refine ⟨(show 4 ≤ sizeLine by decide), fun p3 np3 => ?_⟩
          obtain ⟨H4, e4, s4, h4⟩ := fresh (.tup [sL, V.int i, .ref D, .int m]) np3
          rw [show upd H1 p3 (.tup [V.str (Str.ofString "lift"), V.int i, V.ref D, V.int m]) = H4 from e4]
          refine ⟨(show 1 ≤ sizeLine by decide), fun p5 np5 => ?_⟩
          obtain ⟨H5, e5, s5, h5⟩ := fresh (.lst [V.ref p3]) np5
          rw [e5]
          exact e2 _ p5 _ (s1.trans (s4.trans s5)) ((s1.trans s4).free np5) h5 ⟨⟨p3, D, rfl, s5 _ _ h4, (s4.trans s5) _ _ hD, trivial⟩, trivial⟩
        · walk_at "go"
          exact q1 (if_neg fun z => hm z.2) _ (Same.refl _)
      · refine ⟨rfl, _, rfl, iteENT (fun z => e (Int.ofNat.inj z)) ?_⟩
        walk_at "go"
        exact q1 (if_neg fun z => e z.1) _ (Same.refl _)
end
end My

namespace My
open PySem PySem.Spec PyProof.Rows L2 Pre
theorem sel_filter (p : Int → Prop) [DecidablePred p] : ∀ ws : List Int, (ws.map fun w => if p w then some (V.int w) else none).filterMap id = (ws.filter fun w => decide (p w)).map V.int
  | [] => rfl
  | w :: ws => by
    rw [List.map_cons, List.filterMap_cons, List.filter_cons, sel_filter p ws]
    by_cases c : p w
    · rw [if_pos c, decide_eq_true c]; rfl
    · rw [if_neg c, decide_eq_false c]; rfl
theorem filter_zero {ws : List Int} : decide (ws.filter (fun w => decide (w ≠ 0)) = []) = decide (∀ w ∈ ws, w = 0) := by
  refine decide_eq_decide.mpr ?_
  rw [List.filter_eq_nil_iff]
  exact ⟨fun h w hw => Classical.byContradiction fun z => h w hw (decide_eq_true z), fun h w hw z => of_decide_eq_true z (h w hw)⟩
theorem filter_half {ws : List Int} : decide (ws.filter (fun w => decide (w % 2 = 1)) = []) = decide (∀ w ∈ ws, w % 2 = 0) := by
  refine decide_eq_decide.mpr ?_
  rw [List.filter_eq_nil_iff]
  exact ⟨fun h w hw => Classical.byContradiction fun z => h w hw (decide_eq_true (show w % 2 = 1 by omega)), fun h w hw z => by have := of_decide_eq_true z; have := h w hw; omega⟩
local macro_rules | `(tactic| walk_at "go") => `(tactic| repeat (first | (with_reducible first | refine iteT ?_ | refine iteF ?_ | refine iteNtt ?_ | refine iteNff ?_ | refine iteET (by omega) ?_ | refine iteEF (by omega) ?_ | refine iteENT (by omega) ?_ | refine iteENF (by omega) ?_ | refine iteDT (by omega) ?_ | refine iteDF (by omega) ?_ | refine iteNT (by omega) ?_ | refine iteNF (by omega) ?_) | refine ⟨_, rfl, ?_⟩ | refine ⟨_, _, rfl, rfl, ?_⟩ | refine ⟨_, _, rfl, ?_⟩ | refine ⟨rfl, ?_⟩ | refine .inl ⟨_, rfl, ?_⟩ | refine .inr ⟨_, rfl, ?_⟩))
local macro_rules | `(tactic| walk_at "b") => `(tactic| try dsimp (config := { proj := false, iota := false, eta := false, zeta := false }) only)
section
variable {P : Program} {w : World} {K : PySem.W.Frag} {mg : Str → Option Value} {base : Heap}
def sp_law_shorter (K : PySem.W.Frag) : Sp := fun vs H Q _ => ∃ (r : Addr) (n : Nat) (ss : List Step), vs = [.ref r] ∧ StepsAt (fun _ => True) H r ss ∧ (∀ s ∈ ss, s.ok n) ∧ n ≤ 4 ∧ ss.length ≤ 60 ∧
  ∀ H' v, Same H H' → LatS (shortF ss) H H' v → Q v H'
theorem G_law_shorter (T : Top K mg) : FnOk P w K mg base CX0 2 T.f_law_shorter T.fd_law_shorter ["_law_steps_here"] (sp_law_shorter K) := by
  refine T.F_law_shorter.ok sc_law_shorter (fun vs H Q E h => by obtain ⟨r, n, ss, rfl, _⟩ := h; rfl) (fun cdv A outer s H vs Q E hr h => ?_)
  obtain ⟨r, n, ss, rfl, hSt, hO, hn4, hl, q⟩ := h
  refine ⟨_, PSs.nox (pss_cons (ps_for PassesOwn.never rfl (pi_range1 (by rfl) T.n_range (pa_cons (pe_callB (k_len K rfl) (by rfl) T.n_len (by decide +kernel) (pa_cons (pv 0) pa_nil)) pa_nil)) (pg_name (i := 1) sc_law_shorter.nd rfl (by first | exact Or.inl rfl | exact Or.inr rfl))
    (pss_cons (ps_set (i := 2) sc_law_shorter.nd rfl (by first | exact Or.inl rfl | exact Or.inr rfl) (pe_ix (k_ixL K rfl) (pv 0) (pv 1) (fun _ _ => rfl)))
  (pss_cons (ps_if (PW.pt (pw_and (pt_cmpR op_eq (pe_ix (k_ixT K rfl) (pv 2) pe_int (fun _ _ => rfl)) pe_str (nomark _)) (pw_and1 (pt_cmpR (k_eqD K rfl hr.units) (pe_lc (own := [("_law_weight_here", 5)]) (g := gName 5) (by rfl) sc_law_shorter.nd (k_piL K rfl (pe_ix (k_ixT K rfl) (pv 2) pe_int (fun _ _ => rfl))) (blkOk_by (own := [("_law_weight_here", 5)]) (N := N_law_shorter) (sc := defScope s_law_shorter) (by decide +kernel)) (fun _ _ _ _ _ => (pg_name (i := 5) sc_law_shorter.nd rfl (by first | exact Or.inl rfl | exact Or.inr rfl))) (fun _ _ _ _ _ => (pts_one (pt_cmpR op_ne (pv 5) pe_int (nomark _)))) (fun _ _ _ _ _ => (pv 5))) (pe_lst pa_nil) (nomark _)))))
    (pss_one (ps_ret (pe_op op_cat (pe_slice (k_slL K rfl) (pv 0) po_none (po_some (pv 1))) (pe_slice (k_slL K rfl) (pv 0) (po_some (pe_op op_add (pv 1) pe_int)) po_none))))
    pss_nil)
  (pss_cons (ps_if (PW.pt (pw_and (pt_cmpR op_eq (pe_ix (k_ixT K rfl) (pv 2) pe_int (fun _ _ => rfl)) pe_str (nomark _)) (pw_and (pt_cmpR op_gt (pe_ix (k_ixT K rfl) (pv 2) pe_int (fun _ _ => rfl)) pe_int (nomark _)) (pw_and1 (pt_cmpR (k_eqD K rfl hr.units) (pe_lc (own := [("_law_weight_here", 5)]) (g := gName 5) (by rfl) sc_law_shorter.nd (k_piL K rfl (pe_ix (k_ixT K rfl) (pv 2) pe_int (fun _ _ => rfl))) (blkOk_by (own := [("_law_weight_here", 5)]) (N := N_law_shorter) (sc := defScope s_law_shorter) (by decide +kernel)) (fun _ _ _ _ _ => (pg_name (i := 5) sc_law_shorter.nd rfl (by first | exact Or.inl rfl | exact Or.inr rfl))) (fun _ _ _ _ _ => (pts_one (pt_cmpR op_eq (pe_op op_mod (pv 5) pe_int) pe_int (nomark _)))) (fun _ _ _ _ _ => (pv 5))) (pe_lst pa_nil) (nomark _))))))
    (pss_cons (ps_set (i := 4) sc_law_shorter.nd rfl (by first | exact Or.inl rfl | exact Or.inr rfl) (pe_tup (pa_cons pe_str (pa_cons (pe_ix (k_ixT K rfl) (pv 2) pe_int (fun _ _ => rfl)) (pa_cons (pe_lc (own := [("_law_weight_here", 5)]) (g := gName 5) (tt := tYes) (by rfl) sc_law_shorter.nd (k_piL K rfl (pe_ix (k_ixT K rfl) (pv 2) pe_int (fun _ _ => rfl))) (blkOk_by (own := [("_law_weight_here", 5)]) (N := N_law_shorter) (sc := defScope s_law_shorter) (by decide +kernel)) (fun _ _ _ _ _ => (pg_name (i := 5) sc_law_shorter.nd rfl (by first | exact Or.inl rfl | exact Or.inr rfl))) (fun _ _ _ _ _ => pts_nil) (fun _ _ _ _ _ => (pe_op op_fdivW (pv 5) pe_int))) (pa_cons (pe_op op_sub (pe_ix (k_ixT K rfl) (pv 2) pe_int (fun _ _ => rfl)) pe_int) pa_nil))))))
  (pss_one (ps_ret (pe_op op_cat (pe_op op_cat (pe_slice (k_slL K rfl) (pv 0) po_none (po_some (pv 1))) (pe_lst (pa_cons (pv 4) pa_nil))) (pe_slice (k_slL K rfl) (pv 0) (po_some (pe_op op_add (pv 1) pe_int)) po_none)))))
    pss_nil)
  (pss_cons (ps_set (i := 3) sc_law_shorter.nd rfl (by first | exact Or.inl rfl | exact Or.inr rfl) (pe_ifExp (pt_cmpR op_lt (pe_op op_add (pv 1) pe_int) (pe_callB (k_len K rfl) (by rfl) T.n_len (by decide +kernel) (pa_cons (pv 0) pa_nil)) (nomark _)) (pe_call (G_law_pair T) (hr.mono (by decide)) (by rfl) T.g_law_pair T.F_law_pair.kp T.b_law_pair .nil pass0 (pa_cons (pv 2) (pa_cons (pe_ix (k_ixL K rfl) (pv 0) (pe_op op_add (pv 1) pe_int) (fun _ _ => rfl)) pa_nil))) pe_non))
  (pss_one (ps_if (pt_cmpR op_notN (pv 3) pe_non (nomark _))
    (pss_one (ps_ret (pe_op op_cat (pe_op op_cat (pe_slice (k_slL K rfl) (pv 0) po_none (po_some (pv 1))) (pv 3)) (pe_slice (k_slL K rfl) (pv 0) (po_some (pe_op op_add (pv 1) pe_int)) po_none))))
    pss_nil)))))))
  (pss_one (ps_ret pe_non))), ?_⟩
  obtain ⟨us, hr0, hv⟩ := hSt
  have hvl := hv.len
  have q1 : shortF ss = none → ∀ H', Same H H' → Q .non H' := fun h H' sm => q H' _ sm (.inl ⟨h, rfl⟩)
  have q2 : ∀ l, shortF ss = some l → ∀ H' p us, Same H H' → H p = none → H' p = some (.lst us) → AllV (StepV (fun _ => True) H') us l → Q (.ref p) H' := fun l h H' p us sm np hp hw => q H' _ sm (.inr ⟨l, p, h, rfl, np, us, hp, hw⟩)
  clear q
  walk_at "go"
  refine ⟨r, us, rfl, .inl (.inl (.inl hr0)), ?_⟩
  walk_at "go"
  refine ⟨by omega, by omega, ?_⟩
  walk_at "b"
  rw [Int.toNat_natCast]
  refine for_range (lo := 0) (n := us.length) (fun i σ H2 => ∃ (v1 v2 v3 v4 : Option V), σ = [some (.ref r), v1, v2, v3, v4, none] ∧ Same H H2 ∧ ShAt ss i) ⟨none, none, none, none, rfl, Same.refl _, .zero _⟩ ?_ ?_
  · rintro i σ H2 hi ⟨v1, v2, v3, v4, rfl, s2, hS⟩
    rw [Int.zero_add]
    have ez1 : us[i]? = some us[i] := List.getElem?_eq_getElem hi
    obtain ⟨s, hs, hvs⟩ := hv.get ez1
    have hil : i < ss.length := (List.getElem?_eq_some_iff.mp hs).1
    have os := hO s (List.mem_of_getElem? hs)
    walk_at "go"
    refine ⟨r, us, _, _, rfl, rfl, .inl (.inl (s2 _ _ hr0)), atI_nat (j := i) ez1, ?_⟩
    generalize us[i] = z1 at ez1 hvs ⊢
    have hvs0 := hvs
    have hvs := StepV.same s2 hvs
    cases s with
    | turn j =>
      obtain ⟨t, rfl, ht⟩ := id hvs
      have hT : SqT K H2 t [sT, .int j] := .inl (.inl ht)
      have e1 : oneF (.turn j) = none := rfl
      walk_at "go"
      refine ⟨t, _, _, _, rfl, rfl, hT, rfl, rfl, _, rfl, iteDF (by decide) ?_⟩
      walk_at "go"
      refine ⟨t, _, _, _, rfl, rfl, hT, rfl, rfl, _, rfl, iteDF (by decide) ?_⟩
      walk_at "go"
      refine ⟨r, us, rfl, .inl (.inl (.inl (s2 _ _ hr0))), ?_⟩
      by_cases cl : i + 1 = ss.length
      · rw [hvl]
        walk_at "go"
        refine ⟨_, _, _, v4, rfl, s2, hS.end_ hs cl e1⟩
      · rw [hvl]
        have hil2 : i + 1 < ss.length := by omega
        obtain ⟨x2, hx2⟩ : ∃ x2, us[i + 1]? = some x2 := ⟨_, List.getElem?_eq_getElem (by omega)⟩
        obtain ⟨u, hu, hvu⟩ := hv.get hx2
        walk_at "go"
        refine ⟨r, us, _, _, rfl, rfl, .inl (.inl (s2 _ _ hr0)), atI_nat (j := i + 1) hx2, ?_⟩
        refine ⟨_, x2, n, _, u, rfl, hvs0.same s2, hvu.same s2, os, hO u (List.mem_of_getElem? hu), hn4, fun H9 v9 s9 hL => ?_⟩
        rcases hL with ⟨hp, rfl⟩ | ⟨l, p9, hp, rfl, np9, w9, h9, hw9⟩
        · walk_at "go"
          exact ⟨_, _, _, v4, rfl, (s2).trans s9, hS.next hs hu e1 hp⟩
        · have s09 := (s2).trans s9
          have hw9l := hw9.len
          have hl2 := (pair_good os.okl (hO u (List.mem_of_getElem? hu)).okl hp).2.2
          walk_at "go"
          refine ⟨r, us, rfl, .inl (.inl (s09 _ _ hr0)), fun pa npa => ?_⟩
          rw [cut_take]
          obtain ⟨Ha, ea, sa, ha⟩ := fresh (.lst (us.take i)) npa
          rw [ea]
          walk_at "go"
          refine ⟨pa, p9, _, _, rfl, rfl, ha, sa _ _ h9, Nat.le_of_lt (small1000 (by rw [List.length_take]; omega)), fun pb npb => ?_⟩
          obtain ⟨Hb, eb, sb, hb⟩ := fresh (.lst (us.take i ++ w9)) npb
          rw [eb]
          walk_at "go"
          refine ⟨r, us, rfl, .inl (.inl ((s09.trans (sa.trans sb)) _ _ hr0)), fun pc npc => ?_⟩
          rw [show cutV us (some ((i : Int) + 2)) none = us.drop (i + 2) from cut_drop us (i + 2)]
          obtain ⟨Hc, ec, sc, hc⟩ := fresh (.lst (us.drop (i + 2))) npc
          rw [ec]
          walk_at "go"
          refine ⟨pb, pc, _, _, rfl, rfl, sc _ _ hb, hc, Nat.le_of_lt (small1000 (by rw [List.length_append, List.length_take, List.length_drop]; omega)), fun pd npd => ?_⟩
          obtain ⟨Hd, ed, sd, hd⟩ := fresh (.lst (us.take i ++ w9 ++ us.drop (i + 2))) npd
          rw [ed]
          have s9d := sa.trans (sb.trans (sc.trans sd))
          refine q2 _ (hS.hit2 hs hu e1 hp) _ pd _ (s09.trans s9d) ((s09.trans (sa.trans (sb.trans sc))).free npd) hd ?_
          rw [← List.append_assoc]
          exact (((hv.foldB i).imp fun v s => StepV.same (s09.trans s9d)).app (hw9.imp fun v s => StepV.same s9d)).app ((hv.foldD (i + 2)).imp fun v s => StepV.same (s09.trans s9d))
    | swap j k =>
      obtain ⟨t, rfl, ht⟩ := id hvs
      have hT : SqT K H2 t [sS, .int j, .int k] := .inl (.inl ht)
      have e1 : oneF (.swap j k) = none := rfl
      walk_at "go"
      refine ⟨t, _, _, _, rfl, rfl, hT, rfl, rfl, _, rfl, iteDF (by decide) ?_⟩
      walk_at "go"
      refine ⟨t, _, _, _, rfl, rfl, hT, rfl, rfl, _, rfl, iteDF (by decide) ?_⟩
      walk_at "go"
      refine ⟨r, us, rfl, .inl (.inl (.inl (s2 _ _ hr0))), ?_⟩
      by_cases cl : i + 1 = ss.length
      · rw [hvl]
        walk_at "go"
        refine ⟨_, _, _, v4, rfl, s2, hS.end_ hs cl e1⟩
      · rw [hvl]
        have hil2 : i + 1 < ss.length := by omega
        obtain ⟨x2, hx2⟩ : ∃ x2, us[i + 1]? = some x2 := ⟨_, List.getElem?_eq_getElem (by omega)⟩
        obtain ⟨u, hu, hvu⟩ := hv.get hx2
        walk_at "go"
        refine ⟨r, us, _, _, rfl, rfl, .inl (.inl (s2 _ _ hr0)), atI_nat (j := i + 1) hx2, ?_⟩
        refine ⟨_, x2, n, _, u, rfl, hvs0.same s2, hvu.same s2, os, hO u (List.mem_of_getElem? hu), hn4, fun H9 v9 s9 hL => ?_⟩
        rcases hL with ⟨hp, rfl⟩ | ⟨l, p9, hp, rfl, np9, w9, h9, hw9⟩
        · walk_at "go"
          exact ⟨_, _, _, v4, rfl, (s2).trans s9, hS.next hs hu e1 hp⟩
        · have s09 := (s2).trans s9
          have hw9l := hw9.len
          have hl2 := (pair_good os.okl (hO u (List.mem_of_getElem? hu)).okl hp).2.2
          walk_at "go"
          refine ⟨r, us, rfl, .inl (.inl (s09 _ _ hr0)), fun pa npa => ?_⟩
          rw [cut_take]
          obtain ⟨Ha, ea, sa, ha⟩ := fresh (.lst (us.take i)) npa
          rw [ea]
          walk_at "go"
          refine ⟨pa, p9, _, _, rfl, rfl, ha, sa _ _ h9, Nat.le_of_lt (small1000 (by rw [List.length_take]; omega)), fun pb npb => ?_⟩
          obtain ⟨Hb, eb, sb, hb⟩ := fresh (.lst (us.take i ++ w9)) npb
          rw [eb]
          walk_at "go"
          refine ⟨r, us, rfl, .inl (.inl ((s09.trans (sa.trans sb)) _ _ hr0)), fun pc npc => ?_⟩
          rw [show cutV us (some ((i : Int) + 2)) none = us.drop (i + 2) from cut_drop us (i + 2)]
          obtain ⟨Hc, ec, sc, hc⟩ := fresh (.lst (us.drop (i + 2))) npc
          rw [ec]
          walk_at "go"
          refine ⟨pb, pc, _, _, rfl, rfl, sc _ _ hb, hc, Nat.le_of_lt (small1000 (by rw [List.length_append, List.length_take, List.length_drop]; omega)), fun pd npd => ?_⟩
          obtain ⟨Hd, ed, sd, hd⟩ := fresh (.lst (us.take i ++ w9 ++ us.drop (i + 2))) npd
          rw [ed]
          have s9d := sa.trans (sb.trans (sc.trans sd))
          refine q2 _ (hS.hit2 hs hu e1 hp) _ pd _ (s09.trans s9d) ((s09.trans (sa.trans (sb.trans sc))).free npd) hd ?_
          rw [← List.append_assoc]
          exact (((hv.foldB i).imp fun v s => StepV.same (s09.trans s9d)).app (hw9.imp fun v s => StepV.same s9d)).app ((hv.foldD (i + 2)).imp fun v s => StepV.same (s09.trans s9d))
    | lift b ws sh =>
      obtain ⟨t, lw, rfl, ht, hlw, _⟩ := id hvs
      obtain ⟨hb, hwl, hw0, hs15, hws⟩ := id os
      have hT : SqT K H2 t [sL, .int b, .ref lw, .int sh] := .inl (.inl ht)
      walk_at "go"
      refine ⟨t, _, _, _, rfl, rfl, hT, rfl, rfl, _, rfl, iteDT rfl ?_⟩
      walk_at "go"
      refine ⟨t, _, _, _, rfl, rfl, hT, rfl, ?_⟩
      walk_at "go"
      refine ⟨⟨_, .inl (.inl hlw)⟩, fun D nD => ?_⟩
      refine lc_selL (K := K) (xs := ws.map V.int) (ws.map fun w => if w ≠ 0 then some (V.int w) else none) nD (.inl (.inl hlw)) (by rw [List.length_map, List.length_map]) (by rw [List.length_map]; exact small1000 (by omega)) (fun x => rfl) ?_ ?_
      · intro k x o H' hx ho s' Qt qt
        obtain ⟨m, hm, rfl⟩ := int_at hx
        rw [List.getElem?_map, hm] at ho
        cases ho
        dsimp only at qt
        by_cases cm : m ≠ 0
        · rw [if_pos cm] at qt
          walk_at "go"
          exact qt _ (Same.refl _)
        · rw [if_neg cm] at qt
          walk_at "go"
          exact qt _ (Same.refl _)
      intro H3 sH3 hD
      rw [sel_filter (fun w => w ≠ 0)] at hD
      refine ⟨Nat.zero_le _, fun eD neD => ?_⟩
      obtain ⟨H3b, eH3b, sH3b, hH3b⟩ := fresh (.lst []) neD
      rw [eH3b]
      refine eqD_lst (ns := ws.filter (fun w => decide (w ≠ 0))) (ms := []) (.inl (.inl (sH3b _ _ hD))) (.inl (.inl hH3b)) ?_
      rw [filter_zero]
      have s23 := s2.trans (sH3.trans sH3b)
      have hT := Same.tup (sH3.trans sH3b) hT
      have hlw := (sH3.trans sH3b) _ _ hlw
      by_cases c : ∀ w ∈ ws, w = 0
      · rw [decide_eq_true c]
        walk_at "go"
        refine ⟨r, us, rfl, .inl (.inl (s23 _ _ hr0)), fun pa npa => ?_⟩
        rw [cut_take]
        obtain ⟨Ha, ea, sa, ha⟩ := fresh (.lst (us.take i)) npa
        rw [ea]
        walk_at "go"
        refine ⟨r, us, rfl, .inl (.inl ((s23.trans sa) _ _ hr0)), fun pc npc => ?_⟩
        rw [show cutV us (some ((i : Int) + 1)) none = us.drop (i + 1) from cut_drop us (i + 1)]
        obtain ⟨Hc, ec, sc, hc⟩ := fresh (.lst (us.drop (i + 1))) npc
        rw [ec]
        walk_at "go"
        refine ⟨pa, pc, _, _, rfl, rfl, sc _ _ ha, hc, Nat.le_of_lt (small1000 (by rw [List.length_take, List.length_drop]; omega)), fun pd npd => ?_⟩
        obtain ⟨Hd, ed, sd, hd⟩ := fresh (.lst (us.take i ++ us.drop (i + 1))) npd
        rw [ed]
        have s0d := s23.trans (sa.trans (sc.trans sd))
        exact q2 _ (hS.hit1 hs (one_zero c)) _ pd _ s0d ((s23.trans (sa.trans sc)).free npd) hd (((hv.foldB i).imp fun v s => StepV.same s0d).app ((hv.foldD (i + 1)).imp fun v s => StepV.same s0d))
      · rw [decide_eq_false c]
        walk_at "go"
        refine ⟨t, _, _, _, rfl, rfl, hT, rfl, rfl, _, rfl, iteDT rfl ?_⟩
        walk_at "go"
        refine ⟨t, _, _, _, rfl, rfl, hT, rfl, ?_⟩
        walk_at "go"
        by_cases c0 : 0 < sh
        · walk_at "go"
          refine ⟨t, _, _, _, rfl, rfl, hT, rfl, ?_⟩
          walk_at "go"
          refine ⟨⟨_, .inl (.inl hlw)⟩, fun D2 nD2 => ?_⟩
          refine lc_selL (K := K) (xs := ws.map V.int) (ws.map fun w => if w % 2 = 1 then some (V.int w) else none) nD2 (.inl (.inl hlw)) (by rw [List.length_map, List.length_map]) (by rw [List.length_map]; exact small1000 (by omega)) (fun x => rfl) ?_ ?_
          · intro k x o H' hx ho s' Qt qt
            obtain ⟨m, hm, rfl⟩ := int_at hx
            rw [List.getElem?_map, hm] at ho
            cases ho
            dsimp only at qt
            by_cases cm : m % 2 = 1
            · rw [if_pos cm] at qt
              walk_at "go"
              refine ⟨(show (0 : Int) < 2 by decide), ?_⟩
              walk_at "go"
              exact qt _ (Same.refl _)
            · rw [if_neg cm] at qt
              walk_at "go"
              refine ⟨(show (0 : Int) < 2 by decide), ?_⟩
              walk_at "go"
              exact qt _ (Same.refl _)
          intro H4 sH4 hD2
          rw [sel_filter (fun w => w % 2 = 1)] at hD2
          refine ⟨Nat.zero_le _, fun eD2 neD2 => ?_⟩
          obtain ⟨H4b, eH4b, sH4b, hH4b⟩ := fresh (.lst []) neD2
          rw [eH4b]
          refine eqD_lst (ns := ws.filter (fun w => decide (w % 2 = 1))) (ms := []) (.inl (.inl (sH4b _ _ hD2))) (.inl (.inl hH4b)) ?_

          rw [filter_half]
          have s24 := s23.trans (sH4.trans sH4b)
          have hT := Same.tup (sH4.trans sH4b) hT
          have hlw := (sH4.trans sH4b) _ _ hlw
          by_cases c2 : ∀ w ∈ ws, w % 2 = 0
          · rw [decide_eq_true c2]
            walk_at "go"
            refine ⟨t, _, _, _, rfl, rfl, hT, rfl, ?_⟩
            walk_at "go"
            refine ⟨t, _, _, _, rfl, rfl, hT, rfl, ?_⟩
            walk_at "go"
            refine ⟨⟨_, .inl (.inl hlw)⟩, fun D5 nD5 => ?_⟩
            refine lc_mapL (K := K) (xs := ws.map V.int) ((ws.map fun w => w / 2).map V.int) nD5 (.inl (.inl hlw)) (by rw [List.length_map, List.length_map, List.length_map]) (by rw [List.length_map]; exact small1000 (by omega)) (fun x => rfl) ?_ ?_
            · intro k x y H' hx hy s' Qt qt
              obtain ⟨m, hm, rfl⟩ := int_at hx
              rw [List.getElem?_map, List.getElem?_map, hm] at hy
              cases hy
              walk_at "go"
              refine ⟨wide_div (b := 60) (show (0 : Int) < 2 by decide) (by decide) (by decide) (by decide), ?_⟩
              exact qt _ (Same.refl _)
            intro H5 s5 hD5
            have s25 := s24.trans s5
            walk_at "go"
            refine ⟨t, _, _, _, rfl, rfl, Same.tup s5 hT, rfl, ?_⟩
            have d1 : (sh : Int) - 1 = ((sh - 1 : Nat) : Int) := by omega
            walk_at "go"
            refine ⟨(show 4 ≤ sizeLine by decide), fun tb ntb => ?_⟩
            obtain ⟨Hb, eb, sb, hb2⟩ := fresh (.tup [sL, V.int b, .ref D5, .int ((sh - 1 : Nat) : Int)]) ntb
            rw [show upd H5 tb (.tup [V.str (Str.ofString "lift"), V.int b, V.ref D5, V.int ((sh : Int) - 1)]) = Hb from by rw [d1]; exact eb]
            have s2b := s25.trans sb
            walk_at "go"
            refine ⟨r, us, rfl, .inl (.inl (s2b _ _ hr0)), fun pa npa => ?_⟩
            rw [cut_take]
            obtain ⟨Ha, ea, sa, ha⟩ := fresh (.lst (us.take i)) npa
            rw [ea]
            walk_at "go"
            refine ⟨(show 1 ≤ sizeLine by decide), fun pe npe => ?_⟩
            obtain ⟨He, ee, se, he⟩ := fresh (.lst [V.ref tb]) npe
            rw [ee]
            refine ⟨pa, pe, _, _, rfl, rfl, se _ _ ha, he, Nat.le_of_lt (small1000 (by rw [List.length_take]; show _ + 1 ≤ 1000; omega)), fun pf npf => ?_⟩
            obtain ⟨Hf, ef, sf, hf⟩ := fresh (.lst (us.take i ++ [V.ref tb])) npf
            rw [ef]
            have sbf := sa.trans (se.trans sf)
            walk_at "go"
            refine ⟨r, us, rfl, .inl (.inl ((s2b.trans sbf) _ _ hr0)), fun pc npc => ?_⟩
            rw [show cutV us (some ((i : Int) + 1)) none = us.drop (i + 1) from cut_drop us (i + 1)]
            obtain ⟨Hc, ec, sc, hc⟩ := fresh (.lst (us.drop (i + 1))) npc
            rw [ec]
            walk_at "go"
            refine ⟨pf, pc, _, _, rfl, rfl, sc _ _ hf, hc, Nat.le_of_lt (small1000 (by rw [List.length_append, List.length_take, List.length_drop]; show _ + 1 + _ ≤ 1000; omega)), fun pd npd => ?_⟩
            obtain ⟨Hd, ed, sd, hd⟩ := fresh (.lst (us.take i ++ [V.ref tb] ++ us.drop (i + 1))) npd
            rw [ed]
            have sbd := sbf.trans (sc.trans sd)
            have s0d := s2b.trans sbd
            refine q2 _ (hS.hit1 hs (one_half c ⟨c0, c2⟩)) _ pd _ s0d ((s2b.trans (sbf.trans sc)).free npd) hd ?_
            rw [← List.append_assoc]
            exact (((hv.foldB i).imp fun v s => StepV.same s0d).app (show AllV (StepV (fun _ => True) Hd) [V.ref tb] [Step.lift b (ws.map fun w => w / 2) (sh - 1)] from ⟨⟨tb, D5, rfl, sbd _ _ hb2, (sb.trans sbd) _ _ hD5, trivial⟩, trivial⟩)).app ((hv.foldD (i + 1)).imp fun v s => StepV.same s0d)
          · rw [decide_eq_false c2]
            have e1 : oneF (.lift b ws sh) = none := one_none c fun z => c2 z.2
            walk_at "go"
            refine ⟨r, us, rfl, .inl (.inl (.inl (s24 _ _ hr0))), ?_⟩
            by_cases cl : i + 1 = ss.length
            · rw [hvl]
              walk_at "go"
              refine ⟨_, _, _, v4, rfl, s24, hS.end_ hs cl e1⟩
            · rw [hvl]
              have hil2 : i + 1 < ss.length := by omega
              obtain ⟨x2, hx2⟩ : ∃ x2, us[i + 1]? = some x2 := ⟨_, List.getElem?_eq_getElem (by omega)⟩
              obtain ⟨u, hu, hvu⟩ := hv.get hx2
              walk_at "go"
              refine ⟨r, us, _, _, rfl, rfl, .inl (.inl (s24 _ _ hr0)), atI_nat (j := i + 1) hx2, ?_⟩
              refine ⟨_, x2, n, _, u, rfl, hvs0.same s24, hvu.same s24, os, hO u (List.mem_of_getElem? hu), hn4, fun H9 v9 s9 hL => ?_⟩
              rcases hL with ⟨hp, rfl⟩ | ⟨l, p9, hp, rfl, np9, w9, h9, hw9⟩
              · walk_at "go"
                exact ⟨_, _, _, v4, rfl, (s24).trans s9, hS.next hs hu e1 hp⟩
              · have s09 := (s24).trans s9
                have hw9l := hw9.len
                have hl2 := (pair_good os.okl (hO u (List.mem_of_getElem? hu)).okl hp).2.2
                walk_at "go"
                refine ⟨r, us, rfl, .inl (.inl (s09 _ _ hr0)), fun pa npa => ?_⟩
                rw [cut_take]
                obtain ⟨Ha, ea, sa, ha⟩ := fresh (.lst (us.take i)) npa
                rw [ea]
                walk_at "go"
                refine ⟨pa, p9, _, _, rfl, rfl, ha, sa _ _ h9, Nat.le_of_lt (small1000 (by rw [List.length_take]; omega)), fun pb npb => ?_⟩
                obtain ⟨Hb, eb, sb, hb⟩ := fresh (.lst (us.take i ++ w9)) npb
                rw [eb]
                walk_at "go"
                refine ⟨r, us, rfl, .inl (.inl ((s09.trans (sa.trans sb)) _ _ hr0)), fun pc npc => ?_⟩
                rw [show cutV us (some ((i : Int) + 2)) none = us.drop (i + 2) from cut_drop us (i + 2)]
                obtain ⟨Hc, ec, sc, hc⟩ := fresh (.lst (us.drop (i + 2))) npc
                rw [ec]
                walk_at "go"
                refine ⟨pb, pc, _, _, rfl, rfl, sc _ _ hb, hc, Nat.le_of_lt (small1000 (by rw [List.length_append, List.length_take, List.length_drop]; omega)), fun pd npd => ?_⟩
                obtain ⟨Hd, ed, sd, hd⟩ := fresh (.lst (us.take i ++ w9 ++ us.drop (i + 2))) npd
                rw [ed]
                have s9d := sa.trans (sb.trans (sc.trans sd))
                refine q2 _ (hS.hit2 hs hu e1 hp) _ pd _ (s09.trans s9d) ((s09.trans (sa.trans (sb.trans sc))).free npd) hd ?_
                rw [← List.append_assoc]
                exact (((hv.foldB i).imp fun v s => StepV.same (s09.trans s9d)).app (hw9.imp fun v s => StepV.same s9d)).app ((hv.foldD (i + 2)).imp fun v s => StepV.same (s09.trans s9d))
        · have e1 : oneF (.lift b ws sh) = none := one_none c fun z => c0 z.1
          walk_at "go"
          refine ⟨r, us, rfl, .inl (.inl (.inl (s23 _ _ hr0))), ?_⟩
          by_cases cl : i + 1 = ss.length
          · rw [hvl]
            walk_at "go"
            refine ⟨_, _, _, v4, rfl, s23, hS.end_ hs cl e1⟩
          · rw [hvl]
            have hil2 : i + 1 < ss.length := by omega
            obtain ⟨x2, hx2⟩ : ∃ x2, us[i + 1]? = some x2 := ⟨_, List.getElem?_eq_getElem (by omega)⟩
            obtain ⟨u, hu, hvu⟩ := hv.get hx2
            walk_at "go"
            refine ⟨r, us, _, _, rfl, rfl, .inl (.inl (s23 _ _ hr0)), atI_nat (j := i + 1) hx2, ?_⟩
            refine ⟨_, x2, n, _, u, rfl, hvs0.same s23, hvu.same s23, os, hO u (List.mem_of_getElem? hu), hn4, fun H9 v9 s9 hL => ?_⟩
            rcases hL with ⟨hp, rfl⟩ | ⟨l, p9, hp, rfl, np9, w9, h9, hw9⟩
            · walk_at "go"
              exact ⟨_, _, _, v4, rfl, (s23).trans s9, hS.next hs hu e1 hp⟩
            · have s09 := (s23).trans s9
              have hw9l := hw9.len
              have hl2 := (pair_good os.okl (hO u (List.mem_of_getElem? hu)).okl hp).2.2
              walk_at "go"
              refine ⟨r, us, rfl, .inl (.inl (s09 _ _ hr0)), fun pa npa => ?_⟩
              rw [cut_take]
              obtain ⟨Ha, ea, sa, ha⟩ := fresh (.lst (us.take i)) npa
              rw [ea]
              walk_at "go"
              refine ⟨pa, p9, _, _, rfl, rfl, ha, sa _ _ h9, Nat.le_of_lt (small1000 (by rw [List.length_take]; omega)), fun pb npb => ?_⟩
              obtain ⟨Hb, eb, sb, hb⟩ := fresh (.lst (us.take i ++ w9)) npb
              rw [eb]
              walk_at "go"
              refine ⟨r, us, rfl, .inl (.inl ((s09.trans (sa.trans sb)) _ _ hr0)), fun pc npc => ?_⟩
              rw [show cutV us (some ((i : Int) + 2)) none = us.drop (i + 2) from cut_drop us (i + 2)]
              obtain ⟨Hc, ec, sc, hc⟩ := fresh (.lst (us.drop (i + 2))) npc
              rw [ec]
              walk_at "go"
              refine ⟨pb, pc, _, _, rfl, rfl, sc _ _ hb, hc, Nat.le_of_lt (small1000 (by rw [List.length_append, List.length_take, List.length_drop]; omega)), fun pd npd => ?_⟩
              obtain ⟨Hd, ed, sd, hd⟩ := fresh (.lst (us.take i ++ w9 ++ us.drop (i + 2))) npd
              rw [ed]
              have s9d := sa.trans (sb.trans (sc.trans sd))
              refine q2 _ (hS.hit2 hs hu e1 hp) _ pd _ (s09.trans s9d) ((s09.trans (sa.trans (sb.trans sc))).free npd) hd ?_
              rw [← List.append_assoc]
              exact (((hv.foldB i).imp fun v s => StepV.same (s09.trans s9d)).app (hw9.imp fun v s => StepV.same s9d)).app ((hv.foldD (i + 2)).imp fun v s => StepV.same (s09.trans s9d))
  · rintro σ H1 ⟨v1, v2, v3, v4, rfl, s1, hS⟩
    rw [hvl] at hS
    walk_at "go"
    exact q1 hS.none_ _ s1
def sp_law_tidied (K : PySem.W.Frag) : Sp := fun vs H Q _ => ∃ (r : Addr) (n : Nat) (ss : List Step), vs = [.ref r] ∧ StepsAt (fun _ => True) H r ss ∧ Good n (2 ^ 36) ss ∧ n ≤ 4 ∧ ss.length ≤ 60 ∧
  ∀ H' p, Same H H' → StepsAt (fun _ => True) H' p (tidyF ss) → Q (.ref p) H'
theorem G_law_tidied (T : Top K mg) : FnOk P w K mg base CX0 3 T.f_law_tidied T.fd_law_tidied ["_law_steps_here"] (sp_law_tidied K) := by
  refine T.F_law_tidied.ok sc_law_tidied (fun vs H Q E h => by obtain ⟨r, n, ss, rfl, _⟩ := h; rfl) (fun cdv A outer s H vs Q E hr h => ?_)
  obtain ⟨r, n, ss, rfl, hSt, hG, hn4, hl, q⟩ := h
  refine ⟨_, PSs.nox (pss_cons (ps_par (by rfl) sc_law_tidied.nd (i := 1) (j := 2) rfl rfl (by decide) rfl rfl (pa_cons (pv 0) (pa_cons (pe_call (G_law_shorter T) (hr.mono (by decide)) (by rfl) T.g_law_shorter T.F_law_shorter.kp T.b_law_shorter .nil pass0 (pa_cons (pv 0) pa_nil)) pa_nil)) (by rfl))
  (pss_cons (ps_while PassesOwn.never (pt_cmpR op_notN (pv 2) pe_non (nomark _))
    (pss_cons (ps_set (i := 1) sc_law_tidied.nd rfl (by first | exact Or.inl rfl | exact Or.inr rfl) (pv 2))
  (pss_one (ps_set (i := 2) sc_law_tidied.nd rfl (by first | exact Or.inl rfl | exact Or.inr rfl) (pe_call (G_law_shorter T) (hr.mono (by decide)) (by rfl) T.g_law_shorter T.F_law_shorter.kp T.b_law_shorter .nil pass0 (pa_cons (pv 1) pa_nil))))))
  (pss_one (ps_ret (pv 1))))), ?_⟩
  walk_at "go"
  refine ⟨r, n, ss, rfl, hSt, hG.ok, hn4, hl, fun H1 v1 s1 hL1 => ?_⟩
  walk_at "go"
  refine ⟨fun μ σ H2 => ∃ (t : List Step) (v : V) (rt : Addr), μ = muF t ∧ σ = [some (.ref r), some (.ref rt), some v] ∧ Same H H2 ∧ LatS (shortF t) H H2 v ∧ StepsAt (fun _ => True) H2 rt t ∧ Good n (2 ^ 36) t ∧ t.length ≤ ss.length ∧ tidyF t = tidyF ss, ⟨muF ss, ss, v1, r, rfl, rfl, s1, hL1, hSt.same s1, hG, Nat.le_refl _, rfl⟩, ?_⟩
  rintro μ σ H2 ⟨t, v, rt, rfl, rfl, s2, hL, hrt, hGt, htl, hT⟩
  rcases hL with ⟨hn, rfl⟩ | ⟨l, p, hp, rfl, np, h2⟩
  · walk_at "go"
    rw [tidy_none hn] at hT
    rw [hT] at hrt
    exact q H2 rt s2 hrt
  · walk_at "go"
    refine iteNT (fun z : V.ref p = V.non => by cases z) ?_
    have g2 := short_good hGt hp
    refine ⟨fun σ H3 => ∃ v, σ = [some (.ref r), some (.ref p), some v] ∧ Same H2 H3 ∧ LatS (shortF l) H2 H3 v, fun σ' H' ⟨v, e, s3, hL3⟩ => ⟨muF l, short_mu hp, l, v, p, rfl, e, s2.trans s3, hL3.imp id (fun ⟨l2, p2, c1, c2, c3, c4⟩ => ⟨l2, p2, c1, c2, s2.free c3, c4⟩), h2.same s3, g2.1, Nat.le_trans g2.2 htl, (tidy_some hp).symm.trans hT⟩, ?_⟩
    walk_at "go"
    refine ⟨p, n, l, rfl, h2, g2.1.ok, hn4, by have := g2.2; omega, fun H3 v3 s3 hL3 => ?_⟩
    walk_at "go"
    exact ⟨s3, hL3⟩
end
end My

namespace My
open PySem PySem.Spec PyProof.Rows L2 Pre
def isLift : Step → Bool
  | .lift _ _ _ => true
  | _ => false
/-- the places of the lifts -/
def liftsF (ss : List Step) : List Int := ((List.range ss.length).filter fun i => (ss[i]?.map isLift).getD false).map fun (i : Nat) => (i : Int)
theorem mem_liftsF {ss : List Step} {i : Int} (h : i ∈ liftsF ss) : ∃ (k : Nat) (t : Nat) (ws : List Int) (sh : Nat), i = k ∧ ss[k]? = some (.lift t ws sh) := by
  obtain ⟨k, hk, rfl⟩ := List.mem_map.mp h
  have h2 := (List.mem_filter.mp hk).2
  cases e : ss[k]? with
  | none => rw [e] at h2; cases h2
  | some s =>
    rw [e] at h2
    cases s with
    | turn i => cases h2
    | swap i j => cases h2
    | lift t ws sh => exact ⟨k, t, ws, sh, rfl, e⟩
theorem liftsF_len (ss : List Step) : (liftsF ss).length ≤ ss.length := by
  unfold liftsF
  rw [List.length_map]
  exact Nat.le_trans (List.length_filter_le _ _) (by rw [List.length_range]; exact Nat.le_refl _)
theorem sel_lifts (ss : List Step) : ((List.range ss.length).map fun (i : Nat) => if (ss[i]?.map isLift).getD false = true then some (V.int (i : Int)) else none).filterMap id = (liftsF ss).map V.int := by
  unfold liftsF
  generalize List.range ss.length = l
  induction l with
  | nil => rfl
  | cons i l ih =>
    rw [List.map_cons]
    by_cases c : (ss[i]?.map isLift).getD false = true
    · rw [if_pos c, List.filter_cons_of_pos (by exact c), List.map_cons, List.map_cons, ← ih]
      rfl
    · rw [if_neg c, List.filter_cons_of_neg (by exact c), ← ih]
      rfl
theorem AllV.take {R : V → Step → Prop} : ∀ {vs : List V} {ss : List Step} (i : Nat), AllV R vs ss → AllV R (vs.take i) (ss.take i)
  | _, _, 0, _ => trivial
  | [], [], _ + 1, _ => trivial
  | _ :: _, _ :: _, i + 1, h => ⟨h.1, AllV.take i h.2⟩
  | [], _ :: _, _, h => h.elim
  | _ :: _, [], _, h => h.elim
theorem AllV.drop {R : V → Step → Prop} : ∀ {vs : List V} {ss : List Step} (i : Nat), AllV R vs ss → AllV R (vs.drop i) (ss.drop i)
  | _, _, 0, h => h
  | [], [], _ + 1, _ => trivial
  | _ :: _, _ :: _, i + 1, h => AllV.drop i h.2
  | [], _ :: _, _, h => h.elim
  | _ :: _, [], _, h => h.elim
local macro_rules | `(tactic| walk_at "go") => `(tactic| repeat (first | (with_reducible first | refine iteT ?_ | refine iteF ?_ | refine iteNtt ?_ | refine iteNff ?_ | refine iteET (by omega) ?_ | refine iteEF (by omega) ?_ | refine iteENT (by omega) ?_ | refine iteENF (by omega) ?_ | refine iteDT (by omega) ?_ | refine iteDF (by omega) ?_ | refine iteNT (by omega) ?_ | refine iteNF (by omega) ?_) | refine ⟨_, rfl, ?_⟩ | refine ⟨_, _, rfl, rfl, ?_⟩ | refine ⟨_, _, rfl, ?_⟩ | refine ⟨rfl, ?_⟩ | refine .inl ⟨_, rfl, ?_⟩ | refine .inr ⟨_, rfl, ?_⟩))
local macro_rules | `(tactic| walk_at "b") => `(tactic| try dsimp (config := { proj := false, iota := false, eta := false, zeta := false }) only)
section
variable {P : Program} {w : World} {K : PySem.W.Frag} {mg : Str → Option Value} {base : Heap}
def sp_law_lifts_of : Sp := fun vs H Q _ => ∃ (N : Addr → Prop) (p : Addr) (ss : List Step), vs = [.ref p] ∧ StepsAt N H p ss ∧ ss.length ≤ 100 ∧ ∀ H' l, Same H H' → H l = none → H' l = some (.lst ((liftsF ss).map V.int)) → Q (.ref l) H'
theorem G_law_lifts_of (T : Top K mg) : FnOk P w K mg base CX0 1 T.f_law_lifts_of T.fd_law_lifts_of ["_law_steps_here"] sp_law_lifts_of := by
  refine T.F_law_lifts_of.ok sc_law_lifts_of (fun vs H Q E h => by obtain ⟨N, p, ss, rfl, _⟩ := h; rfl) (fun cdv A outer s H vs Q E hr h => ?_)
  obtain ⟨N, p, ss, rfl, hS, hl, q⟩ := h
  refine ⟨_, PSs.nox (pss_one (ps_ret (pe_lc (own := [("_law_at", 1)]) (g := gName 1) (by rfl) sc_law_lifts_of.nd (pi_range1 (by rfl) T.n_range (pa_cons (pe_callB (k_len K rfl) (by rfl) T.n_len (by decide +kernel) (pa_cons (pv 0) pa_nil)) pa_nil)) (blkOk_by (own := [("_law_at", 1)]) (N := N_law_lifts_of) (sc := defScope s_law_lifts_of) (by decide +kernel)) (fun _ _ _ _ _ => (pg_name (i := 1) sc_law_lifts_of.nd rfl (by first | exact Or.inl rfl | exact Or.inr rfl))) (fun _ _ _ _ _ => (pts_one (pt_cmpR op_eq (pe_ix (k_ixT K rfl) (pe_ix (k_ixL K rfl) (pv 0) (pv 1) (fun _ _ => rfl)) pe_int (fun _ _ => rfl)) pe_str (nomark _)))) (fun _ _ _ _ _ => (pv 1))))), ?_⟩
  obtain ⟨us, hp, hv⟩ := hS
  have hvl := hv.len
  walk_at "go"
  refine ⟨p, us, rfl, .inl (.inl (.inl hp)), ?_⟩
  walk_at "go"
  refine ⟨by omega, by omega, fun D nD => ?_⟩
  rw [Int.toNat_natCast]
  refine lc_selR (lo := 0) (n := us.length) ((List.range ss.length).map fun (i : Nat) => if (ss[i]?.map isLift).getD false = true then some (V.int (i : Int)) else none) nD (by rw [List.length_map, List.length_range, hvl]) (small1000 (by omega)) (fun x => rfl) ?_ ?_
  · intro i o H' hi ho s' Qt qt
    obtain ⟨s, hs, hys⟩ := hv.get (List.getElem?_eq_getElem hi)
    rw [List.getElem?_map, List.getElem?_range (by omega)] at ho
    cases ho
    dsimp only at qt
    rw [hs] at qt
    have hys := hys.same s'
    rw [Int.zero_add]
    have hp' : SqL K H' p us := .inl (.inl (s' _ _ hp))
    have hx : atI us (i : Int) = some us[i] := atI_nat (List.getElem?_eq_getElem hi)
    generalize us[i] = v at hys hx
    walk_at "go"
    refine ⟨p, _, _, _, rfl, rfl, hp', hx, ?_⟩
    walk_at "go"
    cases s with
    | turn i =>
      obtain ⟨t, rfl, ht⟩ := hys
      refine ⟨t, _, _, _, rfl, rfl, .inl (.inl ht), rfl, rfl, _, rfl, iteDF (by decide) ?_⟩
      exact qt _ (Same.refl _)
    | swap i j =>
      obtain ⟨t, rfl, ht⟩ := hys
      refine ⟨t, _, _, _, rfl, rfl, .inl (.inl ht), rfl, rfl, _, rfl, iteDF (by decide) ?_⟩
      exact qt _ (Same.refl _)
    | lift b ws sh =>
      obtain ⟨t, l, rfl, ht, _⟩ := hys
      refine ⟨t, _, _, _, rfl, rfl, .inl (.inl ht), rfl, rfl, _, rfl, iteDT rfl ?_⟩
      walk_at "go"
      exact qt _ (Same.refl _)
  intro H1 s1 hD
  rw [sel_lifts] at hD
  exact q _ D s1 nD hD
end
end My

namespace My
open PySem PySem.Spec PyProof.Rows L2 Pre
theorem tight_app {n : Nat} {a b : List Step} (h : ∀ s ∈ a, s.okT n) (k : ∀ s ∈ b, s.okT n) : ∀ s ∈ a ++ b, s.okT n := fun s hs => (List.mem_append.mp hs).elim (h s) (k s)
theorem bits_cut (ss : List Step) (i : Nat) : bitsS (ss.take i) + bitsS (ss.drop i) = bitsS ss := by
  rw [← bits_app, List.take_append_drop]
local macro_rules | `(tactic| walk_at "go") => `(tactic| repeat (first | (with_reducible first | refine iteT ?_ | refine iteF ?_ | refine iteNtt ?_ | refine iteNff ?_ | refine iteET (by omega) ?_ | refine iteEF (by omega) ?_ | refine iteENT (by omega) ?_ | refine iteENF (by omega) ?_ | refine iteDT (by omega) ?_ | refine iteDF (by omega) ?_ | refine iteNT (by omega) ?_ | refine iteNF (by omega) ?_) | refine ⟨_, rfl, ?_⟩ | refine ⟨_, _, rfl, rfl, ?_⟩ | refine ⟨_, _, rfl, ?_⟩ | refine ⟨rfl, ?_⟩ | refine .inl ⟨_, rfl, ?_⟩ | refine .inr ⟨_, rfl, ?_⟩))
local macro_rules | `(tactic| walk_at "b") => `(tactic| try dsimp (config := { proj := false, iota := false, eta := false, zeta := false }) only)
section
variable {P : Program} {w : World} {K : PySem.W.Frag} {mg : Str → Option Value} {base : Heap}
def sp_law_undone (K : PySem.W.Frag) : Sp := fun vs H Q _ => ∃ (p : Addr) (n : Nat) (ss : List Step), vs = [.ref p] ∧ StepsAt (fun _ => True) H p ss ∧ (∀ s ∈ ss, s.ok n) ∧ n ≤ 4 ∧ ss.length ≤ 30 ∧
  ∀ H' p', Same H H' → StepsAt (fun _ => True) H' p' (undoF ss) → Q (.ref p') H'
theorem G_law_undone (T : Top K mg) : FnOk P w K mg base CX0 1 T.f_law_undone T.fd_law_undone ["_law_steps_here"] (sp_law_undone K) := by
  refine T.F_law_undone.ok sc_law_undone (fun vs H Q E h => by obtain ⟨p, n, ss, rfl, _⟩ := h; rfl) (fun cdv A outer s H vs Q E hr h => ?_)
  obtain ⟨p, n, ss, rfl, hS, hO, hn4, hl, q⟩ := h
  refine ⟨_, PSs.nox (pss_cons (ps_set (i := 1) sc_law_undone.nd rfl (by first | exact Or.inl rfl | exact Or.inr rfl) (pe_lst pa_nil))
  (pss_cons (ps_for PassesOwn.never rfl (k_piL K rfl (pe_revL (pv 0))) (pg_name (i := 2) sc_law_undone.nd rfl (by first | exact Or.inl rfl | exact Or.inr rfl))
    (pss_one (ps_if (pt_cmpR op_ne (pe_ix (k_ixT K rfl) (pv 2) pe_int (fun _ _ => rfl)) pe_str (nomark _))
    (pss_one (ps_expr (pe_bm PySem.F.plainAttrs_list PySem.F.slot_list_append PySem.F.type_list_append mt_append (pv 1) (pa_cons (pv 2) pa_nil))))
    (pss_one (ps_if (pt_cmpR op_eq (pe_ix (k_ixT K rfl) (pv 2) pe_int (fun _ _ => rfl)) pe_int (nomark _))
    (pss_one (ps_expr (pe_bm PySem.F.plainAttrs_list PySem.F.slot_list_append PySem.F.type_list_append mt_append (pv 1) (pa_cons (pe_tup (pa_cons pe_str (pa_cons (pe_ix (k_ixT K rfl) (pv 2) pe_int (fun _ _ => rfl)) (pa_cons (pe_lc (own := [("_law_weight_here", 3)]) (g := gName 3) (tt := tYes) (by rfl) sc_law_undone.nd (k_piL K rfl (pe_ix (k_ixT K rfl) (pv 2) pe_int (fun _ _ => rfl))) (blkOk_by (own := [("_law_weight_here", 3)]) (N := N_law_undone) (sc := defScope s_law_undone) (by decide +kernel)) (fun _ _ _ _ _ => (pg_name (i := 3) sc_law_undone.nd rfl (by first | exact Or.inl rfl | exact Or.inr rfl))) (fun _ _ _ _ _ => pts_nil) (fun _ _ _ _ _ => (pe_op op_sub pe_int (pv 3)))) (pa_cons pe_int pa_nil))))) pa_nil))))
    (pss_one (ps_set (i := 1) sc_law_undone.nd rfl (by first | exact Or.inl rfl | exact Or.inr rfl) (pe_op op_cat (pv 1) (pe_lst (pa_cons (pe_tup (pa_cons pe_str (pa_cons (pe_ix (k_ixT K rfl) (pv 2) pe_int (fun _ _ => rfl)) pa_nil))) (pa_cons (pv 2) (pa_cons (pe_tup (pa_cons pe_str (pa_cons (pe_ix (k_ixT K rfl) (pv 2) pe_int (fun _ _ => rfl)) pa_nil))) pa_nil))))))))))))
  (pss_one (ps_ret (pv 1))))), ?_⟩
  obtain ⟨us, hp, hv⟩ := id hS
  have hvl := hv.len
  walk_at "go"
  refine ⟨Nat.zero_le _, fun F nF => ?_⟩
  obtain ⟨H1, e1, s1, h1⟩ := fresh (.lst []) nF
  rw [e1]
  walk_at "go"
  refine ⟨p, us, rfl, .inl (.inl (s1 _ _ hp)), fun p3 np3 => ?_⟩
  obtain ⟨H2, e2, s2, h2⟩ := fresh (.lst us.reverse) np3
  rw [e2]
  have s02 := s1.trans s2
  have p3H : H p3 = none := s1.free np3
  have p3F : p3 ≠ F := fun z => by rw [z, h1] at np3; cases np3
  refine ⟨p3, rfl, ⟨_, .inl (.inl h2)⟩, for_list (K := K) (a := p3) (xs := us.reverse) (fun i σ H4 => ∃ (v2 : Option V) (F : Addr) (ws : List V), σ = [some (.ref p), some (.ref F), v2, none] ∧ Same H H4 ∧ H F = none ∧ F ≠ p3 ∧ H4 p3 = some (.lst us.reverse) ∧ H4 F = some (.lst ws) ∧ AllV (StepV (fun l => l ≠ F) H4) ws ((ss.reverse.take i).flatMap backR) ∧ ws.length ≤ 3 * i) ⟨none, F, [], rfl, s02, nF, p3F.symm, h2, s2 _ _ h1, trivial, Nat.zero_le _⟩ (fun i σ H4 _ ⟨_, _, _, _, _, _, _, h, _⟩ => .inl (.inl h)) ?_ ?_⟩
  · rintro i v σ H4 hi ⟨v2, F, ws, rfl, s4, nF, Fp3, hp4, hF4, hw, hwl⟩
    have hi' := (List.getElem?_eq_some_iff.mp hi).1
    rw [List.length_reverse] at hi'
    obtain ⟨s, hs, hvs0⟩ := hv.rev.get hi
    have hvs := ((hvs0.ne nF).same s4).mono (fun l z => z.2)
    have hm := List.mem_reverse.mp (List.mem_of_getElem? hs)
    have ho := hO s hm
    have nx : ∀ {H5 : Hp} {v : V} {s' : Step}, Same H4 H5 → StepV (fun l => l ≠ F) H5 v s' → backR s = [s'] → Same H (upd H5 F (.lst (ws ++ [v]))) ∧ H F = none ∧ F ≠ p3 ∧ upd H5 F (.lst (ws ++ [v])) p3 = some (.lst us.reverse) ∧ upd H5 F (.lst (ws ++ [v])) F = some (.lst (ws ++ [v])) ∧ AllV (StepV (fun l => l ≠ F) (upd H5 F (.lst (ws ++ [v])))) (ws ++ [v]) ((ss.reverse.take (i + 1)).flatMap backR) ∧ (ws ++ [v]).length ≤ 3 * (i + 1) := fun {H5 v s'} s5 hvs' eb => by
      have k : ∀ c o, ¬ c = F → H5 c = some o → upd H5 F (.lst (ws ++ [v])) c = some o := fun c o nc h => by rw [upd_ne nc]; exact h
      have ka : ∀ c, c = F → ∃ xs, H5 c = some (.lst xs) := fun c e => ⟨ws, by rw [e]; exact s5 _ _ hF4⟩
      refine ⟨same_over nF (s4.trans s5), nF, Fp3, k _ _ Fp3.symm (s5 _ _ hp4), upd_same, ?_, by rw [List.length_append]; show ws.length + 1 ≤ _; omega⟩
      rw [undo_take hs, eb]
      exact (hw.imp fun v s h => StepV.lk (M := fun c => c = F) k ka (fun l z => z) (StepV.same s5 h)).app ⟨StepV.lk (M := fun c => c = F) k ka (fun l z => z) hvs', trivial⟩
    walk_at "go"
    cases s with
    | turn j =>
      obtain ⟨t, rfl, ht⟩ := hvs
      have hT : SqT K H4 t [sT, .int j] := .inl (.inl ht)
      refine ⟨t, _, _, _, rfl, rfl, hT, rfl, rfl, _, rfl, iteNT (by decide) ?_⟩
      walk_at "go"
      refine ⟨.inl ⟨rfl, _, .inl (.inl hF4)⟩, ?_⟩
      walk_at "go"
      refine ⟨F, _, _, rfl, rfl, hF4, small1000 (by omega), ?_⟩
      exact ⟨_, F, _, rfl, nx (s' := .turn j) (Same.refl _) ⟨t, rfl, ht⟩ rfl⟩
    | swap j k =>
      obtain ⟨t, rfl, ht⟩ := hvs
      have hT : SqT K H4 t [sS, .int j, .int k] := .inl (.inl ht)
      refine ⟨t, _, _, _, rfl, rfl, hT, rfl, rfl, _, rfl, iteNT (by decide) ?_⟩
      walk_at "go"
      refine ⟨.inl ⟨rfl, _, .inl (.inl hF4)⟩, ?_⟩
      walk_at "go"
      refine ⟨F, _, _, rfl, rfl, hF4, small1000 (by omega), ?_⟩
      exact ⟨_, F, _, rfl, nx (s' := .swap j k) (Same.refl _) ⟨t, rfl, ht⟩ rfl⟩
    | lift b ws2 sh =>
      obtain ⟨t, l, rfl, ht, hlw, lF⟩ := hvs
      have hwl2 : ws2.length = n := ho.2.1
      have hT : SqT K H4 t [sL, .int b, .ref l, .int sh] := .inl (.inl ht)
      refine ⟨t, _, _, _, rfl, rfl, hT, rfl, rfl, _, rfl, iteNF rfl ?_⟩
      walk_at "go"
      refine ⟨t, _, _, _, rfl, rfl, hT, rfl, ?_⟩
      by_cases c : sh = 0
      · walk_at "go"
        refine ⟨.inl ⟨rfl, _, .inl (.inl hF4)⟩, ?_⟩
        walk_at "go"
        refine ⟨t, _, _, _, rfl, rfl, hT, rfl, ?_⟩
        walk_at "go"
        refine ⟨t, _, _, _, rfl, rfl, hT, rfl, ?_⟩
        walk_at "go"
        refine ⟨⟨_, .inl (.inl hlw)⟩, fun D nD => ?_⟩
        refine lc_mapL (K := K) (xs := ws2.map V.int) ((ws2.map fun w => 0 - w).map V.int) nD (.inl (.inl hlw)) (by rw [List.length_map, List.length_map, List.length_map]) (by rw [List.length_map]; exact small1000 (by omega)) (fun x => rfl) ?_ ?_
        · intro k x y H' hx hy s Qt qt
          obtain ⟨m, hm, rfl⟩ := int_at hx
          rw [List.getElem?_map, List.getElem?_map, hm] at hy
          cases hy
          walk_at "go"
          exact qt _ (Same.refl _)
        intro H5 s5 hD
        walk_at "go"
        refine ⟨(show 4 ≤ sizeLine by decide), fun tq ntq => ?_⟩
        obtain ⟨H6, e6, s6, h6⟩ := fresh (.tup [sL, V.int b, .ref D, .int (0 : Nat)]) ntq
        rw [show upd H5 tq (.tup [V.str (Str.ofString "lift"), V.int b, V.ref D, V.int 0]) = H6 from e6]
        have s46 := s5.trans s6
        refine ⟨F, _, _, rfl, rfl, s46 _ _ hF4, small1000 (by omega), ?_⟩
        exact ⟨_, F, _, rfl, nx (s' := .lift b (ws2.map fun w => 0 - w) 0) s46 ⟨tq, D, rfl, h6, s6 _ _ hD, fun z => by rw [z, hF4] at nD; cases nD⟩ (by rw [backR_lift, if_pos c])⟩
      · walk_at "go"
        refine ⟨t, _, _, _, rfl, rfl, hT, rfl, ?_⟩
        walk_at "go"
        refine ⟨(show 2 ≤ sizeLine by decide), fun t1 nt1 => ?_⟩
        obtain ⟨H5, e5, s5, h5⟩ := fresh (.tup [sT, V.int b]) nt1
        rw [show upd H4 t1 (.tup [V.str (Str.ofString "turn"), V.int b]) = H5 from e5]
        walk_at "go"
        refine ⟨t, _, _, _, rfl, rfl, Same.tup s5 hT, rfl, ?_⟩
        walk_at "go"
        refine ⟨(show 2 ≤ sizeLine by decide), fun t2 nt2 => ?_⟩
        obtain ⟨H6, e6, s6, h6⟩ := fresh (.tup [sT, V.int b]) nt2
        rw [show upd H5 t2 (.tup [V.str (Str.ofString "turn"), V.int b]) = H6 from e6]
        refine ⟨(show 3 ≤ sizeLine by decide), fun p4 np4 => ?_⟩
        obtain ⟨H7, e7, s7, h7⟩ := fresh (.lst [V.ref t1, V.ref t, V.ref t2]) np4
        rw [e7]
        have s47 := s5.trans (s6.trans s7)
        refine ⟨F, p4, _, _, rfl, rfl, s47 _ _ hF4, h7, Nat.le_of_lt (small1000 (by show ws.length + 3 ≤ 1000; omega)), fun p5 np5 => ?_⟩
        obtain ⟨H8, e8, s8, h8⟩ := fresh (.lst (ws ++ [V.ref t1, V.ref t, V.ref t2])) np5
        rw [e8]
        have s48 := s47.trans s8
        have f5 : H p5 = none := (s4.trans s47).free np5
        refine ⟨_, p5, _, rfl, s4.trans s48, f5, (fun z => by rw [z, s47 _ _ hp4] at np5; cases np5), s48 _ _ hp4, h8, ?_, by rw [List.length_append]; show ws.length + 3 ≤ _; omega⟩
        rw [undo_take hs, backR_lift, if_neg c]
        have ne5 : ∀ {v : V} {s : Step} {N : Addr → Prop}, StepV N H4 v s → StepV (fun l => l ≠ p5) H8 v s := fun h => ((h.ne (s47.free np5)).same s48).mono fun l z => z.2
        exact (hw.imp fun v s h => ne5 h).app (show AllV (StepV (fun l => l ≠ p5) H8) [V.ref t1, V.ref t, V.ref t2] [.turn b, .lift b ws2 sh, .turn b] from ⟨⟨t1, rfl, (s6.trans (s7.trans s8)) _ _ h5⟩, ne5 (N := fun _ => True) ⟨t, l, rfl, ht, hlw, trivial⟩, ⟨t2, rfl, (s7.trans s8) _ _ h6⟩, trivial⟩)
  · rintro σ H4 ⟨v2, F, ws, rfl, s4, nF, Fp3, hp4, hF4, hw, hwl⟩
    rw [List.length_reverse, hvl, ← List.length_reverse (as := ss), List.take_length] at hw
    walk_at "go"
    exact q H4 F s4 ⟨ws, hF4, hw.imp fun v s h => h.mono fun l z => trivial⟩
def sp_law_filled (K : PySem.W.Frag) : Sp := fun vs H Q _ => ∃ (g p : Addr) (N n : Nat) (ss : List Step), vs = [.ref g, .ref p, .int n] ∧ GenAt H g N ∧ N ≤ 10 ^ 8 ∧ p ≠ g ∧ StepsAt (fun l => l ≠ g) H p ss ∧ (∀ s ∈ ss, s.okT n) ∧ ss.length ≤ 6 ∧ bitsS ss ≤ 4 ∧ 1 ≤ n ∧ n ≤ 4 ∧
  ∀ H' p' ts, But g H H' → GenAt H' g (N + 100000) → p' ≠ g → StepsAt (fun l => l ≠ g) H' p' ts → (∀ s ∈ ts, s.okT n) → ts.length ≤ 12 → bitsS ts ≤ 7 → Q (.ref p') H'
theorem G_law_filled (T : Top K mg) : FnOk P w K mg base CX0 4 T.f_law_filled T.fd_law_filled ["_law_purse_here", "_law_steps_here", "_law_wide"] (sp_law_filled K) := by
  refine T.F_law_filled.ok sc_law_filled (fun vs H Q E h => by obtain ⟨g, p, N, n, ss, rfl, _⟩ := h; rfl) (fun cdv A outer s H vs Q E hr h => ?_)
  obtain ⟨g, p, N, n, ss, rfl, hG, hN, pg, hS, hO, hl, hbits, hn1, hn4, q⟩ := h
  refine ⟨_, PSs.nox (pss_cons (ps_set (i := 3) sc_law_filled.nd rfl (by first | exact Or.inl rfl | exact Or.inr rfl) (pe_callTy (k_listOf K rfl) (by rfl) T.n_list (by decide +kernel) (pa_cons (pv 1) pa_nil)))
  (pss_cons (ps_for PassesOwn.never rfl (pi_range1 (by rfl) T.n_range (pa_cons (pe_call (G_law_draw T) (hr.mono (by decide)) (by rfl) T.g_law_draw T.F_law_draw.kp T.b_law_draw .nil pass0 (pa_cons (pv 0) (pa_cons pe_int pa_nil))) pa_nil)) (pg_name (i := 4) sc_law_filled.nd rfl (by first | exact Or.inl rfl | exact Or.inr rfl))
    (pss_cons (ps_par (by rfl) sc_law_filled.nd (i := 6) (j := 7) rfl rfl (by decide) rfl rfl (pa_cons (pe_call (G_law_draw T) (hr.mono (by decide)) (by rfl) T.g_law_draw T.F_law_draw.kp T.b_law_draw .nil pass0 (pa_cons (pv 0) (pa_cons (pe_op op_add (pe_callB (k_len K rfl) (by rfl) T.n_len (by decide +kernel) (pa_cons (pv 3) pa_nil)) pe_int) pa_nil))) (pa_cons (pe_call (G_law_draw T) (hr.mono (by decide)) (by rfl) T.g_law_draw T.F_law_draw.kp T.b_law_draw .nil pass0 (pa_cons (pv 0) (pa_cons pe_int pa_nil))) pa_nil)) (by rfl))
  (pss_cons (ps_par (by rfl) sc_law_filled.nd (i := 8) (j := 9) rfl rfl (by decide) rfl rfl (pa_cons (pe_call (G_law_draw T) (hr.mono (by decide)) (by rfl) T.g_law_draw T.F_law_draw.kp T.b_law_draw .nil pass0 (pa_cons (pv 0) (pa_cons (pv 2) pa_nil))) (pa_cons (pe_call (G_law_lifts_of T) (hr.mono (by decide)) (by rfl) T.g_law_lifts_of T.F_law_lifts_of.kp T.b_law_lifts_of .nil pass0 (pa_cons (pv 3) pa_nil)) pa_nil)) (by rfl))
  (pss_cons (ps_set (i := 5) sc_law_filled.nd rfl (by first | exact Or.inl rfl | exact Or.inr rfl) (pe_lst (pa_cons (pe_tup (pa_cons pe_str (pa_cons (pv 8) pa_nil))) (pa_cons (pe_tup (pa_cons pe_str (pa_cons (pv 8) pa_nil))) pa_nil))))
  (pss_cons (ps_if (PW.pt (pw_and (pt_cmpR op_eq (pv 7) pe_int (nomark _)) (pw_and1 (pt_cmpR op_gt (pv 2) pe_int (nomark _)))))
    (pss_one (ps_set (i := 5) sc_law_filled.nd rfl (by first | exact Or.inl rfl | exact Or.inr rfl) (pe_lst (pa_cons (pe_tup (pa_cons pe_str (pa_cons pe_int (pa_cons (pe_op op_sub (pv 2) pe_int) pa_nil)))) (pa_cons (pe_tup (pa_cons pe_str (pa_cons (pe_op op_sub (pv 2) pe_int) (pa_cons pe_int pa_nil)))) pa_nil)))))
    (pss_one (ps_if (pt_cmpR op_eq (pv 7) pe_int (nomark _))
    (pss_one (ps_set (i := 5) sc_law_filled.nd rfl (by first | exact Or.inl rfl | exact Or.inr rfl) (pe_lst (pa_cons (pe_tup (pa_cons pe_str (pa_cons (pv 8) (pa_cons (pe_lc (own := [("_law_k", 10)]) (g := gName 10) (tt := tYes) (by rfl) sc_law_filled.nd (pi_range1 (by rfl) T.n_range (pa_cons (pv 2) pa_nil)) (blkOk_by (own := [("_law_k", 10)]) (N := N_law_filled) (sc := defScope s_law_filled) (by decide +kernel)) (fun _ _ _ _ _ => (pg_name (i := 10) sc_law_filled.nd rfl (by first | exact Or.inl rfl | exact Or.inr rfl))) (fun _ _ _ _ _ => pts_nil) (fun _ _ _ _ _ => pe_int)) (pa_cons (pe_call (G_law_draw T) (hr.mono (by decide)) (by rfl) T.g_law_draw T.F_law_draw.kp T.b_law_draw .nil pass0 (pa_cons (pv 0) (pa_cons pe_int pa_nil))) pa_nil))))) pa_nil))))
    (pss_one (ps_if (PW.pt (pw_and (pt_cmpR op_gt (pv 7) pe_int (nomark _)) (pw_and1 (pt_cmpR (k_neD K rfl hr.units) (pv 9) (pe_lst pa_nil) (nomark _)))))
    (pss_cons (ps_set (i := 6) sc_law_filled.nd rfl (by first | exact Or.inl rfl | exact Or.inr rfl) (pe_ix (k_ixL K rfl) (pv 9) (pe_call (G_law_draw T) (hr.mono (by decide)) (by rfl) T.g_law_draw T.F_law_draw.kp T.b_law_draw .nil pass0 (pa_cons (pv 0) (pa_cons (pe_callB (k_len K rfl) (by rfl) T.n_len (by decide +kernel) (pa_cons (pv 9) pa_nil)) pa_nil))) (fun _ _ => rfl)))
  (pss_cons (ps_set (i := 5) sc_law_filled.nd rfl (by first | exact Or.inl rfl | exact Or.inr rfl) (pe_lst (pa_cons (pe_tup (pa_cons pe_str (pa_cons (pe_ix (k_ixT K rfl) (pe_ix (k_ixL K rfl) (pv 3) (pv 6) (fun _ _ => rfl)) pe_int (fun _ _ => rfl)) (pa_cons (pe_ix (k_ixT K rfl) (pe_call (G_law_lift T) (hr.mono (by decide)) (by rfl) T.g_law_lift T.F_law_lift.kp T.b_law_lift .nil pass0 (pa_cons (pv 0) (pa_cons (pv 2) (pa_cons pe_int pa_nil)))) pe_int (fun _ _ => rfl)) (pa_cons pe_int pa_nil))))) pa_nil)))
  (pss_one (ps_asg pe_int (pg_sub (pe_ix (k_ixT K rfl) (pe_ix (k_ixL K rfl) (pv 5) pe_int (fun _ _ => rfl)) pe_int (fun _ _ => rfl)) (pe_ix (k_ixT K rfl) (pe_ix (k_ixL K rfl) (pv 3) (pv 6) (fun _ _ => rfl)) pe_int (fun _ _ => rfl)) set_list)))))
    pss_nil)))))
  (pss_one (ps_set (i := 3) sc_law_filled.nd rfl (by first | exact Or.inl rfl | exact Or.inr rfl) (pe_op op_cat (pe_op op_cat (pe_slice (k_slL K rfl) (pv 3) po_none (po_some (pv 6))) (pv 5)) (pe_slice (k_slL K rfl) (pv 3) (po_some (pv 6)) po_none)))))))))
  (pss_one (ps_ret (pv 3))))), ?_⟩
  obtain ⟨us, hp, hv⟩ := id hS
  have hvl := hv.len
  walk_at "go"
  refine ⟨p, us, rfl, .inl (.inl (.inl hp)), fun p0 np0 => ?_⟩
  obtain ⟨H1, e1, s1, h1⟩ := fresh (.lst us) np0
  rw [e1]
  have p0g : p0 ≠ g := hG.ne np0
  walk_at "go"
  refine ⟨g, _, _, rfl, hG.same s1, by omega, by decide, small_2900 (by decide), fun r1 H2 r10 r11 g2 b2 => ?_⟩
  walk_at "go"
  refine ⟨by omega, by omega, ?_⟩
  walk_at "b"
  have b02 : But g H H2 := (But.of s1).trans b2
  refine for_range (lo := 0) (n := r1.toNat) (fun i σ H3 => ∃ (v4 v5 v6 v7 v8 v9 : Option V) (pf : Addr) (ts : List Step), σ = [some (.ref g), some (.ref p), some (.int n), some (.ref pf), v4, v5, v6, v7, v8, v9, none] ∧ But g H H3 ∧ GenAt H3 g (N + 100 + 6000 * i) ∧ pf ≠ g ∧ StepsAt (fun l => l ≠ g) H3 pf ts ∧ (∀ s ∈ ts, s.okT n) ∧ ts.length ≤ 6 + 2 * i ∧ bitsS ts ≤ 4 + i)
    ⟨none, none, none, none, none, none, p0, ss, rfl, b02, g2.mono (by omega), p0g, ⟨us, b2 _ _ p0g h1, AllV.but (hv.imp fun v s => StepV.same s1) (hG.same s1) b2 fun l z => z⟩, hO, by omega, by omega⟩ ?_ ?_
  · rintro i σ H3 hi ⟨v4, v5, v6, v7, v8, v9, pf, ts, rfl, b3, g3, pfg, hS3, hO3, hl3, hb3⟩
    have i3 : i < 3 := by omega
    obtain ⟨us3, hf3, hv3⟩ := id hS3
    have hv3l := hv3.len
    walk_at "go"
    refine ⟨pf, _, rfl, .inl (.inl (.inl hf3)), ?_⟩
    walk_at "go"
    refine ⟨g, _, _, rfl, g3, by omega, by omega, small_2900 (by omega), fun ra H4 ra0 ra1 g4 b4 => ?_⟩
    obtain ⟨at1, rfl⟩ : ∃ k : Nat, ra = (k : Int) := ⟨ra.toNat, by omega⟩
    have hat : at1 ≤ us3.length := by omega
    walk_at "go"
    refine ⟨g, _, _, rfl, g4, by omega, by decide, small_2900 (by decide), fun rw5 H5 rw50 rw51 g5 b5 => ?_⟩
    walk_at "go"
    refine ⟨g, _, _, rfl, g5, by omega, by omega, small_2900 (by omega), fun rs H6 rs0 rs1 g6 b6 => ?_⟩
    obtain ⟨sp, rfl⟩ : ∃ k : Nat, rs = (k : Int) := ⟨rs.toNat, by omega⟩
    have hsp : sp < n := by omega
    have b36 : But g H3 H6 := b4.trans (b5.trans b6)
    have S6 := steps_but hS3 g3 b36 (fun l h => h) pfg
    walk_at "go"
    refine ⟨_, pf, ts, rfl, S6, by omega, fun H7 l s7 nl hl7 => ?_⟩
    walk_at "go"
    refine ⟨(show 2 ≤ sizeLine by decide), fun t1 nt1 => ?_⟩
    obtain ⟨H8, e8, s8, h8⟩ := fresh (.tup [sT, V.int sp]) nt1
    rw [show upd H7 t1 (.tup [V.str (Str.ofString "turn"), V.int sp]) = H8 from e8]
    walk_at "go"
    refine ⟨(show 2 ≤ sizeLine by decide), fun t2 nt2 => ?_⟩
    obtain ⟨H9, e9, s9, h9⟩ := fresh (.tup [sT, V.int sp]) nt2
    rw [show upd H8 t2 (.tup [V.str (Str.ofString "turn"), V.int sp]) = H9 from e9]
    refine ⟨(show 2 ≤ sizeLine by decide), fun mo nmo => ?_⟩
    obtain ⟨HA, eA, sA, hA⟩ := fresh (.lst [V.ref t1, V.ref t2]) nmo
    rw [eA]
    have s6A := s7.trans (s8.trans (s9.trans sA))
    have b3A : But g H3 HA := b36.same s6A
    have gA := g6.same s6A
    have lA := (s8.trans (s9.trans sA)) _ _ hl7
    have lg : l ≠ g := g6.ne nl
    walk_at "go"
    by_cases w1 : rw5 = 1
    · by_cases n1 : 1 < n
      · walk_at "go"
        have d1 : (n : Int) - 1 = ((n - 1 : Nat) : Int) := by omega
        refine ⟨(show 3 ≤ sizeLine by decide), fun u1 nu1 => ?_⟩
        obtain ⟨HB, eB, sB, hB⟩ := fresh (.tup [sS, V.int (0 : Nat), V.int (n - 1 : Nat)]) nu1
        rw [show upd HA u1 (.tup [V.str (Str.ofString "swap"), V.int 0, V.int ((n : Int) - 1)]) = HB from by rw [d1]; exact eB]
        walk_at "go"
        refine ⟨(show 3 ≤ sizeLine by decide), fun u2 nu2 => ?_⟩
        obtain ⟨HC, eC, sC, hC⟩ := fresh (.tup [sS, V.int (n - 1 : Nat), V.int (0 : Nat)]) nu2
        rw [show upd HB u2 (.tup [V.str (Str.ofString "swap"), V.int ((n : Int) - 1), V.int 0]) = HC from by rw [d1]; exact eC]
        refine ⟨(show 2 ≤ sizeLine by decide), fun m2 nm2 => ?_⟩
        obtain ⟨HD, eD, sD, hD⟩ := fresh (.lst [V.ref u1, V.ref u2]) nm2
        rw [eD]
        have sAD := sB.trans (sC.trans sD)
        have b3D := b3A.same sAD
        have gD := gA.same sAD
        have SX := steps_but hS3 g3 b3D (fun l h => h) pfg
        obtain ⟨usX, hfX, hvX⟩ := SX
        have hvXl := hvX.len
        walk_at "go"
        refine ⟨pf, _, rfl, .inl (.inl hfX), fun q1 nq1 => ?_⟩
        rw [cut_take]
        obtain ⟨X1, ex1, sx1, hx1⟩ := fresh (.lst (usX.take at1)) nq1
        rw [ex1]
        walk_at "go"
        refine ⟨q1, m2, _, _, rfl, rfl, hx1, sx1 _ _ hD, Nat.le_of_lt (small1000 (by rw [List.length_take]; show min at1 usX.length + 2 ≤ 1000; omega)), fun q2 nq2 => ?_⟩
        obtain ⟨X2, ex2, sx2, hx2⟩ := fresh (.lst (usX.take at1 ++ [V.ref u1, V.ref u2])) nq2
        rw [ex2]
        walk_at "go"
        refine ⟨pf, _, rfl, .inl (.inl ((sx1.trans sx2) _ _ hfX)), fun q3 nq3 => ?_⟩
        rw [cut_drop]
        obtain ⟨X3, ex3, sx3, hx3⟩ := fresh (.lst (usX.drop at1)) nq3
        rw [ex3]
        walk_at "go"
        refine ⟨q2, q3, _, _, rfl, rfl, sx3 _ _ hx2, hx3, Nat.le_of_lt (small1000 (by rw [List.length_append, List.length_take, List.length_drop]; show min at1 usX.length + 2 + (usX.length - at1) ≤ 1000; omega)), fun q4 nq4 => ?_⟩
        obtain ⟨X4, ex4, sx4, hx4⟩ := fresh (.lst (usX.take at1 ++ [V.ref u1, V.ref u2] ++ usX.drop at1)) nq4
        rw [ex4]
        have s3 := sx1.trans (sx2.trans sx3)
        have s4x := s3.trans sx4
        have hvY : AllV (StepV (fun l => l ≠ g) X4) usX ts := hvX.imp fun v s => StepV.same s4x
        have hvM : AllV (StepV (fun l => l ≠ g) X4) [V.ref u1, V.ref u2] [Step.swap 0 (n - 1), .swap (n - 1) 0] := AllV.imp (fun v s => StepV.same s4x) (show AllV (StepV (fun l => l ≠ g) HD) [V.ref u1, V.ref u2] [.swap 0 (n - 1), .swap (n - 1) 0] from ⟨⟨u1, rfl, (sC.trans sD) _ _ hB⟩, ⟨u2, rfl, sD _ _ hC⟩, trivial⟩)
        have bc := bits_cut ts at1
        exact ⟨_, _, _, _, _, _, q4, ts.take at1 ++ [Step.swap 0 (n - 1), .swap (n - 1) 0] ++ ts.drop at1, rfl, (b3.trans b3D).same s4x, (gD.same s4x).mono (by omega), (gD.same s3).ne nq4, ⟨_, hx4, ((hvY.take at1).app hvM).app (hvY.drop at1)⟩, tight_app (tight_app (fun s hs => hO3 s (List.mem_of_mem_take hs)) (fun s hs => by rcases List.mem_cons.mp hs with rfl | hs; exact ⟨⟨by omega, by omega, by omega⟩, trivial⟩; rw [List.mem_singleton.mp hs]; exact ⟨⟨by omega, by omega, by omega⟩, trivial⟩)) (fun s hs => hO3 s (List.mem_of_mem_drop hs)), by rw [List.length_append, List.length_append, List.length_take, List.length_drop]; show min at1 ts.length + 2 + (ts.length - at1) ≤ _; omega, by rw [bits_app, bits_app, show bitsS [Step.swap 0 (n - 1), .swap (n - 1) 0] = 0 from rfl]; omega⟩

      · walk_at "go"
        have SX := steps_but hS3 g3 b3A (fun l h => h) pfg
        obtain ⟨usX, hfX, hvX⟩ := SX
        have hvXl := hvX.len
        walk_at "go"
        refine ⟨pf, _, rfl, .inl (.inl hfX), fun q1 nq1 => ?_⟩
        rw [cut_take]
        obtain ⟨X1, ex1, sx1, hx1⟩ := fresh (.lst (usX.take at1)) nq1
        rw [ex1]
        walk_at "go"
        refine ⟨q1, mo, _, _, rfl, rfl, hx1, sx1 _ _ hA, Nat.le_of_lt (small1000 (by rw [List.length_take]; show min at1 usX.length + 2 ≤ 1000; omega)), fun q2 nq2 => ?_⟩
        obtain ⟨X2, ex2, sx2, hx2⟩ := fresh (.lst (usX.take at1 ++ [V.ref t1, V.ref t2])) nq2
        rw [ex2]
        walk_at "go"
        refine ⟨pf, _, rfl, .inl (.inl ((sx1.trans sx2) _ _ hfX)), fun q3 nq3 => ?_⟩
        rw [cut_drop]
        obtain ⟨X3, ex3, sx3, hx3⟩ := fresh (.lst (usX.drop at1)) nq3
        rw [ex3]
        walk_at "go"
        refine ⟨q2, q3, _, _, rfl, rfl, sx3 _ _ hx2, hx3, Nat.le_of_lt (small1000 (by rw [List.length_append, List.length_take, List.length_drop]; show min at1 usX.length + 2 + (usX.length - at1) ≤ 1000; omega)), fun q4 nq4 => ?_⟩
        obtain ⟨X4, ex4, sx4, hx4⟩ := fresh (.lst (usX.take at1 ++ [V.ref t1, V.ref t2] ++ usX.drop at1)) nq4
        rw [ex4]
        have s3 := sx1.trans (sx2.trans sx3)
        have s4x := s3.trans sx4
        have hvY : AllV (StepV (fun l => l ≠ g) X4) usX ts := hvX.imp fun v s => StepV.same s4x
        have hvM : AllV (StepV (fun l => l ≠ g) X4) [V.ref t1, V.ref t2] [Step.turn sp, .turn sp] := AllV.imp (fun v s => StepV.same s4x) (show AllV (StepV (fun l => l ≠ g) HA) [V.ref t1, V.ref t2] [.turn sp, .turn sp] from ⟨⟨t1, rfl, (s9.trans sA) _ _ h8⟩, ⟨t2, rfl, sA _ _ h9⟩, trivial⟩)
        have bc := bits_cut ts at1
        exact ⟨_, _, _, _, _, _, q4, ts.take at1 ++ [Step.turn sp, .turn sp] ++ ts.drop at1, rfl, (b3.trans b3A).same s4x, (gA.same s4x).mono (by omega), (gA.same s3).ne nq4, ⟨_, hx4, ((hvY.take at1).app hvM).app (hvY.drop at1)⟩, tight_app (tight_app (fun s hs => hO3 s (List.mem_of_mem_take hs)) (fun s hs => by rcases List.mem_cons.mp hs with rfl | hs; exact ⟨(show sp < n from hsp), trivial⟩; rw [List.mem_singleton.mp hs]; exact ⟨(show sp < n from hsp), trivial⟩)) (fun s hs => hO3 s (List.mem_of_mem_drop hs)), by rw [List.length_append, List.length_append, List.length_take, List.length_drop]; show min at1 ts.length + 2 + (ts.length - at1) ≤ _; omega, by rw [bits_app, bits_app, show bitsS [Step.turn sp, .turn sp] = 0 from rfl]; omega⟩

    · walk_at "go"
      by_cases w2 : rw5 = 2
      · walk_at "go"
        refine ⟨by omega, by omega, fun D nD => ?_⟩
        rw [Int.toNat_natCast]
        refine lc_mapR (lo := 0) (n := n) ((List.replicate n (0 : Int)).map V.int) nD (by rw [List.length_map, List.length_replicate]) (small1000 (by omega)) (fun x => rfl) ?_ ?_
        · intro k y H' hk hy s' Qt qt
          rw [List.getElem?_map, List.getElem?_replicate, if_pos hk] at hy
          cases hy
          walk_at "go"
          exact qt _ (Same.refl _)
        intro HB sB hB
        have Dg : D ≠ g := gA.ne nD
        walk_at "go"
        refine ⟨g, _, _, rfl, gA.same sB, by omega, by decide, small_2900 (by decide), fun r2 HC r20 r21 gC bC => ?_⟩
        obtain ⟨sh, rfl⟩ : ∃ k : Nat, r2 = (k : Int) := ⟨r2.toNat, by omega⟩
        have hBC := bC _ _ Dg hB
        walk_at "go"
        refine ⟨(show 4 ≤ sizeLine by decide), fun u1 nu1 => ?_⟩
        obtain ⟨HD, eD, sD, hD⟩ := fresh (.tup [sL, V.int sp, .ref D, .int sh]) nu1
        rw [show upd HC u1 (.tup [V.str (Str.ofString "lift"), V.int sp, V.ref D, V.int sh]) = HD from eD]
        refine ⟨(show 1 ≤ sizeLine by decide), fun m2 nm2 => ?_⟩
        obtain ⟨HE, eE, sE, hE⟩ := fresh (.lst [V.ref u1]) nm2
        rw [eE]
        have sCE := sD.trans sE
        have b3E := ((b3A.same sB).trans bC).same sCE
        have gE := gC.same sCE
        have z0 : ∀ x ∈ List.replicate n (0 : Int), x = 0 := fun x hx => (List.mem_replicate.mp hx).2
        have okz : Step.okT n (.lift sp (List.replicate n (0 : Int)) sh) := ⟨⟨hsp, List.length_replicate, by rw [List.getD_eq_getElem?_getD, List.getElem?_replicate, if_pos hsp]; rfl, by omega, fun x hx => by rw [z0 x hx]; decide⟩, fun x hx => by rw [z0 x hx]; decide⟩
        have SX := steps_but hS3 g3 b3E (fun l h => h) pfg
        obtain ⟨usX, hfX, hvX⟩ := SX
        have hvXl := hvX.len
        walk_at "go"
        refine ⟨pf, _, rfl, .inl (.inl hfX), fun q1 nq1 => ?_⟩
        rw [cut_take]
        obtain ⟨X1, ex1, sx1, hx1⟩ := fresh (.lst (usX.take at1)) nq1
        rw [ex1]
        walk_at "go"
        refine ⟨q1, m2, _, _, rfl, rfl, hx1, sx1 _ _ hE, Nat.le_of_lt (small1000 (by rw [List.length_take]; show min at1 usX.length + 1 ≤ 1000; omega)), fun q2 nq2 => ?_⟩
        obtain ⟨X2, ex2, sx2, hx2⟩ := fresh (.lst (usX.take at1 ++ [V.ref u1])) nq2
        rw [ex2]
        walk_at "go"
        refine ⟨pf, _, rfl, .inl (.inl ((sx1.trans sx2) _ _ hfX)), fun q3 nq3 => ?_⟩
        rw [cut_drop]
        obtain ⟨X3, ex3, sx3, hx3⟩ := fresh (.lst (usX.drop at1)) nq3
        rw [ex3]
        walk_at "go"
        refine ⟨q2, q3, _, _, rfl, rfl, sx3 _ _ hx2, hx3, Nat.le_of_lt (small1000 (by rw [List.length_append, List.length_take, List.length_drop]; show min at1 usX.length + 1 + (usX.length - at1) ≤ 1000; omega)), fun q4 nq4 => ?_⟩
        obtain ⟨X4, ex4, sx4, hx4⟩ := fresh (.lst (usX.take at1 ++ [V.ref u1] ++ usX.drop at1)) nq4
        rw [ex4]
        have s3 := sx1.trans (sx2.trans sx3)
        have s4x := s3.trans sx4
        have hvY : AllV (StepV (fun l => l ≠ g) X4) usX ts := hvX.imp fun v s => StepV.same s4x
        have hvM : AllV (StepV (fun l => l ≠ g) X4) [V.ref u1] [Step.lift sp (List.replicate n (0 : Int)) sh] := AllV.imp (fun v s => StepV.same s4x) (show AllV (StepV (fun l => l ≠ g) HE) [V.ref u1] [.lift sp (List.replicate n (0 : Int)) sh] from ⟨⟨u1, D, rfl, sE _ _ hD, sCE _ _ hBC, Dg⟩, trivial⟩)
        have bc := bits_cut ts at1
        exact ⟨_, _, _, _, _, _, q4, ts.take at1 ++ [Step.lift sp (List.replicate n (0 : Int)) sh] ++ ts.drop at1, rfl, (b3.trans b3E).same s4x, (gE.same s4x).mono (by omega), (gE.same s3).ne nq4, ⟨_, hx4, ((hvY.take at1).app hvM).app (hvY.drop at1)⟩, tight_app (tight_app (fun s hs => hO3 s (List.mem_of_mem_take hs)) (fun s hs => by rw [List.mem_singleton.mp hs]; exact okz)) (fun s hs => hO3 s (List.mem_of_mem_drop hs)), by rw [List.length_append, List.length_append, List.length_take, List.length_drop]; show min at1 ts.length + 1 + (ts.length - at1) ≤ _; omega, by rw [bits_app, bits_app, show bitsS [Step.lift sp (List.replicate n (0 : Int)) sh] = sh from rfl]; omega⟩

      · walk_at "go"
        by_cases w3 : 2 < rw5
        · walk_at "go"
          refine ⟨Nat.zero_le _, fun z nz => ?_⟩
          obtain ⟨HB, eB, sB, hB⟩ := fresh (.lst (([] : List Int).map V.int)) nz
          rw [show upd HA z (.lst []) = HB from eB]
          refine neD_lst (ns := liftsF ts) (ms := []) (.inl (.inl (sB _ _ lA))) (.inl (.inl hB)) ?_
          have b3B := b3A.same sB
          have gB := gA.same sB
          have lB := sB _ _ lA
          by_cases c : liftsF ts = []
          · rw [decide_eq_true c]
            walk_at "go"
            have SX := steps_but hS3 g3 b3B (fun l h => h) pfg
            obtain ⟨usX, hfX, hvX⟩ := SX
            have hvXl := hvX.len
            walk_at "go"
            refine ⟨pf, _, rfl, .inl (.inl hfX), fun q1 nq1 => ?_⟩
            rw [cut_take]
            obtain ⟨X1, ex1, sx1, hx1⟩ := fresh (.lst (usX.take at1)) nq1
            rw [ex1]
            walk_at "go"
            refine ⟨q1, mo, _, _, rfl, rfl, hx1, sx1 _ _ (sB _ _ hA), Nat.le_of_lt (small1000 (by rw [List.length_take]; show min at1 usX.length + 2 ≤ 1000; omega)), fun q2 nq2 => ?_⟩
            obtain ⟨X2, ex2, sx2, hx2⟩ := fresh (.lst (usX.take at1 ++ [V.ref t1, V.ref t2])) nq2
            rw [ex2]
            walk_at "go"
            refine ⟨pf, _, rfl, .inl (.inl ((sx1.trans sx2) _ _ hfX)), fun q3 nq3 => ?_⟩
            rw [cut_drop]
            obtain ⟨X3, ex3, sx3, hx3⟩ := fresh (.lst (usX.drop at1)) nq3
            rw [ex3]
            walk_at "go"
            refine ⟨q2, q3, _, _, rfl, rfl, sx3 _ _ hx2, hx3, Nat.le_of_lt (small1000 (by rw [List.length_append, List.length_take, List.length_drop]; show min at1 usX.length + 2 + (usX.length - at1) ≤ 1000; omega)), fun q4 nq4 => ?_⟩
            obtain ⟨X4, ex4, sx4, hx4⟩ := fresh (.lst (usX.take at1 ++ [V.ref t1, V.ref t2] ++ usX.drop at1)) nq4
            rw [ex4]
            have s3 := sx1.trans (sx2.trans sx3)
            have s4x := s3.trans sx4
            have hvY : AllV (StepV (fun l => l ≠ g) X4) usX ts := hvX.imp fun v s => StepV.same s4x
            have hvM : AllV (StepV (fun l => l ≠ g) X4) [V.ref t1, V.ref t2] [Step.turn sp, .turn sp] := AllV.imp (fun v s => StepV.same s4x) (show AllV (StepV (fun l => l ≠ g) HB) [V.ref t1, V.ref t2] [.turn sp, .turn sp] from ⟨⟨t1, rfl, (s9.trans (sA.trans sB)) _ _ h8⟩, ⟨t2, rfl, (sA.trans sB) _ _ h9⟩, trivial⟩)
            have bc := bits_cut ts at1
            exact ⟨_, _, _, _, _, _, q4, ts.take at1 ++ [Step.turn sp, .turn sp] ++ ts.drop at1, rfl, (b3.trans b3B).same s4x, (gB.same s4x).mono (by omega), (gB.same s3).ne nq4, ⟨_, hx4, ((hvY.take at1).app hvM).app (hvY.drop at1)⟩, tight_app (tight_app (fun s hs => hO3 s (List.mem_of_mem_take hs)) (fun s hs => by rcases List.mem_cons.mp hs with rfl | hs; exact ⟨(show sp < n from hsp), trivial⟩; rw [List.mem_singleton.mp hs]; exact ⟨(show sp < n from hsp), trivial⟩)) (fun s hs => hO3 s (List.mem_of_mem_drop hs)), by rw [List.length_append, List.length_append, List.length_take, List.length_drop]; show min at1 ts.length + 2 + (ts.length - at1) ≤ _; omega, by rw [bits_app, bits_app, show bitsS [Step.turn sp, .turn sp] = 0 from rfl]; omega⟩

          · rw [decide_eq_false c]
            have lpos : 0 < (liftsF ts).length := List.length_pos_iff.mpr c
            have llen := liftsF_len ts
            walk_at "go"
            refine ⟨l, _, rfl, .inl (.inl (.inl lB)), ?_⟩
            rw [List.length_map]
            walk_at "go"
            refine ⟨g, _, _, rfl, gB, by omega, by omega, small_2900 (by omega), fun rj HC rj0 rj1 gC bC => ?_⟩
            obtain ⟨j, rfl⟩ : ∃ k : Nat, rj = (k : Int) := ⟨rj.toNat, by omega⟩
            have hj : j < (liftsF ts).length := by omega
            obtain ⟨at2, tb, wsb, shb, ea2, hs2⟩ := mem_liftsF (List.getElem_mem hj)
            have b3C := b3B.trans bC
            refine ⟨l, _, _, _, rfl, rfl, .inl (.inl (bC _ _ lg lB)), atI_nat (j := j) (by rw [List.getElem?_map, List.getElem?_eq_getElem hj, ea2]; rfl), ?_⟩
            have hat2 : at2 < ts.length := (List.getElem?_eq_some_iff.mp hs2).1
            obtain ⟨usC, hfC, hvC⟩ := steps_but hS3 g3 b3C (fun l h => h) pfg
            have hvCl := hvC.len
            have hx2 : usC[at2]? = some usC[at2] := List.getElem?_eq_getElem (by omega)
            obtain ⟨s0, hs0, hvs⟩ := hvC.get hx2
            rw [hs2] at hs0
            cases hs0
            generalize usC[at2] = x2 at hx2 hvs
            obtain ⟨tp, lw, rfl, htp, hlw, lwg⟩ := hvs
            have okb := hO3 _ (List.mem_of_getElem? hs2)
            have tpg : tp ≠ g := fun z => by
              obtain ⟨x, y, z', a, _⟩ := gC
              rw [z, a] at htp
              cases htp
            walk_at "go"
            refine ⟨pf, _, _, _, rfl, rfl, .inl (.inl hfC), atI_nat (j := at2) hx2, ?_⟩
            walk_at "go"
            refine ⟨tp, _, _, _, rfl, rfl, .inl (.inl htp), rfl, ?_⟩
            walk_at "go"
            refine ⟨g, _, n, 0, rfl, gC, by omega, hn1, hn4, by decide, fun HD v t ws sh bD gD hV hok hsh => ?_⟩
            obtain ⟨tq, D, rfl, htq, hD, nD, Dg⟩ := hV
            walk_at "go"
            refine ⟨tq, _, _, _, rfl, rfl, .inl (.inl htq), rfl, ?_⟩
            walk_at "go"
            refine ⟨(show 4 ≤ sizeLine by decide), fun u1 nu1 => ?_⟩
            obtain ⟨HE, eE, sE, hE⟩ := fresh (.tup [sL, V.int tb, .ref D, .int (0 : Nat)]) nu1
            rw [show upd HD u1 (.tup [V.str (Str.ofString "lift"), V.int tb, V.ref D, V.int 0]) = HE from eE]
            refine ⟨(show 1 ≤ sizeLine by decide), fun m2 nm2 => ?_⟩
            obtain ⟨HF, eF, sF, hF⟩ := fresh (.lst [V.ref u1]) nm2
            rw [eF]
            have sDF := sE.trans sF
            have bCF := bD.same sDF
            have hDF := sDF _ _ hD
            walk_at "go"
            refine ⟨m2, _, _, _, rfl, rfl, .inl (.inl hF), rfl, ?_⟩
            walk_at "go"
            refine ⟨u1, _, _, _, rfl, rfl, .inl (.inl (sF _ _ hE)), rfl, ?_⟩
            walk_at "go"
            refine ⟨pf, _, _, _, rfl, rfl, .inl (.inl (bCF _ _ pfg hfC)), atI_nat (j := at2) hx2, ?_⟩
            walk_at "go"
            refine ⟨tp, _, _, _, rfl, rfl, .inl (.inl (bCF _ _ tpg htp)), rfl, ?_⟩
            have htb : tb < n := okb.1.1
            have hwl : ws.length = n := hok.1.2.1
            refine ⟨D, _, _, tb, rfl, rfl, hDF, ix_ok (by rw [List.length_map]; omega), ?_⟩
            obtain ⟨HG, eG⟩ : ∃ HG, upd HF D (.lst ((ws.map V.int).set tb (.int 0))) = HG := ⟨_, rfl⟩
            rw [eG]
            have hG8 : HG D = some (.lst ((ws.set tb 0).map V.int)) := by rw [← eG, upd_same, List.map_set]
            have kG : ∀ c o, c ≠ D → HF c = some o → HG c = some o := fun c o nc h => by rw [← eG, upd_ne nc]; exact h
            have bCG : But g HC HG := fun c o nc h => kG c o (ne_of_none h nD) (bCF c o nc h)
            have b3G := b3C.trans bCG
            have gG : GenAt HG g (N + 100 + 6000 * i + 100 + 100 + 100 + 100 + 5000) := by
              obtain ⟨x, y, z, a, e⟩ := gD.same sDF
              exact ⟨x, y, z, kG _ _ Dg.symm a, by omega⟩
            have u1D : u1 ≠ D := fun z => by rw [z, hD] at nu1; cases nu1
            have m2D : m2 ≠ D := fun z => by rw [z, sE _ _ hD] at nm2; cases nm2
            have hE8 := kG _ _ u1D (sF _ _ hE)
            have hF8 := kG _ _ m2D hF
            have oky : Step.okT n (.lift tb (ws.set tb 0) 0) := by
              have hy : ∀ x ∈ ws.set tb 0, -32768 ≤ x ∧ x ≤ 32768 := fun x hx => by
                rcases List.mem_or_eq_of_mem_set hx with hx | rfl
                · exact hok.2 x hx
                · decide
              exact ⟨⟨htb, by rw [List.length_set, hwl], by rw [List.getD_eq_getElem?_getD, List.getElem?_set, if_pos rfl, if_pos (by omega)]; rfl, by decide, fun x hx => by have := hy x hx; omega⟩, hy⟩
            have SX := steps_but hS3 g3 b3G (fun l h => h) pfg
            obtain ⟨usX, hfX, hvX⟩ := SX
            have hvXl := hvX.len
            walk_at "go"
            refine ⟨pf, _, rfl, .inl (.inl hfX), fun q1 nq1 => ?_⟩
            rw [cut_take]
            obtain ⟨X1, ex1, sx1, hx1⟩ := fresh (.lst (usX.take at2)) nq1
            rw [ex1]
            walk_at "go"
            refine ⟨q1, m2, _, _, rfl, rfl, hx1, sx1 _ _ hF8, Nat.le_of_lt (small1000 (by rw [List.length_take]; show min at2 usX.length + 1 ≤ 1000; omega)), fun q2 nq2 => ?_⟩
            obtain ⟨X2, ex2, sx2, hx2⟩ := fresh (.lst (usX.take at2 ++ [V.ref u1])) nq2
            rw [ex2]
            walk_at "go"
            refine ⟨pf, _, rfl, .inl (.inl ((sx1.trans sx2) _ _ hfX)), fun q3 nq3 => ?_⟩
            rw [cut_drop]
            obtain ⟨X3, ex3, sx3, hx3⟩ := fresh (.lst (usX.drop at2)) nq3
            rw [ex3]
            walk_at "go"
            refine ⟨q2, q3, _, _, rfl, rfl, sx3 _ _ hx2, hx3, Nat.le_of_lt (small1000 (by rw [List.length_append, List.length_take, List.length_drop]; show min at2 usX.length + 1 + (usX.length - at2) ≤ 1000; omega)), fun q4 nq4 => ?_⟩
            obtain ⟨X4, ex4, sx4, hx4⟩ := fresh (.lst (usX.take at2 ++ [V.ref u1] ++ usX.drop at2)) nq4
            rw [ex4]
            have s3 := sx1.trans (sx2.trans sx3)
            have s4x := s3.trans sx4
            have hvY : AllV (StepV (fun l => l ≠ g) X4) usX ts := hvX.imp fun v s => StepV.same s4x
            have hvM : AllV (StepV (fun l => l ≠ g) X4) [V.ref u1] [Step.lift tb (ws.set tb 0) 0] := AllV.imp (fun v s => StepV.same s4x) (show AllV (StepV (fun l => l ≠ g) HG) [V.ref u1] [.lift tb (ws.set tb 0) 0] from ⟨⟨u1, D, rfl, hE8, hG8, Dg⟩, trivial⟩)
            have bc := bits_cut ts at2
            exact ⟨_, _, _, _, _, _, q4, ts.take at2 ++ [Step.lift tb (ws.set tb 0) 0] ++ ts.drop at2, rfl, (b3.trans b3G).same s4x, (gG.same s4x).mono (by omega), (gG.same s3).ne nq4, ⟨_, hx4, ((hvY.take at2).app hvM).app (hvY.drop at2)⟩, tight_app (tight_app (fun s hs => hO3 s (List.mem_of_mem_take hs)) (fun s hs => by rw [List.mem_singleton.mp hs]; exact oky)) (fun s hs => hO3 s (List.mem_of_mem_drop hs)), by rw [List.length_append, List.length_append, List.length_take, List.length_drop]; show min at2 ts.length + 1 + (ts.length - at2) ≤ _; omega, by rw [bits_app, bits_app, show bitsS [Step.lift tb (ws.set tb 0) 0] = 0 from rfl]; omega⟩

        · walk_at "go"
          have SX := steps_but hS3 g3 b3A (fun l h => h) pfg
          obtain ⟨usX, hfX, hvX⟩ := SX
          have hvXl := hvX.len
          walk_at "go"
          refine ⟨pf, _, rfl, .inl (.inl hfX), fun q1 nq1 => ?_⟩
          rw [cut_take]
          obtain ⟨X1, ex1, sx1, hx1⟩ := fresh (.lst (usX.take at1)) nq1
          rw [ex1]
          walk_at "go"
          refine ⟨q1, mo, _, _, rfl, rfl, hx1, sx1 _ _ hA, Nat.le_of_lt (small1000 (by rw [List.length_take]; show min at1 usX.length + 2 ≤ 1000; omega)), fun q2 nq2 => ?_⟩
          obtain ⟨X2, ex2, sx2, hx2⟩ := fresh (.lst (usX.take at1 ++ [V.ref t1, V.ref t2])) nq2
          rw [ex2]
          walk_at "go"
          refine ⟨pf, _, rfl, .inl (.inl ((sx1.trans sx2) _ _ hfX)), fun q3 nq3 => ?_⟩
          rw [cut_drop]
          obtain ⟨X3, ex3, sx3, hx3⟩ := fresh (.lst (usX.drop at1)) nq3
          rw [ex3]
          walk_at "go"
          refine ⟨q2, q3, _, _, rfl, rfl, sx3 _ _ hx2, hx3, Nat.le_of_lt (small1000 (by rw [List.length_append, List.length_take, List.length_drop]; show min at1 usX.length + 2 + (usX.length - at1) ≤ 1000; omega)), fun q4 nq4 => ?_⟩
          obtain ⟨X4, ex4, sx4, hx4⟩ := fresh (.lst (usX.take at1 ++ [V.ref t1, V.ref t2] ++ usX.drop at1)) nq4
          rw [ex4]
          have s3 := sx1.trans (sx2.trans sx3)
          have s4x := s3.trans sx4
          have hvY : AllV (StepV (fun l => l ≠ g) X4) usX ts := hvX.imp fun v s => StepV.same s4x
          have hvM : AllV (StepV (fun l => l ≠ g) X4) [V.ref t1, V.ref t2] [Step.turn sp, .turn sp] := AllV.imp (fun v s => StepV.same s4x) (show AllV (StepV (fun l => l ≠ g) HA) [V.ref t1, V.ref t2] [.turn sp, .turn sp] from ⟨⟨t1, rfl, (s9.trans sA) _ _ h8⟩, ⟨t2, rfl, sA _ _ h9⟩, trivial⟩)
          have bc := bits_cut ts at1
          exact ⟨_, _, _, _, _, _, q4, ts.take at1 ++ [Step.turn sp, .turn sp] ++ ts.drop at1, rfl, (b3.trans b3A).same s4x, (gA.same s4x).mono (by omega), (gA.same s3).ne nq4, ⟨_, hx4, ((hvY.take at1).app hvM).app (hvY.drop at1)⟩, tight_app (tight_app (fun s hs => hO3 s (List.mem_of_mem_take hs)) (fun s hs => by rcases List.mem_cons.mp hs with rfl | hs; exact ⟨(show sp < n from hsp), trivial⟩; rw [List.mem_singleton.mp hs]; exact ⟨(show sp < n from hsp), trivial⟩)) (fun s hs => hO3 s (List.mem_of_mem_drop hs)), by rw [List.length_append, List.length_append, List.length_take, List.length_drop]; show min at1 ts.length + 2 + (ts.length - at1) ≤ _; omega, by rw [bits_app, bits_app, show bitsS [Step.turn sp, .turn sp] = 0 from rfl]; omega⟩
  · rintro σ H3 ⟨v4, v5, v6, v7, v8, v9, pf, ts, rfl, b3, g3, pfg, hS3, hO3, hl3, hb3⟩
    walk_at "go"
    have h3 : r1.toNat ≤ 3 := by omega
    exact q H3 pf ts b3 (g3.mono (by have : 6000 * r1.toNat ≤ 6000 * 3 := Nat.mul_le_mul_left _ h3; omega)) pfg hS3 hO3 (by omega) (by omega)
end
end My

namespace My
open PySem PySem.Spec PyProof.Rows L2 Pre
theorem undo_play {n : Nat} {ss : List Step} {xs : List Int} (ok : ∀ s ∈ ss, s.ok n) (hx : xs.length = n) : playF (undoF ss) (playF ss xs) = xs := by
  rw [play_undo ok (by rw [play_len, hx]), play_back ok hx]
theorem back_undo {n : Nat} {ss : List Step} {xs : List Int} (ok : ∀ s ∈ ss, s.ok n) (hx : xs.length = n) : backF (undoF ss) xs = playF ss xs := by
  have h := undo_play ok hx
  have k := play_back (undo_ok ok) (xs := playF ss xs) (by rw [play_len, hx])
  rw [h] at k
  exact k
theorem Good.of {n : Nat} {ss : List Step} (h : ∀ s ∈ ss, s.okT n) (hn : n ≤ 4) (hl : ss.length ≤ 12) : Good n (2 ^ 36) ss := by
  refine ⟨fun s hs => (h s hs).1.okl, ?_⟩
  have one : ∀ s ∈ ss, magS s ≤ 2 ^ 32 := fun s hs => by
    obtain ⟨h1, h2⟩ := h s hs
    cases s with
    | turn i => exact Nat.zero_le _
    | swap i j => exact Nat.zero_le _
    | lift t ws sh =>
      have hw : wsum ws ≤ ws.length * 2 ^ 15 := by
        have h2' : ∀ w ∈ ws, -32768 ≤ w ∧ w ≤ 32768 := h2
        clear h1 h2 hs
        induction ws with
        | nil => exact Nat.zero_le _
        | cons w ws ih =>
          have a := h2' w List.mem_cons_self
          have b := ih fun w hw => h2' w (List.mem_cons_of_mem _ hw)
          show w.natAbs + wsum ws ≤ (ws.length + 1) * 2 ^ 15
          omega
      have hl4 : ws.length ≤ 4 := by rw [h1.2.1]; exact hn
      have hw2 : wsum ws ≤ 2 ^ 17 := by omega
      show wsum ws * 2 ^ (15 - sh) ≤ 2 ^ 32
      exact Nat.le_trans (Nat.mul_le_mul hw2 (Nat.pow_le_pow_right (by decide) (Nat.sub_le _ _))) (by decide)
  have all : magF ss ≤ ss.length * 2 ^ 32 := by
    clear h hl
    induction ss with
    | nil => exact Nat.zero_le _
    | cons s r ih =>
      rw [mag_cons, List.length_cons]
      have a := one s List.mem_cons_self
      have b := ih fun t ht => one t (List.mem_cons_of_mem _ ht)
      omega
  omega
local macro_rules | `(tactic| walk_at "go") => `(tactic| repeat (first | (with_reducible first | refine iteT ?_ | refine iteF ?_ | refine iteNtt ?_ | refine iteNff ?_ | refine iteET (by omega) ?_ | refine iteEF (by omega) ?_ | refine iteENT (by omega) ?_ | refine iteENF (by omega) ?_ | refine iteDT (by omega) ?_ | refine iteDF (by omega) ?_ | refine iteNT (by omega) ?_ | refine iteNF (by omega) ?_) | refine ⟨_, rfl, ?_⟩ | refine ⟨_, _, rfl, rfl, ?_⟩ | refine ⟨_, _, rfl, ?_⟩ | refine ⟨rfl, ?_⟩ | refine .inl ⟨_, rfl, ?_⟩ | refine .inr ⟨_, rfl, ?_⟩))
local macro_rules | `(tactic| walk_at "b") => `(tactic| try dsimp (config := { proj := false, iota := false, eta := false, zeta := false }) only)
section
variable {P : Program} {w : World} {K : PySem.W.Frag} {mg : Str → Option Value} {base : Heap}
def sp_law_mixes_right (C : Addr) : Sp := fun vs H Q _ => ∃ (g x rx y ry b rb c rc : Addr) (N n : Nat) (ss ts : List Step), vs = [.ref g, .ref x, .ref y, .ref b, .ref c, .int n] ∧ GenAt H g N ∧ N ≤ 10 ^ 9 ∧ MixAt C H x rx n ss ∧ MixAt C H y ry n ts ∧ MixAt C H b rb n (undoF ss) ∧ MixAt C H c rc n (ss ++ ts) ∧ rx ≠ g ∧ ry ≠ g ∧ rb ≠ g ∧ rc ≠ g ∧ Good n (2 ^ 36) ss ∧ (∀ s ∈ ts, s.ok n) ∧ 1 ≤ n ∧ n ≤ 4 ∧ ss.length ≤ 30 ∧ ts.length ≤ 30 ∧
  ∀ H', But g H H' → GenAt H' g (N + 100000) → Q (.bl true) H'
theorem G_law_mixes_right (T : Top K mg) : FnOk P w K mg base CX0 9 T.f_law_mixes_right T.fd_law_mixes_right ["_law_purse_here", "_law_mixer", "_law_other", "_law_back", "_law_both", "_law_wide"] (sp_law_mixes_right T.C_Mixer) := by
  refine T.F_law_mixes_right.ok sc_law_mixes_right (fun vs H Q E h => by obtain ⟨g, x, rx, y, ry, b, rb, c, rc, N, n, ss, ts, rfl, _⟩ := h; rfl) (fun cdv A outer s H vs Q E hr h => ?_)
  obtain ⟨g, x, rx, y, ry, b, rb, c, rc, N, n, ss, ts, rfl, hG, hN, hX, hY, hB, hC, ng1, ng2, ng3, ng4, hg, hO2, hn1, hn4, hl, hl2, q⟩ := h
  refine ⟨_, PSs.nox (pss_cons (ps_for PassesOwn.never rfl (pi_range1 (by rfl) T.n_range (pa_cons pe_int pa_nil)) (pg_name (i := 6) sc_law_mixes_right.nd rfl (by first | exact Or.inl rfl | exact Or.inr rfl))
    (pss_cons (ps_setLc (i := 7) (own := [("_law_way", 9)]) (g := gName 9) (tt := tYes) (by rfl) sc_law_mixes_right.nd rfl rfl (sw_true rfl rfl rfl (by decide +kernel)) (pi_range1 (by rfl) T.n_range (pa_cons (pv 5) pa_nil)) (blkOk_by (own := [("_law_way", 9)]) (N := N_law_mixes_right) (sc := defScope s_law_mixes_right) (by decide +kernel)) (fun _ _ _ _ _ => (pg_name (i := 9) sc_law_mixes_right.nd rfl (by first | exact Or.inl rfl | exact Or.inr rfl))) (fun _ _ _ _ _ => pts_nil) (fun _ _ _ _ _ => (pe_call (G_law_number T) (hr.mono (by decide)) (by rfl) T.g_law_number T.F_law_number.kp T.b_law_number .nil pass0 (pa_cons (pv 0) pa_nil))))
  (pss_cons (ps_set (i := 8) sc_law_mixes_right.nd rfl (by first | exact Or.inl rfl | exact Or.inr rfl) (pe_call (G_mixed T) (hr.mono (by decide)) (by rfl) T.g_mixed T.F_mixed.kp T.b_mixed .nil pass0 (pa_cons (pv 1) (pa_cons (pv 7) pa_nil))))
  (pss_cons (ps_if (PW.pt (pw_or (pt_cmpR (k_neD K rfl hr.units) (pe_call (G_mixed T) (hr.mono (by decide)) (by rfl) T.g_mixed T.F_mixed.kp T.b_mixed .nil pass0 (pa_cons (pv 3) (pa_cons (pv 8) pa_nil))) (pv 7) (nomark _)) (pw_or (pt_cmpR (k_neD K rfl hr.units) (pe_call (G_unmixed T) (hr.mono (by decide)) (by rfl) T.g_unmixed T.F_unmixed.kp T.b_unmixed .nil pass0 (pa_cons (pv 3) (pa_cons (pv 7) pa_nil))) (pv 8) (nomark _)) (pw_or1 (pt_cmpR (k_neD K rfl hr.units) (pe_call (G_mixed T) (hr.mono (by decide)) (by rfl) T.g_mixed T.F_mixed.kp T.b_mixed .nil pass0 (pa_cons (pv 3) (pa_cons (pv 7) pa_nil))) (pe_call (G_unmixed T) (hr.mono (by decide)) (by rfl) T.g_unmixed T.F_unmixed.kp T.b_unmixed .nil pass0 (pa_cons (pv 1) (pa_cons (pv 7) pa_nil))) (nomark _))))))
    (pss_one (ps_ret pe_bl))
    pss_nil)
  (pss_one (ps_if (PW.pt (pw_or (pt_cmpR (k_neD K rfl hr.units) (pe_call (G_mixed T) (hr.mono (by decide)) (by rfl) T.g_mixed T.F_mixed.kp T.b_mixed .nil pass0 (pa_cons (pv 4) (pa_cons (pv 7) pa_nil))) (pe_call (G_mixed T) (hr.mono (by decide)) (by rfl) T.g_mixed T.F_mixed.kp T.b_mixed .nil pass0 (pa_cons (pv 2) (pa_cons (pv 8) pa_nil))) (nomark _)) (pw_or1 (pt_cmpR (k_neD K rfl hr.units) (pe_call (G_mixed T) (hr.mono (by decide)) (by rfl) T.g_mixed T.F_mixed.kp T.b_mixed .nil pass0 (pa_cons (pe_call (G_tidy T) (hr.mono (by decide)) (by rfl) T.g_tidy T.F_tidy.kp T.b_tidy .nil pass0 (pa_cons (pv 1) pa_nil)) (pa_cons (pv 7) pa_nil))) (pv 8) (nomark _)))))
    (pss_one (ps_ret pe_bl))
    pss_nil))))))
  (pss_one (ps_ret pe_bl))), ?_⟩
  have hO := hg.ok
  have lU := undo_len ss
  have tg := tidy_good hg
  walk_at "go"
  refine ⟨by decide, by decide, ?_⟩
  walk_at "b"
  refine for_range (lo := 0) (n := ((3 : Int)).toNat) (fun i σ H1 => ∃ v6 v7 v8 : Option V, σ = [some (.ref g), some (.ref x), some (.ref y), some (.ref b), some (.ref c), some (.int n), v6, v7, v8, none] ∧ But g H H1 ∧ GenAt H1 g (N + 10000 * i)) ⟨none, none, none, rfl, But.refl, hG⟩ ?_ ?_
  · rintro i σ H1 hi ⟨v6, v7, v8, rfl, b1, g1⟩
    have hi3 : i < 3 := hi
    have lkL : ∀ {H' H'' : Hp}, But g H' H'' → Lk (fun b => b = g) H' H'' := fun b c o nc e => b c o nc e
    have gL : ∀ {H' : Hp} {k : Nat}, GenAt H' g k → ∀ b, b = g → ∃ xs, H' b = some (.lst xs) := fun h b e => by
      obtain ⟨x, y, z, a, _⟩ := h
      rw [e]
      exact ⟨_, a⟩
    walk_at "go"
    refine ⟨by omega, by omega, fun D nD => ?_⟩
    rw [Int.toNat_natCast]
    refine lc_drawR (lo := 0) (n := n) g _ 1000 (fun _ => True) nD g1 (small1000 (by omega)) (fun x => rfl) ?_ ?_
    · intro k H' hk b' g' Qt qt
      walk_at "go"
      refine ⟨g, _, rfl, g', by have : 1000 * k ≤ 1000 * 4 := Nat.mul_le_mul_left _ (by omega); omega, fun y H3 b3 g3 => ?_⟩
      exact qt y H3 trivial b3 (g3.mono (by rw [Nat.mul_succ]; omega))
    intro H2 xs b2 g2 hD hxl _
    have b12 := b1.trans b2
    have X2 := hX.lk (lkL b12) (gL hG) ng1
    have Y2 := hY.lk (lkL b12) (gL hG) ng2
    have B2 := hB.lk (lkL b12) (gL hG) ng3
    have C2 := hC.lk (lkL b12) (gL hG) ng4
    walk_at "go"
    refine ⟨x, rx, D, n, ss, xs, rfl, X2, hn4, hD, hxl, hO, fun H3 p3 s3 np3 h3 => ?_⟩
    have pl : (playF ss xs).length = n := by rw [play_len, hxl]
    walk_at "go"
    refine ⟨b, rb, p3, n, undoF ss, playF ss xs, rfl, B2.same s3, hn4, h3, pl, undo_ok hO, fun H4 p4 s4 np4 h4 => ?_⟩
    have s34 := s3.trans s4
    rw [undo_play hO hxl] at h4
    walk_at "go"
    refine ne_lst (.inl (.inl h4)) (.inl (.inl (s34 _ _ hD))) ?_
    walk_at "go"
    refine ⟨b, rb, D, n, undoF ss, xs, rfl, B2.same s34, hn4, s34 _ _ hD, hxl, undo_ok hO, by omega, fun H5 p5 s5 np5 h5 => ?_⟩
    rw [back_undo hO hxl] at h5
    have s25 := s34.trans s5
    walk_at "go"
    refine ne_lst (.inl (.inl h5)) (.inl (.inl ((s4.trans s5) _ _ h3))) ?_
    walk_at "go"
    refine ⟨b, rb, D, n, undoF ss, xs, rfl, B2.same s25, hn4, s25 _ _ hD, hxl, undo_ok hO, fun H6 p6 s6 np6 h6 => ?_⟩
    rw [play_undo hO hxl] at h6
    have s26 := s25.trans s6
    walk_at "go"
    refine ⟨x, rx, D, n, ss, xs, rfl, X2.same s26, hn4, s26 _ _ hD, hxl, hO, by omega, fun H7 p7 s7 np7 h7 => ?_⟩
    have s27 := s26.trans s7
    refine ne_lst (.inl (.inl (s7 _ _ h6))) (.inl (.inl h7)) ?_
    walk_at "go"
    refine ⟨c, rc, D, n, ss ++ ts, xs, rfl, C2.same s27, hn4, s27 _ _ hD, hxl, fun s hs => (List.mem_append.mp hs).elim (hO s) (hO2 s), fun H8 p8 s8 np8 h8 => ?_⟩
    rw [play_app] at h8
    have s28 := s27.trans s8
    have s38 := s4.trans (s5.trans (s6.trans (s7.trans s8)))
    walk_at "go"
    refine ⟨y, ry, p3, n, ts, playF ss xs, rfl, Y2.same s28, hn4, s38 _ _ h3, pl, hO2, fun H9 p9 s9 np9 h9 => ?_⟩
    have s29 := s28.trans s9
    refine ne_lst (.inl (.inl (s9 _ _ h8))) (.inl (.inl h9)) ?_
    walk_at "go"
    refine ⟨x, rx, n, ss, rfl, X2.same s29, hg, hn1, hn4, by omega, fun H10 z rz s10 nz nrz M10 => ?_⟩
    have s2a := s29.trans s10
    walk_at "go"
    refine ⟨z, rz, D, n, tidyF ss, xs, rfl, M10, hn4, s2a _ _ hD, hxl, tg.1.ok, fun H11 p11 s11 np11 h11 => ?_⟩
    rw [tg.2.2 xs hxl] at h11
    walk_at "go"
    refine ne_lst (.inl (.inl h11)) (.inl (.inl ((s38.trans (s9.trans (s10.trans s11))) _ _ h3))) ?_
    walk_at "go"
    exact ⟨_, _, _, rfl, b12.same (s2a.trans s11), (g2.same (s2a.trans s11)).mono (by have : 1000 * n ≤ 1000 * 4 := Nat.mul_le_mul_left _ hn4; omega)⟩
  · rintro σ H1 ⟨v6, v7, v8, rfl, b1, g1⟩
    walk_at "go"
    exact q _ b1 (g1.mono (by show N + 10000 * 3 ≤ _; omega))
end
end My

namespace My
open PySem PySem.Spec PyProof.Rows L2 Pre
theorem StepsAt.dt {N : Addr → Prop} {H : Hp} {p : Addr} {ss : List Step} (h : StepsAt N H p ss) : Dt H (.ref p) (.list (ss.map stepD)) := by
  obtain ⟨vs, hp, hv⟩ := h
  exact .lst hp hv.dts
theorem ne_steps {K : PySem.W.Frag} {N N' : Addr → Prop} {H : Hp} {p q : Addr} {ss ts : List Step} {Q : VK} (h : StepsAt N H p ss) (k : StepsAt N' H q ts) (e : ss = ts) (hq : Q (.bl false) H) : rNeD K (.ref p) (.ref q) H Q := by
  subst e
  refine d_ne h.dt k.dt (steps_shaped ss) (steps_shaped ss) ?_
  rw [SeqAt.eqv_refl _ (Bool.and_eq_true_iff.mp (steps_shaped ss)).1]
  exact hq
theorem eq_steps {K : PySem.W.Frag} {N N' : Addr → Prop} {H : Hp} {p q : Addr} {ss ts : List Step} {Q : VK} (h : StepsAt N H p ss) (k : StepsAt N' H q ts) (e : ss = ts) (hq : Q (.bl true) H) : rEqD K (.ref p) (.ref q) H Q := by
  subst e
  refine d_eq h.dt k.dt (steps_shaped ss) (steps_shaped ss) ?_
  rw [SeqAt.eqv_refl _ (Bool.and_eq_true_iff.mp (steps_shaped ss)).1]
  exact hq
theorem rhs_mix {K : PySem.W.Frag} {C : Addr} {H : Hp} {a r : Addr} {n : Nat} {ss : List Step} (h : MixAt C H a r n ss) : Rhs K H C (.ref a) := by
  obtain ⟨dx, vs, h1, _⟩ := h
  exact ⟨a, rfl, .inl ⟨_, _, h1⟩⟩
theorem ne_bl {K : PySem.W.Frag} {H : Hp} {b : Bool} {Q : VK} (hq : Q (.bl false) H) : rNeD K (.bl b) (.bl b) H Q := by
  refine ⟨.bool b, .bool b, .bl b, .bl b, by cases b <;> rfl, by cases b <;> rfl, ?_⟩
  rw [show PyData.eqv (.bool b) (.bool b) = true by cases b <;> rfl]
  exact hq
theorem alike_same {n : Nat} {A B : List Step} (hA : ∀ s ∈ A, s.ok n) (hB : ∀ s ∈ B, s.ok n) (h : ∀ x : List Int, x.length = n → playF A x = playF B x) : alikeF n A B = true := alike_of_box hA hB (sameOn_iff.mpr fun r hr => h r (mem_listsF.mp hr).1)
theorem pow_few {n m : Nat} (h4 : n ≤ 4) (h : m ≤ 2) (h3 : 3 ≤ n → m = 0) : (2 ^ m) ^ n ≤ 1000 := by
  have : n = 0 ∨ n = 1 ∨ n = 2 ∨ 3 ≤ n := by omega
  rcases this with rfl | rfl | rfl | k
  · rw [Nat.pow_zero]; decide
  · have : m = 0 ∨ m = 1 ∨ m = 2 := by omega
    rcases this with rfl | rfl | rfl <;> decide
  · have : m = 0 ∨ m = 1 ∨ m = 2 := by omega
    rcases this with rfl | rfl | rfl <;> decide
  · rw [h3 k]
    have : n = 3 ∨ n = 4 := by omega
    rcases this with rfl | rfl <;> decide
theorem mix_refl (n : Nat) (ss : List Step) : PyData.eqv (mixD n ss) (mixD n ss) = true := SeqAt.eqv_refl _ (mix_lay n ss)
theorem MixAt.ins {C : Addr} {H : Hp} {a r : Addr} {n : Nat} {ss : List Step} (h : MixAt C H a r n ss) : ∃ dx, H a = some (.ins C dx [("many", .int n), ("rows", .ref r)]) := by
  obtain ⟨dx, vs, h1, _⟩ := h
  exact ⟨dx, h1⟩
local macro_rules | `(tactic| walk_at "go") => `(tactic| repeat (first | (with_reducible first | refine iteT ?_ | refine iteF ?_ | refine iteNtt ?_ | refine iteNff ?_ | refine iteET (by omega) ?_ | refine iteEF (by omega) ?_ | refine iteENT (by omega) ?_ | refine iteENF (by omega) ?_ | refine iteDT (by omega) ?_ | refine iteDF (by omega) ?_ | refine iteNT (by omega) ?_ | refine iteNF (by omega) ?_) | refine ⟨_, rfl, ?_⟩ | refine ⟨_, _, rfl, rfl, ?_⟩ | refine ⟨_, _, rfl, ?_⟩ | refine ⟨rfl, ?_⟩ | refine .inl ⟨_, rfl, ?_⟩ | refine .inr ⟨_, rfl, ?_⟩))
local macro_rules | `(tactic| walk_at "b") => `(tactic| try dsimp (config := { proj := false, iota := false, eta := false, zeta := false }) only)
section
variable {P : Program} {w : World} {K : PySem.W.Frag} {mg : Str → Option Value} {base : Heap}
def sp_law (K : PySem.W.Frag) : Sp := fun vs H Q _ => ∃ (a : Addr) (ns : List Int), vs = [.ref a] ∧ SqL K H a (ns.map V.int) ∧ ns.length ≤ 63 ∧ ∀ H', Q (.bl true) H'
theorem G_law (T : Top K mg) : FnOk P w K mg base CX0 10 T.f_law T.fd_law ["_law_script"] (sp_law K) := by
  refine T.F_law.ok sc_law (fun vs H Q E h => by obtain ⟨a, ns, rfl, _⟩ := h; rfl) (fun cdv A outer s H vs Q E hr h => ?_)
  obtain ⟨a, ns, rfl, hA, _, q⟩ := h
  refine ⟨_, PSs.nox (pss_cons (ps_for PassesOwn.never rfl (pi_range1 (by rfl) T.n_range (pa_cons pe_int pa_nil)) (pg_name (i := 1) sc_law.nd rfl (by first | exact Or.inl rfl | exact Or.inr rfl))
    (pss_cons (ps_set (i := 6) sc_law.nd rfl (by first | exact Or.inl rfl | exact Or.inr rfl) (pe_call (G_law_purse T) (hr.mono (by decide)) (by rfl) T.g_law_purse T.F_law_purse.kp T.b_law_purse .nil pass0 (pa_cons (pv 0) (pa_cons (pv 1) pa_nil))))
  (pss_cons (ps_set (i := 7) sc_law.nd rfl (by first | exact Or.inl rfl | exact Or.inr rfl) (pe_op op_add pe_int (pe_call (G_law_draw T) (hr.mono (by decide)) (by rfl) T.g_law_draw T.F_law_draw.kp T.b_law_draw .nil pass0 (pa_cons (pv 6) (pa_cons pe_int pa_nil)))))
  (pss_cons (ps_set (i := 8) sc_law.nd rfl (by first | exact Or.inl rfl | exact Or.inr rfl) (pe_ix (k_ixL K rfl) (pe_lst (pa_cons pe_int (pa_cons pe_int (pa_cons pe_int (pa_cons pe_int pa_nil))))) (pe_op op_sub (pv 7) pe_int) (fun _ _ => rfl)))
  (pss_cons (ps_set (i := 9) sc_law.nd rfl (by first | exact Or.inl rfl | exact Or.inr rfl) (pe_call (G_law_filled T) (hr.mono (by decide)) (by rfl) T.g_law_filled T.F_law_filled.kp T.b_law_filled .nil pass0 (pa_cons (pv 6) (pa_cons (pe_call (G_law_steps T) (hr.mono (by decide)) (by rfl) T.g_law_steps T.F_law_steps.kp T.b_law_steps .nil pass0 (pa_cons (pv 6) (pa_cons (pv 7) (pa_cons pe_int (pa_cons (pv 8) pa_nil))))) (pa_cons (pv 7) pa_nil)))))
  (pss_cons (ps_set (i := 10) sc_law.nd rfl (by first | exact Or.inl rfl | exact Or.inr rfl) (pe_call (G_law_steps T) (hr.mono (by decide)) (by rfl) T.g_law_steps T.F_law_steps.kp T.b_law_steps .nil pass0 (pa_cons (pv 6) (pa_cons (pv 7) (pa_cons pe_int (pa_cons (pe_callTy call_int1 (by rfl) T.n_int (by decide +kernel) (pa_cons (pe_cmpR op_lt (pv 7) pe_int (nomark _)) pa_nil)) pa_nil))))))
  (pss_cons (ps_par (by rfl) sc_law.nd (i := 12) (j := 13) rfl rfl (by decide) rfl rfl (pa_cons (pe_make T.mk_Mixer (G_Mixer___init__ T) (hr.mono (by decide)) (by rfl) T.gc_Mixer T.b_Mixer___init__ .nil pass0 (pa_cons (pv 7) (pa_cons (pe_call (G_law_copied T) (hr.mono (by decide)) (by rfl) T.g_law_copied T.F_law_copied.kp T.b_law_copied .nil pass0 (pa_cons (pv 9) pa_nil)) pa_nil))) (pa_cons (pe_make T.mk_Mixer (G_Mixer___init__ T) (hr.mono (by decide)) (by rfl) T.gc_Mixer T.b_Mixer___init__ .nil pass0 (pa_cons (pv 7) (pa_cons (pe_call (G_law_copied T) (hr.mono (by decide)) (by rfl) T.g_law_copied T.F_law_copied.kp T.b_law_copied .nil pass0 (pa_cons (pv 10) pa_nil)) pa_nil))) pa_nil)) (by rfl))
  (pss_cons (ps_par3 (by rfl) sc_law.nd (i := 14) (j := 15) (l := 16) rfl rfl rfl (by decide) (by decide) (by decide) rfl rfl rfl (pa_cons (pe_call (G_undoing T) (hr.mono (by decide)) (by rfl) T.g_undoing T.F_undoing.kp T.b_undoing .nil pass0 (pa_cons (pv 12) pa_nil)) (pa_cons (pe_call (G_joined_mixers T) (hr.mono (by decide)) (by rfl) T.g_joined_mixers T.F_joined_mixers.kp T.b_joined_mixers .nil pass0 (pa_cons (pv 12) (pa_cons (pv 13) pa_nil))) (pa_cons (pe_call (G_tidy T) (hr.mono (by decide)) (by rfl) T.g_tidy T.F_tidy.kp T.b_tidy .nil pass0 (pa_cons (pv 12) pa_nil)) pa_nil))) (by rfl))
  (pss_cons (ps_if (PW.pt (pw_or (pt_cmpR (k_neD K rfl hr.units) (pe_meth0 (pv 14) T.cl_Mixer T.me_Mixer_steps (G_Mixer_steps T) (hr.mono (by decide)) T.b_Mixer_steps .nil pass0) (pe_call (G_law_undone T) (hr.mono (by decide)) (by rfl) T.g_law_undone T.F_law_undone.kp T.b_law_undone .nil pass0 (pa_cons (pv 9) pa_nil)) (nomark _)) (pw_or (pt_cmpR (k_neD K rfl hr.units) (pe_meth0 (pv 15) T.cl_Mixer T.me_Mixer_steps (G_Mixer_steps T) (hr.mono (by decide)) T.b_Mixer_steps .nil pass0) (pe_op op_cat (pv 9) (pv 10)) (nomark _)) (pw_or1 (pt_cmpR (k_neD K rfl hr.units) (pe_meth0 (pv 16) T.cl_Mixer T.me_Mixer_steps (G_Mixer_steps T) (hr.mono (by decide)) T.b_Mixer_steps .nil pass0) (pe_call (G_law_tidied T) (hr.mono (by decide)) (by rfl) T.g_law_tidied T.F_law_tidied.kp T.b_law_tidied .nil pass0 (pa_cons (pv 9) pa_nil)) (nomark _))))))
    (pss_one (ps_ret pe_bl))
    pss_nil)
  (pss_cons (ps_if (PW.pt (pw_or (pt_cmpR (k_neD K rfl hr.units) (pe_meth0 (pv 12) T.cl_Mixer T.me_Mixer_steps (G_Mixer_steps T) (hr.mono (by decide)) T.b_Mixer_steps .nil pass0) (pv 9) (nomark _)) (pw_or (pt_cmpR (op_own_ne T.ec_Mixer (G_Mixer___eq__ T) (hr.mono (by decide)) T.b_Mixer___eq__ pass0) (pe_call (G_tidy T) (hr.mono (by decide)) (by rfl) T.g_tidy T.F_tidy.kp T.b_tidy .nil pass0 (pa_cons (pv 16) pa_nil)) (pv 16) (nomark _)) (pw_or1 (pt_cmpR (k_neD K rfl hr.units) (pe_lc (own := [("_law_one", 21)]) (g := gName 21) (tt := tYes) (by rfl) sc_law.nd (k_piL K rfl (pe_lst (pa_cons (pv 14) (pa_cons (pv 15) (pa_cons (pv 16) pa_nil))))) (blkOk_by (own := [("_law_one", 21)]) (N := N_law) (sc := defScope s_law) (by decide +kernel)) (fun _ _ _ _ _ => (pg_name (i := 21) sc_law.nd rfl (by first | exact Or.inl rfl | exact Or.inr rfl))) (fun _ _ _ _ _ => pts_nil) (fun _ _ _ _ _ => (pe_meth0 (pv 21) T.cl_Mixer T.me_Mixer_wide (G_Mixer_wide T) (hr.mono (by decide)) T.b_Mixer_wide .nil pass0))) (pe_op op_rep (pe_lst (pa_cons (pv 7) pa_nil)) pe_int) (nomark _))))))
    (pss_one (ps_ret pe_bl))
    pss_nil)
  (pss_cons (ps_if (pt_not (pt_val (pe_call (G_law_mixes_right T) (hr.mono (by decide)) (by rfl) T.g_law_mixes_right T.F_law_mixes_right.kp T.b_law_mixes_right .nil pass0 (pa_cons (pv 6) (pa_cons (pv 12) (pa_cons (pv 13) (pa_cons (pv 14) (pa_cons (pv 15) (pa_cons (pv 7) pa_nil)))))))))
    (pss_one (ps_ret pe_bl))
    pss_nil)
  (pss_cons (ps_set (i := 11) sc_law.nd rfl (by first | exact Or.inl rfl | exact Or.inr rfl) (pe_slice (k_slL K rfl) (pv 9) po_none (po_some pe_int)))
  (pss_cons (ps_set (i := 3) sc_law.nd rfl (by first | exact Or.inl rfl | exact Or.inr rfl) pe_bl)
  (pss_cons (ps_if (pt_cmpR op_le (pe_op op_mul (pe_op op_add (pe_call (G_law_bits T) (hr.mono (by decide)) (by rfl) T.g_law_bits T.F_law_bits.kp T.b_law_bits .nil pass0 (pa_cons (pv 11) pa_nil)) (pe_call (G_law_bits T) (hr.mono (by decide)) (by rfl) T.g_law_bits T.F_law_bits.kp T.b_law_bits .nil pass0 (pa_cons (pv 10) pa_nil))) (pv 7)) pe_int (nomark _))
    (pss_cons (ps_asg (pe_tup (pa_cons (pe_lst (pa_cons (pe_op op_cat (pv 11) (pv 10)) (pa_cons (pe_op op_cat (pv 10) (pv 11)) pa_nil))) (pa_cons (pe_op op_shl pe_int (pe_call (G_law_bits T) (hr.mono (by decide)) (by rfl) T.g_law_bits T.F_law_bits.kp T.b_law_bits .nil pass0 (pa_cons (pe_op op_cat (pv 11) (pv 10)) pa_nil))) pa_nil))) (k_pgT K rfl (by rfl) (pgs_cons (pg_name (i := 19) sc_law.nd rfl (by first | exact Or.inl rfl | exact Or.inr rfl)) (pgs_cons (pg_name (i := 20) sc_law.nd rfl (by first | exact Or.inl rfl | exact Or.inr rfl)) pgs_nil))))
  (pss_cons (ps_set (i := 17) sc_law.nd rfl (by first | exact Or.inl rfl | exact Or.inr rfl) (pe_call (G_law_lists T) (hr.mono (by decide)) (by rfl) T.g_law_lists T.F_law_lists.kp T.b_law_lists .nil pass0 (pa_cons (pv 7) (pa_cons pe_int (pa_cons (pv 20) pa_nil)))))
  (pss_cons (ps_set (i := 3) sc_law.nd rfl (by first | exact Or.inl rfl | exact Or.inr rfl) (pe_cmpR (k_eqD K rfl hr.units) (pe_lc (own := [("_law_row", 22)]) (g := gName 22) (by rfl) sc_law.nd (k_piL K rfl (pv 17)) (blkOk_by (own := [("_law_row", 22)]) (N := N_law) (sc := defScope s_law) (by decide +kernel)) (fun _ _ _ _ _ => (pg_name (i := 22) sc_law.nd rfl (by first | exact Or.inl rfl | exact Or.inr rfl))) (fun _ _ _ _ _ => (pts_one (pt_cmpR (k_neD K rfl hr.units) (pe_call (G_law_played T) (hr.mono (by decide)) (by rfl) T.g_law_played T.F_law_played.kp T.b_law_played .nil pass0 (pa_cons (pe_ix (k_ixL K rfl) (pv 19) pe_int (fun _ _ => rfl)) (pa_cons (pv 22) pa_nil))) (pe_call (G_law_played T) (hr.mono (by decide)) (by rfl) T.g_law_played T.F_law_played.kp T.b_law_played .nil pass0 (pa_cons (pe_ix (k_ixL K rfl) (pv 19) pe_int (fun _ _ => rfl)) (pa_cons (pv 22) pa_nil))) (nomark _)))) (fun _ _ _ _ _ => (pv 22))) (pe_lst pa_nil) (nomark _)))
  (pss_cons (ps_set (i := 18) sc_law.nd rfl (by first | exact Or.inl rfl | exact Or.inr rfl) (pe_call (G_commute T) (hr.mono (by decide)) (by rfl) T.g_commute T.F_commute.kp T.b_commute .nil pass0 (pa_cons (pe_make T.mk_Mixer (G_Mixer___init__ T) (hr.mono (by decide)) (by rfl) T.gc_Mixer T.b_Mixer___init__ .nil pass0 (pa_cons (pv 7) (pa_cons (pv 11) pa_nil))) (pa_cons (pv 13) pa_nil))))
  (pss_one (ps_if (PW.pt (pw_or (pt_not (pt_val (pe_callB (k_isi K rfl) (by rfl) T.n_isinstance (by decide +kernel) (pa_cons (pv 18) (pa_cons (pe_bltn (v := .ty "bool") (by rfl) T.n_bool (by decide +kernel) rfl) pa_nil))))) (pw_or (pt_cmpR (k_neD K rfl hr.units) (pv 18) (pv 3) (nomark _)) (pw_or1 (pt_cmpR (k_neD K rfl hr.units) (pe_call (G_commute T) (hr.mono (by decide)) (by rfl) T.g_commute T.F_commute.kp T.b_commute .nil pass0 (pa_cons (pv 13) (pa_cons (pe_make T.mk_Mixer (G_Mixer___init__ T) (hr.mono (by decide)) (by rfl) T.gc_Mixer T.b_Mixer___init__ .nil pass0 (pa_cons (pv 7) (pa_cons (pv 11) pa_nil))) pa_nil))) (pv 3) (nomark _))))))
    (pss_one (ps_ret pe_bl))
    pss_nil))))))
    pss_nil)
  (pss_one (ps_if (PW.pt (pw_or (pt_not (pt_val (pe_call (G_commute T) (hr.mono (by decide)) (by rfl) T.g_commute T.F_commute.kp T.b_commute .nil pass0 (pa_cons (pv 13) (pa_cons (pv 13) pa_nil))))) (pw_or1 (pt_not (pt_val (pe_call (G_commute T) (hr.mono (by decide)) (by rfl) T.g_commute T.F_commute.kp T.b_commute .nil pass0 (pa_cons (pv 13) (pa_cons (pe_make T.mk_Mixer (G_Mixer___init__ T) (hr.mono (by decide)) (by rfl) T.gc_Mixer T.b_Mixer___init__ .nil pass0 (pa_cons (pv 7) (pa_cons (pe_lst pa_nil) pa_nil))) pa_nil))))))))
    (pss_one (ps_ret pe_bl))
    pss_nil))))))))))))))))
  (pss_cons (ps_set (i := 2) sc_law.nd rfl (by first | exact Or.inl rfl | exact Or.inr rfl) (pe_make T.mk_Mixer (G_Mixer___init__ T) (hr.mono (by decide)) (by rfl) T.gc_Mixer T.b_Mixer___init__ .nil pass0 (pa_cons pe_int (pa_cons (pe_lst (pa_cons (pe_tup (pa_cons pe_str (pa_cons pe_int (pa_cons (pe_lst (pa_cons (pe_un un_neg pe_int) (pa_cons pe_int pa_nil))) (pa_cons pe_int pa_nil))))) (pa_cons (pe_tup (pa_cons pe_str (pa_cons pe_int (pa_cons (pe_lst (pa_cons pe_int (pa_cons pe_int pa_nil))) (pa_cons pe_int pa_nil))))) pa_nil))) pa_nil))))
  (pss_cons (ps_set (i := 3) sc_law.nd rfl (by first | exact Or.inl rfl | exact Or.inr rfl) (pe_lst (pa_cons (pe_tup (pa_cons pe_str (pa_cons pe_int pa_nil))) (pa_cons (pe_tup (pa_cons pe_str (pa_cons pe_int (pa_cons (pe_lst (pa_cons pe_int (pa_cons pe_int pa_nil))) (pa_cons pe_int pa_nil))))) (pa_cons (pe_tup (pa_cons pe_str (pa_cons pe_int pa_nil))) (pa_cons (pe_tup (pa_cons pe_str (pa_cons pe_int (pa_cons (pe_lst (pa_cons pe_int (pa_cons pe_int pa_nil))) (pa_cons pe_int pa_nil))))) pa_nil))))))
  (pss_cons (ps_if (PW.pt (pw_or (pt_cmpR (k_neD K rfl hr.units) (pe_meth0 (pe_call (G_undoing T) (hr.mono (by decide)) (by rfl) T.g_undoing T.F_undoing.kp T.b_undoing .nil pass0 (pa_cons (pv 2) pa_nil)) T.cl_Mixer T.me_Mixer_steps (G_Mixer_steps T) (hr.mono (by decide)) T.b_Mixer_steps .nil pass0) (pv 3) (nomark _)) (pw_or1 (pt_not (pt_val (pe_call (G_same_mix T) (hr.mono (by decide)) (by rfl) T.g_same_mix T.F_same_mix.kp T.b_same_mix .nil pass0 (pa_cons (pe_call (G_joined_mixers T) (hr.mono (by decide)) (by rfl) T.g_joined_mixers T.F_joined_mixers.kp T.b_joined_mixers .nil pass0 (pa_cons (pv 2) (pa_cons (pe_call (G_undoing T) (hr.mono (by decide)) (by rfl) T.g_undoing T.F_undoing.kp T.b_undoing .nil pass0 (pa_cons (pv 2) pa_nil)) pa_nil))) (pa_cons (pe_make T.mk_Mixer (G_Mixer___init__ T) (hr.mono (by decide)) (by rfl) T.gc_Mixer T.b_Mixer___init__ .nil pass0 (pa_cons pe_int (pa_cons (pe_lst pa_nil) pa_nil))) pa_nil))))))))
    (pss_one (ps_ret pe_bl))
    pss_nil)
  (pss_cons (ps_set (i := 4) sc_law.nd rfl (by first | exact Or.inl rfl | exact Or.inr rfl) (pe_make T.mk_Mixer (G_Mixer___init__ T) (hr.mono (by decide)) (by rfl) T.gc_Mixer T.b_Mixer___init__ .nil pass0 (pa_cons pe_int (pa_cons (pe_lst (pa_cons (pe_tup (pa_cons pe_str (pa_cons pe_int (pa_cons (pe_lst (pa_cons pe_int (pa_cons pe_int pa_nil))) (pa_cons pe_int pa_nil))))) (pa_cons (pe_tup (pa_cons pe_str (pa_cons pe_int (pa_cons (pe_lst (pa_cons pe_int (pa_cons pe_int pa_nil))) (pa_cons pe_int pa_nil))))) (pa_cons (pe_tup (pa_cons pe_str (pa_cons pe_int pa_nil))) (pa_cons (pe_tup (pa_cons pe_str (pa_cons pe_int pa_nil))) pa_nil))))) pa_nil))))
  (pss_cons (ps_set (i := 5) sc_law.nd rfl (by first | exact Or.inl rfl | exact Or.inr rfl) (pe_make T.mk_Mixer (G_Mixer___init__ T) (hr.mono (by decide)) (by rfl) T.gc_Mixer T.b_Mixer___init__ .nil pass0 (pa_cons pe_int (pa_cons (pe_lst (pa_cons (pe_tup (pa_cons pe_str (pa_cons pe_int (pa_cons (pe_lst (pa_cons pe_int (pa_cons pe_int pa_nil))) (pa_cons pe_int pa_nil))))) (pa_cons (pe_tup (pa_cons pe_str (pa_cons pe_int (pa_cons (pe_lst (pa_cons pe_int (pa_cons pe_int pa_nil))) (pa_cons pe_int pa_nil))))) pa_nil))) pa_nil))))
  (pss_one (ps_ret (pe_and (pe_cmpR (k_eqD K rfl hr.units) (pe_meth0 (pe_call (G_tidy T) (hr.mono (by decide)) (by rfl) T.g_tidy T.F_tidy.kp T.b_tidy .nil pass0 (pa_cons (pv 4) pa_nil)) T.cl_Mixer T.me_Mixer_steps (G_Mixer_steps T) (hr.mono (by decide)) T.b_Mixer_steps .nil pass0) (pe_lst (pa_cons (pe_tup (pa_cons pe_str (pa_cons pe_int (pa_cons (pe_lst (pa_cons pe_int (pa_cons pe_int pa_nil))) (pa_cons pe_int pa_nil))))) pa_nil)) (nomark _)) (pe_one (pe_cmpR (op_own_eq T.ec_Mixer (G_Mixer___eq__ T) (hr.mono (by decide)) T.b_Mixer___eq__ pass0) (pe_call (G_tidy T) (hr.mono (by decide)) (by rfl) T.g_tidy T.F_tidy.kp T.b_tidy .nil pass0 (pa_cons (pv 5) pa_nil)) (pv 5) (nomark _)))))))))))), ?_⟩
  walk_at "go"
  refine ⟨by decide, by decide, ?_⟩
  walk_at "b"
  refine for_range (lo := 0) (n := ((2 : Int)).toNat) (fun i σ H1 => ∃ v1 v2 v3 v4 v5 v6 v7 v8 v9 v10 v11 v12 v13 v14 v15 v16 v17 v18 v19 v20 : Option V, σ = [some (.ref a), v1, v2, v3, v4, v5, v6, v7, v8, v9, v10, v11, v12, v13, v14, v15, v16, v17, v18, v19, v20, none, none] ∧ Same H H1) ⟨none, none, none, none, none, none, none, none, none, none, none, none, none, none, none, none, none, none, none, none, rfl, Same.refl _⟩ ?_ ?_
  · rintro i σ H1 hi ⟨v1, v2, v3, v4, v5, v6, v7, v8, v9, v10, v11, v12, v13, v14, v15, v16, v17, v18, v19, v20, rfl, s1⟩
    have hi2 : i < 2 := hi
    rw [Int.zero_add]
    walk_at "go"
    refine ⟨a, ns, i, rfl, s1.seq hA, fun H2 g s2 ng g2 => ?_⟩
    walk_at "go"
    refine ⟨g, _, _, rfl, g2, by omega, by decide, small_2900 (by decide), fun d H3 d0 d1 g3 b3 => ?_⟩
    have s3 := But.all b3 s2 ng
    obtain ⟨n, hn, hn1, hn4⟩ : ∃ n : Nat, 1 + d = (n : Int) ∧ 1 ≤ n ∧ n ≤ 4 := ⟨(1 + d).toNat, by omega, by omega, by omega⟩
    walk_at "go"
    rw [show (fun (i j : Int) => V.int (i + j)) 1 d = V.int (n : Int) from congrArg V.int hn]
    walk_at "go"
    refine ⟨(show 4 ≤ sizeLine by decide), fun L nL => ?_⟩
    obtain ⟨H4, e4, s4, h4⟩ := fresh (.lst [V.int 4, V.int 2, V.int 1, V.int 1]) nL
    rw [e4]
    walk_at "go"
    obtain ⟨b, hb4, hbn⟩ : ∃ b : Nat, b ≤ 4 ∧ atI [V.int 4, V.int 2, V.int 1, V.int 1] ((n : Int) - 1) = some (.int (b : Nat)) := by
      match n, hn1, hn4 with
      | 1, _, _ => exact ⟨4, by decide, rfl⟩
      | 2, _, _ => exact ⟨2, by decide, rfl⟩
      | 3, _, _ => exact ⟨1, by decide, rfl⟩
      | 4, _, _ => exact ⟨1, by decide, rfl⟩
    refine ⟨L, _, _, _, rfl, rfl, .inl (.inl h4), hbn, ?_⟩
    have g4 := g3.same s4
    have s04 := s3.trans s4
    have ng4 : ∀ {H' : Hp}, But g H4 H' → Same H1 H' := fun b => But.all b s04 ng
    walk_at "go"
    refine ⟨g, _, n, 6, b, rfl, g4, by omega, hn1, hn4, by decide, by omega, fun H5 p ps b5 g5 np pg S5 hO5 hl5 hbs5 => ?_⟩
    walk_at "go"
    refine ⟨g, p, _, n, ps, rfl, g5, by omega, pg, S5, hO5, by omega, by omega, hn1, hn4, fun H6 pf ss b6 g6 pfg S6 hT hl hbs => ?_⟩
    walk_at "go"
    obtain ⟨b2, hb2, hb21⟩ : ∃ b2 : Nat, (if decide ((n : Int) < 3) = true then (1 : Int) else 0) = (b2 : Int) ∧ (b2 = if n < 3 then 1 else 0) := ⟨if n < 3 then 1 else 0, by split <;> split <;> first | rfl | (simp at *; omega), rfl⟩
    refine ⟨g, _, n, 2, b2, (by rw [← hb2]; rfl), g6, by omega, hn1, hn4, by decide, by omega, fun H7 po ts b7 g7 npo pog S7 hT2 hl2 hbs2 => ?_⟩
    have hO : ∀ s ∈ ss, s.ok n := fun s hs => (hT s hs).1
    have hO2 : ∀ s ∈ ts, s.ok n := fun s hs => (hT2 s hs).1
    have hg := Good.of hT hn4 hl
    have tg := tidy_good hg
    have b47 := b5.trans (b6.trans b7)
    have S67 := steps_but S6 g6 b7 (fun l h => h) pfg
    have s17 := ng4 b47
    have ng7 : ∀ {r : Addr}, H7 r = none → r ≠ g := fun h => g7.ne h
    clear b3 s4 h4 e4 b5 b6 b7
    walk_at "go"
    refine ⟨_, pf, ss, rfl, S67, by omega, fun H8 p8 s8 np8 S8 => ?_⟩
    walk_at "go"
    intro x z2 z3 z4 z5
    refine ⟨x, z2, p8, n, ss, rfl, upd_same, hn1, hn4, (S8.mono fun _ _ => trivial).same (mk_same z3 z4), hO, by omega, fun H9 rx kp nr M9 => ⟨rfl, ?_⟩⟩
    have s79 := s8.trans (mk_kept z3 z4 kp)
    have rxg : rx ≠ g := ng7 (s8.free ((mk_same z3 z4).free nr))
    clear kp z3 z4 z5 nr
    walk_at "go"
    refine ⟨_, po, ts, rfl, S7.same s79, by omega, fun H10 p10 s10 np10 S10 => ?_⟩
    walk_at "go"
    intro y z2' z3 z4 z5
    refine ⟨y, z2', p10, n, ts, rfl, upd_same, hn1, hn4, (S10.mono fun _ _ => trivial).same (mk_same z3 z4), hO2, by omega, fun H11 ry kp nr M11 => ⟨rfl, ?_⟩⟩
    have s911 := s10.trans (mk_kept z3 z4 kp)
    have ryg : ry ≠ g := ng7 ((s79.trans s10).free ((mk_same z3 z4).free nr))
    clear kp z3 z4 z5 nr
    have s711 := s79.trans s911
    have X11 := M9.same s911
    walk_at "go"
    refine ⟨x, rx, n, ss, rfl, X11, hO, hn1, hn4, by omega, fun H12 b0 rb s12 nb0 nrb B12 => ?_⟩
    walk_at "go"
    refine ⟨x, rx, y, ry, n, ss, ts, rfl, X11.same s12, M11.same s12, hO, hO2, hn1, hn4, by omega, fun H13 c0 rc s13 nc0 nrc C13 => ?_⟩
    have s1113 := s12.trans s13
    walk_at "go"
    refine ⟨x, rx, n, ss, rfl, X11.same s1113, hg, hn1, hn4, by omega, fun H14 t0 rt s14 nt0 nrt T14 => ?_⟩
    have s1114 := s1113.trans s14
    have s714 := s711.trans s1114
    have rbg : rb ≠ g := ng7 (s711.free nrb)
    have rcg : rc ≠ g := ng7 ((s711.trans s12).free nrc)
    have X14 := X11.same s1114
    have Y14 := M11.same s1114
    have B14 := B12.same (s13.trans s14)
    have C14 := C13.same s14
    have P14 := S67.same s714
    have O14 := S7.same s714
    have g14 := g7.same s714
    have s114 := s17.trans s714
    clear M9 X11 M11 S8 S10 s8 s79 s10 s911 s12 s13 s14 s1113 s1114 s711 B12 C13
    walk_at "go"
    refine ⟨_, _, _, rfl, ?_⟩
    refine restate [some (.ref a), some (.int i), v2, v3, v4, v5, some (.ref g), some (.int n), some (.int b), some (.ref pf), some (.ref po), v11, some (.ref x), some (.ref y), some (.ref b0), some (.ref c0), some (.ref t0), v17, v18, v19, v20, none, none] rfl ?_
    obtain ⟨dxb, hb0⟩ := B14.ins
    obtain ⟨dxc, hc0⟩ := C14.ins
    obtain ⟨dxt, ht0⟩ := T14.ins
    obtain ⟨dxx, hx0⟩ := X14.ins
    have lU := undo_len ss
    walk_at "go"
    refine ⟨b0, dxb, _, rfl, hb0, rfl, ?_⟩
    walk_at "go"
    refine ⟨b0, rb, n, undoF ss, rfl, B14, by omega, fun H15 q1 s15 nq1 U15 => ?_⟩
    walk_at "go"
    refine ⟨pf, n, ss, rfl, (P14.same s15).mono (fun _ _ => trivial), hO, hn4, by omega, fun H16 q2 s16 V16 => ?_⟩
    refine ne_steps (U15.same s16) V16 rfl ?_
    have s1416 := s15.trans s16
    walk_at "go"
    refine ⟨c0, dxc, _, rfl, s1416 _ _ hc0, rfl, ?_⟩
    walk_at "go"
    refine ⟨c0, rc, n, ss ++ ts, rfl, C14.same s1416, by rw [List.length_append]; omega, fun H17 q3 s17 nq3 U17 => ?_⟩
    have s1417 := s1416.trans s17
    obtain ⟨vp, hp17, vp17⟩ := P14.same s1417
    obtain ⟨vo, ho17, vo17⟩ := O14.same s1417
    have vpl := vp17.len
    have vol := vo17.len
    walk_at "go"
    refine ⟨pf, po, _, _, rfl, rfl, hp17, ho17, Nat.le_of_lt (small1000 (by omega)), fun q4 nq4 => ?_⟩
    obtain ⟨H18, e18, s18, h18⟩ := fresh (.lst (vp ++ vo)) nq4
    rw [e18]
    have V18 : StepsAt (fun _ => True) H18 q4 (ss ++ ts) := ⟨_, h18, AllV.app (vp17.imp fun v s h => (h.same s18).mono fun _ _ => trivial) (vo17.imp fun v s h => (h.same s18).mono fun _ _ => trivial)⟩
    refine ne_steps (U17.same s18) V18 rfl ?_
    have s1418 := s1417.trans s18
    walk_at "go"
    refine ⟨t0, dxt, _, rfl, s1418 _ _ ht0, rfl, ?_⟩
    walk_at "go"
    refine ⟨t0, rt, n, tidyF ss, rfl, T14.same s1418, by have := tg.2.1; omega, fun H19 q5 s19 nq5 U19 => ?_⟩
    have s1419 := s1418.trans s19
    walk_at "go"
    refine ⟨pf, n, ss, rfl, (P14.same s1419).mono (fun _ _ => trivial), hg, hn4, by omega, fun H20 q6 s20 V20 => ?_⟩
    refine ne_steps (U19.same s20) V20 rfl ?_
    have s1420 := s1419.trans s20
    clear U15 V16 s15 s16 s1416 U17 s17 s1417 hp17 ho17 vp17 vo17 h18 V18 s18 s1418 U19 s19 s1419 V20 s20 e18
    walk_at "go"
    refine ⟨x, dxx, _, rfl, s1420 _ _ hx0, rfl, ?_⟩
    walk_at "go"
    refine ⟨x, rx, n, ss, rfl, X14.same s1420, by omega, fun H21 q7 s21 nq7 U21 => ?_⟩
    have s1421 := s1420.trans s21
    walk_at "go"
    refine ne_steps U21 (P14.same s1421) rfl ?_
    walk_at "go"
    refine ⟨t0, rt, n, tidyF ss, rfl, T14.same s1421, tg.1, hn1, hn4, by have := tg.2.1; omega, fun H22 u0 ru s22 nu0 nru W22 => ?_⟩
    rw [tidy_tidy] at W22
    have s1422 := s1421.trans s22
    obtain ⟨dxu, hu0⟩ := W22.ins
    walk_at "go"
    refine ⟨u0, dxu, _, rfl, hu0, rhs_mix (T14.same s1422), u0, t0, ru, n, tidyF ss, rfl, W22, .inl ⟨rt, n, tidyF ss, T14.same s1422, fun H23 s23 => ⟨_, rfl, ?_⟩⟩⟩
    rw [mix_refl]
    have s1423 := s1422.trans s23
    walk_at "go"
    refine ⟨(show 3 ≤ sizeLine by decide), fun L2 nL2 => ?_⟩
    obtain ⟨H24, e24, s24, h24⟩ := fresh (.lst [V.ref b0, V.ref c0, V.ref t0]) nL2
    rw [e24]
    have s1424 := s1423.trans s24
    walk_at "go"
    refine ⟨⟨_, .inl (.inl h24)⟩, fun D nD => ?_⟩
    refine lc_mapL (K := K) (xs := [V.ref b0, V.ref c0, V.ref t0]) ([n, n, n].map fun k : Nat => V.int (k : Int)) nD (.inl (.inl h24)) rfl (small1000 (show 3 ≤ 1000 by decide)) (fun x => rfl) ?_ ?_
    · intro k x0 y0 H' hx hy s' Qt qt
      have key : ∃ (m rm : Addr) (dm : Addr) (sm : List Step), x0 = .ref m ∧ H' m = some (.ins T.C_Mixer dm [("many", .int n), ("rows", .ref rm)]) ∧ MixAt T.C_Mixer H' m rm n sm ∧ y0 = .int (n : Int) := by
        match k, hx, hy with
        | 0, hx, hy => cases hx; cases hy; exact ⟨b0, rb, dxb, _, rfl, s' _ _ (s1424 _ _ hb0), B14.same (s1424.trans s'), rfl⟩
        | 1, hx, hy => cases hx; cases hy; exact ⟨c0, rc, dxc, _, rfl, s' _ _ (s1424 _ _ hc0), C14.same (s1424.trans s'), rfl⟩
        | 2, hx, hy => cases hx; cases hy; exact ⟨t0, rt, dxt, _, rfl, s' _ _ (s1424 _ _ ht0), T14.same (s1424.trans s'), rfl⟩
        | k + 3, hx, hy => simp at hx
      obtain ⟨m, rm, dm, sm, rfl, hm, hM, rfl⟩ := key
      walk_at "go"
      refine ⟨m, dm, _, rfl, hm, rfl, ?_⟩
      walk_at "go"
      refine ⟨m, rm, n, sm, rfl, hM, ?_⟩
      exact qt _ (Same.refl _)
    intro H25 s25 hD
    have s1425 := s1424.trans s25
    walk_at "go"
    refine ⟨(show 1 ≤ sizeLine by decide), fun L3 nL3 => ?_⟩
    obtain ⟨H26, e26, s26, h26⟩ := fresh (.lst [V.int (n : Int)]) nL3
    rw [e26]
    refine ⟨L3, 3, _, rfl, rfl, h26, by decide, by decide, (show 3 ≤ sizeLine by decide), fun L4 nL4 => ?_⟩
    obtain ⟨H27, e27, s27, h27⟩ := fresh (.lst (([(n : Int), n, n] : List Int).map V.int)) nL4
    rw [show upd H26 L4 (.lst (List.replicate ((3 : Int)).toNat [V.int (n : Int)]).flatten) = H27 from e27]
    refine ne_lst (ns := [(n : Int), n, n]) (.inl (.inl ((s26.trans s27) _ _ hD))) (.inl (.inl h27)) ?_
    have s1427 := s1425.trans (s26.trans s27)
    clear U21 s21 s1421 W22 s22 s1422 hu0 s23 s1423 h24 s24 s1424 hD s25 s1425 h26 h27 s26 s27 e24 e26 e27 s1420
    walk_at "go"
    refine ⟨g, x, rx, y, ry, b0, rb, c0, rc, _, n, ss, ts, rfl, g14.same s1427, by omega, X14.same s1427, Y14.same s1427, B14.same s1427, C14.same s1427, rxg, ryg, rbg, rcg, hg, hO2, hn1, hn4, by omega, by omega, fun H28 b28 g28 => ?_⟩
    have b1428 := (But.of s1427).trans b28
    have lkL : ∀ {H' H'' : Hp}, But g H' H'' → Lk (fun b => b = g) H' H'' := fun b c o nc e => b c o nc e
    have gL : ∀ b, b = g → ∃ xs, H14 b = some (.lst xs) := fun b e => by
      obtain ⟨x, y, z, a, _⟩ := g14
      rw [e]
      exact ⟨_, a⟩
    have Y28 := Y14.lk (lkL b1428) gL ryg
    have P28 := steps_but P14 g14 b1428 (fun l h => h) pfg
    have O28 := steps_but O14 g14 b1428 (fun l h => h) pog
    have s128 : Same H1 H28 := But.all ((But.of s714).trans b1428) s17 ng
    clear X14 Y14 B14 C14 T14 P14 O14 hb0 hc0 ht0 hx0 s114
    obtain ⟨vp, hp28, vp28⟩ := id P28
    obtain ⟨vo, ho28, vo28⟩ := id O28
    have vpl := vp28.len
    have vol := vo28.len
    walk_at "go"
    refine ⟨pf, _, rfl, .inl (.inl hp28), fun fw nfw => ?_⟩
    rw [show cutV vp none (some 3) = vp.take 3 from cut_take vp 3]
    obtain ⟨H29, e29, s29, h29⟩ := fresh (.lst (vp.take 3)) nfw
    rw [e29]
    have F29 : StepsAt (fun l => l ≠ g) H29 fw (ss.take 3) := ⟨_, h29, (vp28.take 3).imp fun v s => StepV.same s29⟩
    have O29 := O28.same s29
    have Y29 := Y28.same s29
    have hOf : ∀ s ∈ ss.take 3, s.ok n := fun s hs => hO s (List.mem_of_mem_take hs)
    have lf : (ss.take 3).length ≤ 3 := by rw [List.length_take]; omega
    have bf : bitsS (ss.take 3) ≤ 7 := Nat.le_trans (Nat.le.intro (bits_cut ss 3)) hbs
    generalize ss.take 3 = fs at *
    walk_at "go"
    refine ⟨_, fw, fs, rfl, F29, by omega, fun H30 s30 => ?_⟩
    walk_at "go"
    refine ⟨_, po, ts, rfl, O29.same s30, by omega, fun H31 s31 => ?_⟩
    have s2931 := s30.trans s31
    have tsok : ∀ s ∈ ts ++ ts, s.ok n := fun s hs => (List.mem_append.mp hs).elim (hO2 s) (hO2 s)
    have bt2 : bitsS ts ≤ 1 ∧ (3 ≤ n → bitsS ts = 0) := by
      rw [hb21] at hbs2
      split at hbs2
      · exact ⟨hbs2, fun k => absurd k (by omega)⟩
      · exact ⟨by omega, fun _ => by omega⟩
    walk_at "go"
    refine ⟨.inl ⟨by omega, by omega⟩, ?_⟩
    walk_at "go"
    by_cases cm : ((bitsS fs : Nat) + (bitsS ts : Nat) : Int) * (n : Int) ≤ 6
    · refine iteDT cm ?_
      refine restate [some (.ref a), some (.int i), v2, some (.bl true), v4, v5, some (.ref g), some (.int n), some (.int b), some (.ref pf), some (.ref po), some (.ref fw), some (.ref x), some (.ref y), some (.ref b0), some (.ref c0), some (.ref t0), v17, v18, v19, v20, none, none] rfl ?_
      obtain ⟨vf, hf31, vf31⟩ := F29.same s2931
      obtain ⟨vo1, ho31, vo31⟩ := O29.same s2931
      have vfl := vf31.len
      have vol1 := vo31.len
      have lkg : ∀ {H' : Hp} {v : V} {s : Step}, StepV (fun l => l ≠ g) H' v s → StepV (fun _ => True) H' v s := fun h => h.mono fun _ _ => trivial
      have hcm : (bitsS fs + bitsS ts) * n ≤ 6 := by
        have : (((bitsS fs + bitsS ts) * n : Nat) : Int) ≤ 6 := by rw [Int.natCast_mul, Int.natCast_add]; exact cm
        exact Int.ofNat_le.mp this
      have hA1 : ∀ s ∈ fs ++ ts, s.ok n := fun s hs => (List.mem_append.mp hs).elim (hOf s) (hO2 s)
      have hA2 : ∀ s ∈ ts ++ fs, s.ok n := fun s hs => (List.mem_append.mp hs).elim (hO2 s) (hOf s)
      have eb1 : bitsS (fs ++ ts) = bitsS fs + bitsS ts := bits_app fs ts
      have eb2 : bitsS (ts ++ fs) = bitsS fs + bitsS ts := (bits_app ts fs).trans (Nat.add_comm _ _)
      have hm6 : bitsS fs + bitsS ts ≤ 6 := Nat.le_trans (Nat.le_mul_of_pos_right _ hn1) hcm
      obtain ⟨c6, c1000⟩ := pow_cond hn1 hn4 hcm
      walk_at "go"
      refine ⟨fw, po, _, _, rfl, rfl, hf31, ho31, Nat.le_of_lt (small1000 (by omega)), fun r1 nr1 => ?_⟩
      obtain ⟨H32, e32, s32, h32⟩ := fresh (.lst (vf ++ vo1)) nr1
      rw [e32]
      walk_at "go"
      refine ⟨po, fw, _, _, rfl, rfl, s32 _ _ ho31, s32 _ _ hf31, Nat.le_of_lt (small1000 (by omega)), fun r2 nr2 => ?_⟩
      obtain ⟨H33, e33, s33, h33⟩ := fresh (.lst (vo1 ++ vf)) nr2
      rw [e33]
      refine ⟨(show 2 ≤ sizeLine by decide), fun wy nwy => ?_⟩
      obtain ⟨H34, e34, s34, h34⟩ := fresh (.lst [V.ref r1, V.ref r2]) nwy
      rw [e34]
      have s3134 := s32.trans (s33.trans s34)
      walk_at "go"
      refine ⟨fw, po, _, _, rfl, rfl, s3134 _ _ hf31, s3134 _ _ ho31, Nat.le_of_lt (small1000 (by omega)), fun r3 nr3 => ?_⟩
      obtain ⟨H35, e35, s35, h35⟩ := fresh (.lst (vf ++ vo1)) nr3
      rw [e35]
      have s3135 := s3134.trans s35
      walk_at "go"
      refine ⟨_, r3, fs ++ ts, rfl, ⟨_, h35, AllV.app (vf31.imp fun v s h => lkg (h.same s3135)) (vo31.imp fun v s h => lkg (h.same s3135))⟩, by rw [List.length_append]; omega, fun H36 s36 => ?_⟩
      rw [eb1]
      refine ⟨_, _, rfl, rfl, ⟨by omega, by omega, by decide⟩, ?_⟩
      walk_at "b"
      rw [shl_one]
      refine ⟨(show 2 ≤ sizeLine by decide), fun tp ntp => ?_⟩
      obtain ⟨H37, e37, s37, h37⟩ := fresh (.tup [V.ref wy, V.int ((2 ^ (bitsS fs + bitsS ts) : Nat) : Int)]) ntp
      rw [e37]
      refine ⟨tp, _, rfl, .inl (.inl h37), rfl, ?_⟩
      have s3437 := s35.trans (s36.trans s37)
      have s3137 := s3134.trans s3437
      have W1 : StepsAt (fun _ => True) H37 r1 (fs ++ ts) := ⟨_, (s33.trans (s34.trans s3437)) _ _ h32, AllV.app (vf31.imp fun v s h => lkg (h.same s3137)) (vo31.imp fun v s h => lkg (h.same s3137))⟩
      have W2 : StepsAt (fun _ => True) H37 r2 (ts ++ fs) := ⟨_, (s34.trans s3437) _ _ h33, AllV.app (vo31.imp fun v s h => lkg (h.same s3137)) (vf31.imp fun v s h => lkg (h.same s3137))⟩
      have hwy := s3437 _ _ h34
      have top1 : 2 ^ (bitsS fs + bitsS ts) ≤ 64 := Nat.pow_le_pow_right (by decide) hm6
      have hpow1 : (2 ^ (bitsS fs + bitsS ts) + 1) ^ n ≤ 1000 := Nat.le_trans (Nat.pow_le_pow_left (by have := Nat.two_pow_pos (bitsS fs + bitsS ts); omega) n) c1000
      have hpow2 : (2 ^ (bitsS fs + bitsS ts)) ^ n ≤ 1000 := Nat.le_trans (Nat.pow_le_pow_left (by omega) n) hpow1
      have ebx : 2 ^ (bitsS fs + bitsS ts) = 2 ^ max (bitsS (fs ++ ts)) (bitsS (ts ++ fs)) := by rw [eb1, eb2, Nat.max_self]
      have abx := alike_box hA1 hA2
      rw [← ebx] at abx
      walk_at "go"
      generalize hq : 2 ^ (bitsS fs + bitsS ts) = top at *
      clear e32 e33 e34 e35 e37 s32 s33 s34 h32 h33 h34 s35 h35 s36 s37 h37 s3134 s3135 s3437 ebx
      walk_at "go"
      refine ⟨n, top + 1, 0, top, rfl, hn4, by omega, by omega, by omega, by omega, hpow1, fun H38 D s38 hR => ?_⟩
      obtain ⟨prs, hD, hps, eps⟩ := hR.prs
      have lps : prs.length ≤ 1000 := by
        have e := congrArg List.length eps
        rw [List.length_map, len_listsF, rng_len] at e
        omega
      walk_at "go"
      refine ⟨⟨_, .inl (.inl hD)⟩, fun D2 nD2 => ?_⟩
      refine lc_refsL (K := K) prs (fun r => !decide (playF (fs ++ ts) r = playF (ts ++ fs) r)) nD2 (.inl (.inl hD)) (small1000 lps) (fun x => rfl) ?_ ?_ ?_
      · intro c hc H' s' Qb qb
        have hcc := s' _ _ (hps c hc)
        have lc : c.2.length = n := (mem_listsF.mp (by rw [← eps]; exact List.mem_map_of_mem hc)).1
        have s0 := s38.trans s'
        walk_at "go"
        refine ⟨wy, _, _, _, rfl, rfl, .inl (.inl (s0 _ _ hwy)), rfl, ?_⟩
        walk_at "go"
        refine ⟨_, r1, c.1, fs ++ ts, c.2, rfl, W1.same s0, hcc, by rw [lc]; exact hA1, by omega, fun H5 p5 s5 np5 h5 => ?_⟩
        walk_at "go"
        refine ⟨wy, _, _, _, rfl, rfl, .inl (.inl ((s0.trans s5) _ _ hwy)), rfl, ?_⟩
        walk_at "go"
        refine ⟨_, r2, c.1, ts ++ fs, c.2, rfl, W2.same (s0.trans s5), s5 _ _ hcc, by rw [lc]; exact hA2, by omega, fun H6 p6 s6 np6 h6 => ?_⟩
        refine neD_lst (.inl (.inl (s6 _ _ h5))) (.inl (.inl h6)) ?_
        exact ⟨_, rfl, qb _ (s5.trans s6)⟩
      · intro c hc H' Qv qv
        exact ⟨_, rfl, qv⟩
      intro H39 s39 hD2
      walk_at "go"
      refine ⟨Nat.zero_le _, fun z nz => ?_⟩
      obtain ⟨H40, e40, s40, h40⟩ := fresh (.lst []) nz
      rw [e40]
      have hR40 : RowsIn H40 D2 (((prs.filter fun c => !decide (playF (fs ++ ts) c.2 = playF (ts ++ fs) c.2))).map Prod.snd) := (PrsL.rows (fun c hc => s39 _ _ (hps c (List.mem_filter.mp hc).1)) hD2).same s40
      refine eq_emptyL hR40 h40 ?_
      have e : ((prs.filter fun c => !decide (playF (fs ++ ts) c.2 = playF (ts ++ fs) c.2))).map Prod.snd = (listsF (rngI 0 (top + 1)) n).filter fun r => !decide (playF (fs ++ ts) r = playF (ts ++ fs) r) := by
        rw [← eps, List.filter_map]
        rfl
      rw [e, none_left, abx]
      have s3140 := s3137.trans (s38.trans (s39.trans s40))
      have s2940 := s2931.trans s3140
      have Y40 := Y29.same s2940
      have F40 := F29.same s2940
      walk_at "go"
      intro mf z2 z3 z4 z5
      refine ⟨mf, z2, fw, n, fs, rfl, upd_same, hn1, hn4, (F40.mono fun _ _ => trivial).same (mk_same z3 z4), hOf, by omega, fun H41 rf kp nr M41 => ⟨rfl, ?_⟩⟩
      have s41 := mk_kept z3 z4 kp
      clear kp z3 z4 z5 nr
      walk_at "go"
      refine ⟨mf, rf, y, ry, n, fs, ts, rfl, M41, Y40.same s41, hOf, hO2, hn1, hn4, by omega, by omega, by omega, by rw [hq]; exact hpow2, fun H42 s42 => ?_⟩
      have s4042 := s41.trans s42
      walk_at "go"
      refine ⟨_, _, _, _, true, rfl, .ty _, .base (.bl _), kit_ty (by decide +kernel), true, rfl, ?_⟩
      walk_at "go"
      refine ne_bl ?_
      walk_at "go"
      intro mf2 z2' z3 z4 z5
      refine ⟨mf2, z2', fw, n, fs, rfl, upd_same, hn1, hn4, ((F40.same s4042).mono fun _ _ => trivial).same (mk_same z3 z4), hOf, by omega, fun H43 rf2 kp nr M43 => ⟨rfl, ?_⟩⟩
      have s43 := mk_kept z3 z4 kp
      clear kp z3 z4 z5 nr
      walk_at "go"
      refine ⟨y, ry, mf2, rf2, n, ts, fs, rfl, (Y40.same s4042).same s43, M43, hO2, hOf, hn1, hn4, by omega, by omega, by omega, by rw [Nat.add_comm (bitsS ts), hq]; exact hpow2, fun H44 s44 => ?_⟩
      rw [alike_comm hA2 hA1]
      walk_at "go"
      refine ne_bl ?_
      have s2944 := s2940.trans (s4042.trans (s43.trans s44))
      walk_at "go"
      have YT := Y29.same (s2944)
      walk_at "go"
      refine ⟨y, ry, y, ry, n, ts, ts, rfl, YT, YT, hO2, hO2, hn1, hn4, by omega, by omega, by omega, pow_few hn4 (by omega) (by omega), fun HT1 sT1 => ?_⟩
      rw [alike_same (tsok) (tsok) (fun _ _ => rfl)]
      walk_at "go"
      refine ⟨Nat.zero_le _, fun pz npz => ?_⟩
      obtain ⟨HT2, eT2, sT2, hT2'⟩ := fresh (.lst ([] : List V)) npz
      rw [eT2]
      walk_at "go"
      intro mz z2'' z3 z4 z5
      refine ⟨mz, z2'', pz, n, [], rfl, upd_same, hn1, hn4, (show StepsAt (fun _ => True) HT2 pz [] from ⟨[], hT2', trivial⟩).same (mk_same z3 z4), (fun _ z => nomatch z), by decide, fun HT3 rz kp nr MT3 => ⟨rfl, ?_⟩⟩
      have sT3 := mk_kept z3 z4 kp
      clear kp z3 z4 z5 nr
      have sTT := sT1.trans (sT2.trans sT3)
      walk_at "go"
      refine ⟨y, ry, mz, rz, n, ts, [], rfl, YT.same sTT, MT3, hO2, (fun _ z => nomatch z), hn1, hn4, by omega, by decide, by show bitsS ts + 0 ≤ 15; omega, pow_few hn4 (show bitsS ts + 0 ≤ 2 by omega) (fun k => show bitsS ts + 0 = 0 by omega), fun HT4 sT4 => ?_⟩
      rw [alike_same (n := n) (A := ts ++ []) (B := [] ++ ts) (by rw [List.append_nil]; exact hO2) hO2 (fun x _ => by rw [List.append_nil]; rfl)]
      walk_at "go"
      exact ⟨_, _, _, _, _, _, _, _, _, _, _, _, _, _, _, _, _, _, _, _, rfl, s1.trans (s128.trans (s29.trans ((s2944).trans (sTT.trans sT4))))⟩
    · refine iteDF cm ?_
      refine restate [some (.ref a), some (.int i), v2, some (.bl true), v4, v5, some (.ref g), some (.int n), some (.int b), some (.ref pf), some (.ref po), some (.ref fw), some (.ref x), some (.ref y), some (.ref b0), some (.ref c0), some (.ref t0), v17, v18, v19, v20, none, none] rfl ?_
      have YT := Y29.same (s2931)
      walk_at "go"
      refine ⟨y, ry, y, ry, n, ts, ts, rfl, YT, YT, hO2, hO2, hn1, hn4, by omega, by omega, by omega, pow_few hn4 (by omega) (by omega), fun HT1 sT1 => ?_⟩
      rw [alike_same (tsok) (tsok) (fun _ _ => rfl)]
      walk_at "go"
      refine ⟨Nat.zero_le _, fun pz npz => ?_⟩
      obtain ⟨HT2, eT2, sT2, hT2'⟩ := fresh (.lst ([] : List V)) npz
      rw [eT2]
      walk_at "go"
      intro mz z2'' z3 z4 z5
      refine ⟨mz, z2'', pz, n, [], rfl, upd_same, hn1, hn4, (show StepsAt (fun _ => True) HT2 pz [] from ⟨[], hT2', trivial⟩).same (mk_same z3 z4), (fun _ z => nomatch z), by decide, fun HT3 rz kp nr MT3 => ⟨rfl, ?_⟩⟩
      have sT3 := mk_kept z3 z4 kp
      clear kp z3 z4 z5 nr
      have sTT := sT1.trans (sT2.trans sT3)
      walk_at "go"
      refine ⟨y, ry, mz, rz, n, ts, [], rfl, YT.same sTT, MT3, hO2, (fun _ z => nomatch z), hn1, hn4, by omega, by decide, by show bitsS ts + 0 ≤ 15; omega, pow_few hn4 (show bitsS ts + 0 ≤ 2 by omega) (fun k => show bitsS ts + 0 = 0 by omega), fun HT4 sT4 => ?_⟩
      rw [alike_same (n := n) (A := ts ++ []) (B := [] ++ ts) (by rw [List.append_nil]; exact hO2) hO2 (fun x _ => by rw [List.append_nil]; rfl)]
      walk_at "go"
      exact ⟨_, _, _, _, _, _, _, _, _, _, _, _, _, _, _, _, _, _, _, _, rfl, s1.trans (s128.trans (s29.trans ((s2931).trans (sTT.trans sT4))))⟩
  · rintro σ H1 ⟨v1, v2, v3, v4, v5, v6, v7, v8, v9, v10, v11, v12, v13, v14, v15, v16, v17, v18, v19, v20, rfl, s1⟩
--END
    walk_at "go"
    refine ⟨(show 2 ≤ sizeLine by decide), fun pal0 npal0 => ?_⟩
    obtain ⟨H2, e2, s2, h2⟩ := fresh (.lst (([-1, 0] : List Int).map V.int)) npal0
    rw [show upd H1 pal0 (.lst [V.int (-1), V.int 0]) = H2 from e2]
    walk_at "go"
    refine ⟨(show 4 ≤ sizeLine by decide), fun pat0 npat0 => ?_⟩
    obtain ⟨H3, e3, s3, h3⟩ := fresh (.tup [sL, V.int 1, V.ref pal0, V.int 0]) npat0
    rw [show upd H2 pat0 (.tup [V.str (Str.ofString "lift"), V.int 1, V.ref pal0, V.int 0]) = H3 from e3]
    walk_at "go"
    refine ⟨(show 2 ≤ sizeLine by decide), fun pal1 npal1 => ?_⟩
    obtain ⟨H4, e4, s4, h4⟩ := fresh (.lst (([0, 1] : List Int).map V.int)) npal1
    rw [show upd H3 pal1 (.lst [V.int 0, V.int 1]) = H4 from e4]
    walk_at "go"
    refine ⟨(show 4 ≤ sizeLine by decide), fun pat1 npat1 => ?_⟩
    obtain ⟨H5, e5, s5, h5⟩ := fresh (.tup [sL, V.int 0, V.ref pal1, V.int 1]) npat1
    rw [show upd H4 pat1 (.tup [V.str (Str.ofString "lift"), V.int 0, V.ref pal1, V.int 1]) = H5 from e5]
    walk_at "go"
    refine ⟨(show 2 ≤ sizeLine by decide), fun pa npa => ?_⟩
    obtain ⟨H6, e6, s6, h6⟩ := fresh (.lst [V.ref pat0, V.ref pat1]) npa
    rw [show upd H5 pa (.lst [V.ref pat0, V.ref pat1]) = H6 from e6]
    have Spa : StepsAt (fun _ => True) H6 pa [.lift 1 [-1, 0] 0, .lift 0 [0, 1] 1] := ⟨_, h6, (show AllV (StepV (fun _ => True) H6) [V.ref pat0, V.ref pat1] [.lift 1 [-1, 0] 0, .lift 0 [0, 1] 1] from ⟨⟨pat0, pal0, rfl, (s4.trans (s5.trans s6)) _ _ h3, (s3.trans (s4.trans (s5.trans s6))) _ _ h2, trivial⟩, ⟨pat1, pal1, rfl, s6 _ _ h5, (s5.trans s6) _ _ h4, trivial⟩, trivial⟩)⟩
    walk_at "go"
    intro x1 z2 z3 z4 z5
    refine ⟨x1, z2, pa, 2, [.lift 1 [-1, 0] 0, .lift 0 [0, 1] 1], rfl, upd_same, by decide, by decide, (Spa.same (Same.refl _)).same (mk_same z3 z4), (show ∀ s ∈ ([.lift 1 [-1, 0] 0, .lift 0 [0, 1] 1] : List Step), s.ok 2 by decide), by decide, fun H7 r1 kp nr M1 => ⟨rfl, ?_⟩⟩
    have s7 : Same H6 H7 := mk_kept z3 z4 kp
    clear kp z3 z4 z5 nr
    walk_at "go"
    refine ⟨(show 2 ≤ sizeLine by decide), fun pdt0 npdt0 => ?_⟩
    obtain ⟨H8, e8, s8, h8⟩ := fresh (.tup [sT, V.int 0]) npdt0
    rw [show upd H7 pdt0 (.tup [V.str (Str.ofString "turn"), V.int 0]) = H8 from e8]
    walk_at "go"
    refine ⟨(show 2 ≤ sizeLine by decide), fun pdl1 npdl1 => ?_⟩
    obtain ⟨H9, e9, s9, h9⟩ := fresh (.lst (([0, 1] : List Int).map V.int)) npdl1
    rw [show upd H8 pdl1 (.lst [V.int 0, V.int 1]) = H9 from e9]
    walk_at "go"
    refine ⟨(show 4 ≤ sizeLine by decide), fun pdt1 npdt1 => ?_⟩
    obtain ⟨H10, e10, s10, h10⟩ := fresh (.tup [sL, V.int 0, V.ref pdl1, V.int 1]) npdt1
    rw [show upd H9 pdt1 (.tup [V.str (Str.ofString "lift"), V.int 0, V.ref pdl1, V.int 1]) = H10 from e10]
    walk_at "go"
    refine ⟨(show 2 ≤ sizeLine by decide), fun pdt2 npdt2 => ?_⟩
    obtain ⟨H11, e11, s11, h11⟩ := fresh (.tup [sT, V.int 0]) npdt2
    rw [show upd H10 pdt2 (.tup [V.str (Str.ofString "turn"), V.int 0]) = H11 from e11]
    walk_at "go"
    refine ⟨(show 2 ≤ sizeLine by decide), fun pdl3 npdl3 => ?_⟩
    obtain ⟨H12, e12, s12, h12⟩ := fresh (.lst (([1, 0] : List Int).map V.int)) npdl3
    rw [show upd H11 pdl3 (.lst [V.int 1, V.int 0]) = H12 from e12]
    walk_at "go"
    refine ⟨(show 4 ≤ sizeLine by decide), fun pdt3 npdt3 => ?_⟩
    obtain ⟨H13, e13, s13, h13⟩ := fresh (.tup [sL, V.int 1, V.ref pdl3, V.int 0]) npdt3
    rw [show upd H12 pdt3 (.tup [V.str (Str.ofString "lift"), V.int 1, V.ref pdl3, V.int 0]) = H13 from e13]
    walk_at "go"
    refine ⟨(show 4 ≤ sizeLine by decide), fun pd npd => ?_⟩
    obtain ⟨H14, e14, s14, h14⟩ := fresh (.lst [V.ref pdt0, V.ref pdt1, V.ref pdt2, V.ref pdt3]) npd
    rw [show upd H13 pd (.lst [V.ref pdt0, V.ref pdt1, V.ref pdt2, V.ref pdt3]) = H14 from e14]
    have Spd : StepsAt (fun _ => True) H14 pd [.turn 0, .lift 0 [0, 1] 1, .turn 0, .lift 1 [1, 0] 0] := ⟨_, h14, (show AllV (StepV (fun _ => True) H14) [V.ref pdt0, V.ref pdt1, V.ref pdt2, V.ref pdt3] [.turn 0, .lift 0 [0, 1] 1, .turn 0, .lift 1 [1, 0] 0] from ⟨⟨pdt0, rfl, (s9.trans (s10.trans (s11.trans (s12.trans (s13.trans s14))))) _ _ h8⟩, ⟨pdt1, pdl1, rfl, (s11.trans (s12.trans (s13.trans s14))) _ _ h10, (s10.trans (s11.trans (s12.trans (s13.trans s14)))) _ _ h9, trivial⟩, ⟨pdt2, rfl, (s12.trans (s13.trans s14)) _ _ h11⟩, ⟨pdt3, pdl3, rfl, s14 _ _ h13, (s13.trans s14) _ _ h12, trivial⟩, trivial⟩)⟩
    walk_at "go"
    refine ⟨x1, r1, 2, [.lift 1 [-1, 0] 0, .lift 0 [0, 1] 1], rfl, (M1.same (s8.trans (s9.trans (s10.trans (s11.trans (s12.trans (s13.trans s14))))))), (show ∀ s ∈ ([.lift 1 [-1, 0] 0, .lift 0 [0, 1] 1] : List Step), s.ok 2 by decide), by decide, by decide, by decide, fun H15 u15 ru15 s15 nu15 nru15 Mu15 => ?_⟩
    obtain ⟨dxu15, hu15⟩ := Mu15.ins
    walk_at "go"
    refine ⟨u15, dxu15, _, rfl, hu15, rfl, ?_⟩
    walk_at "go"
    refine ⟨u15, ru15, 2, undoF [.lift 1 [-1, 0] 0, .lift 0 [0, 1] 1], rfl, Mu15, by decide, fun H16 q16 s16 nq16 U16 => ?_⟩
    walk_at "go"
    refine ne_steps U16 (Spd.same (s15.trans s16)) (by decide) ?_
    walk_at "go"
    refine ⟨x1, r1, 2, [.lift 1 [-1, 0] 0, .lift 0 [0, 1] 1], rfl, (M1.same (s8.trans (s9.trans (s10.trans (s11.trans (s12.trans (s13.trans (s14.trans (s15.trans s16))))))))), (show ∀ s ∈ ([.lift 1 [-1, 0] 0, .lift 0 [0, 1] 1] : List Step), s.ok 2 by decide), by decide, by decide, by decide, fun H17 u17 ru17 s17 nu17 nru17 Mu17 => ?_⟩
    walk_at "go"
    refine ⟨x1, r1, u17, ru17, 2, [.lift 1 [-1, 0] 0, .lift 0 [0, 1] 1], undoF [.lift 1 [-1, 0] 0, .lift 0 [0, 1] 1], rfl, (M1.same (s8.trans (s9.trans (s10.trans (s11.trans (s12.trans (s13.trans (s14.trans (s15.trans (s16.trans s17)))))))))), Mu17, (show ∀ s ∈ ([.lift 1 [-1, 0] 0, .lift 0 [0, 1] 1] : List Step), s.ok 2 by decide), undo_ok (show ∀ s ∈ ([.lift 1 [-1, 0] 0, .lift 0 [0, 1] 1] : List Step), s.ok 2 by decide), by decide, by decide, by decide, fun H18 j18 rj18 s18 nj18 nrj18 Mj18 => ?_⟩
    walk_at "go"
    refine ⟨Nat.zero_le _, fun pe npe => ?_⟩
    obtain ⟨H19, e19, s19, h19⟩ := fresh (.lst []) npe
    rw [show upd H18 pe (.lst []) = H19 from e19]
    have Spe : StepsAt (fun _ => True) H19 pe [] := ⟨[], h19, trivial⟩
    walk_at "go"
    intro x2 z2 z3 z4 z5
    refine ⟨x2, z2, pe, 2, [], rfl, upd_same, by decide, by decide, (Spe.same (Same.refl _)).same (mk_same z3 z4), (show ∀ s ∈ ([] : List Step), s.ok 2 by decide), by decide, fun H20 r2 kp nr M2 => ⟨rfl, ?_⟩⟩
    have s20 : Same H19 H20 := mk_kept z3 z4 kp
    clear kp z3 z4 z5 nr
    walk_at "go"
    refine ⟨j18, rj18, x2, r2, 2, [.lift 1 [-1, 0] 0, .lift 0 [0, 1] 1] ++ undoF [.lift 1 [-1, 0] 0, .lift 0 [0, 1] 1], [], rfl, Mj18.same (s19.trans s20), (M2.same (Same.refl _)), fun s hs => (List.mem_append.mp hs).elim ((show ∀ s ∈ ([.lift 1 [-1, 0] 0, .lift 0 [0, 1] 1] : List Step), s.ok 2 by decide) s) (undo_ok (show ∀ s ∈ ([.lift 1 [-1, 0] 0, .lift 0 [0, 1] 1] : List Step), s.ok 2 by decide) s), (fun _ z => nomatch z), by decide, by decide, by decide, by decide, by decide, by decide, fun H21 s21 => ?_⟩
    rw [alike_same (n := 2) (A := [.lift 1 [-1, 0] 0, .lift 0 [0, 1] 1] ++ undoF [.lift 1 [-1, 0] 0, .lift 0 [0, 1] 1]) (B := []) (fun s hs => (List.mem_append.mp hs).elim ((show ∀ s ∈ ([.lift 1 [-1, 0] 0, .lift 0 [0, 1] 1] : List Step), s.ok 2 by decide) s) (undo_ok (show ∀ s ∈ ([.lift 1 [-1, 0] 0, .lift 0 [0, 1] 1] : List Step), s.ok 2 by decide) s)) (fun _ z => nomatch z) (fun x hx => by rw [play_app, undo_play (show ∀ s ∈ ([.lift 1 [-1, 0] 0, .lift 0 [0, 1] 1] : List Step), s.ok 2 by decide) hx]; rfl)]
    walk_at "go"
    unfold tNext
    walk_at "go"
    walk_at "go"
    refine ⟨(show 2 ≤ sizeLine by decide), fun pll0 npll0 => ?_⟩
    obtain ⟨H22, e22, s22, h22⟩ := fresh (.lst (([0, 3] : List Int).map V.int)) npll0
    rw [show upd H21 pll0 (.lst [V.int 0, V.int 3]) = H22 from e22]
    walk_at "go"
    refine ⟨(show 4 ≤ sizeLine by decide), fun plt0 nplt0 => ?_⟩
    obtain ⟨H23, e23, s23, h23⟩ := fresh (.tup [sL, V.int 0, V.ref pll0, V.int 0]) nplt0
    rw [show upd H22 plt0 (.tup [V.str (Str.ofString "lift"), V.int 0, V.ref pll0, V.int 0]) = H23 from e23]
    walk_at "go"
    refine ⟨(show 2 ≤ sizeLine by decide), fun pll1 npll1 => ?_⟩
    obtain ⟨H24, e24, s24, h24⟩ := fresh (.lst (([0, 1] : List Int).map V.int)) npll1
    rw [show upd H23 pll1 (.lst [V.int 0, V.int 1]) = H24 from e24]
    walk_at "go"
    refine ⟨(show 4 ≤ sizeLine by decide), fun plt1 nplt1 => ?_⟩
    obtain ⟨H25, e25, s25, h25⟩ := fresh (.tup [sL, V.int 0, V.ref pll1, V.int 1]) nplt1
    rw [show upd H24 plt1 (.tup [V.str (Str.ofString "lift"), V.int 0, V.ref pll1, V.int 1]) = H25 from e25]
    walk_at "go"
    refine ⟨(show 2 ≤ sizeLine by decide), fun plt2 nplt2 => ?_⟩
    obtain ⟨H26, e26, s26, h26⟩ := fresh (.tup [sT, V.int 1]) nplt2
    rw [show upd H25 plt2 (.tup [V.str (Str.ofString "turn"), V.int 1]) = H26 from e26]
    walk_at "go"
    refine ⟨(show 2 ≤ sizeLine by decide), fun plt3 nplt3 => ?_⟩
    obtain ⟨H27, e27, s27, h27⟩ := fresh (.tup [sT, V.int 1]) nplt3
    rw [show upd H26 plt3 (.tup [V.str (Str.ofString "turn"), V.int 1]) = H27 from e27]
    walk_at "go"
    refine ⟨(show 4 ≤ sizeLine by decide), fun pl npl => ?_⟩
    obtain ⟨H28, e28, s28, h28⟩ := fresh (.lst [V.ref plt0, V.ref plt1, V.ref plt2, V.ref plt3]) npl
    rw [show upd H27 pl (.lst [V.ref plt0, V.ref plt1, V.ref plt2, V.ref plt3]) = H28 from e28]
    have Spl : StepsAt (fun _ => True) H28 pl [.lift 0 [0, 3] 0, .lift 0 [0, 1] 1, .turn 1, .turn 1] := ⟨_, h28, (show AllV (StepV (fun _ => True) H28) [V.ref plt0, V.ref plt1, V.ref plt2, V.ref plt3] [.lift 0 [0, 3] 0, .lift 0 [0, 1] 1, .turn 1, .turn 1] from ⟨⟨plt0, pll0, rfl, (s24.trans (s25.trans (s26.trans (s27.trans s28)))) _ _ h23, (s23.trans (s24.trans (s25.trans (s26.trans (s27.trans s28))))) _ _ h22, trivial⟩, ⟨plt1, pll1, rfl, (s26.trans (s27.trans s28)) _ _ h25, (s25.trans (s26.trans (s27.trans s28))) _ _ h24, trivial⟩, ⟨plt2, rfl, (s27.trans s28) _ _ h26⟩, ⟨plt3, rfl, s28 _ _ h27⟩, trivial⟩)⟩
    walk_at "go"
    intro x3 z2 z3 z4 z5
    refine ⟨x3, z2, pl, 2, [.lift 0 [0, 3] 0, .lift 0 [0, 1] 1, .turn 1, .turn 1], rfl, upd_same, by decide, by decide, (Spl.same (Same.refl _)).same (mk_same z3 z4), (show ∀ s ∈ ([.lift 0 [0, 3] 0, .lift 0 [0, 1] 1, .turn 1, .turn 1] : List Step), s.ok 2 by decide), by decide, fun H29 r3 kp nr M3 => ⟨rfl, ?_⟩⟩
    have s29 : Same H28 H29 := mk_kept z3 z4 kp
    clear kp z3 z4 z5 nr
    walk_at "go"
    refine ⟨(show 2 ≤ sizeLine by decide), fun phl0 nphl0 => ?_⟩
    obtain ⟨H30, e30, s30, h30⟩ := fresh (.lst (([0, 1] : List Int).map V.int)) nphl0
    rw [show upd H29 phl0 (.lst [V.int 0, V.int 1]) = H30 from e30]
    walk_at "go"
    refine ⟨(show 4 ≤ sizeLine by decide), fun pht0 npht0 => ?_⟩
    obtain ⟨H31, e31, s31, h31⟩ := fresh (.tup [sL, V.int 0, V.ref phl0, V.int 1]) npht0
    rw [show upd H30 pht0 (.tup [V.str (Str.ofString "lift"), V.int 0, V.ref phl0, V.int 1]) = H31 from e31]
    walk_at "go"
    refine ⟨(show 2 ≤ sizeLine by decide), fun phl1 nphl1 => ?_⟩
    obtain ⟨H32, e32, s32, h32⟩ := fresh (.lst (([0, 1] : List Int).map V.int)) nphl1
    rw [show upd H31 phl1 (.lst [V.int 0, V.int 1]) = H32 from e32]
    walk_at "go"
    refine ⟨(show 4 ≤ sizeLine by decide), fun pht1 npht1 => ?_⟩
    obtain ⟨H33, e33, s33, h33⟩ := fresh (.tup [sL, V.int 0, V.ref phl1, V.int 1]) npht1
    rw [show upd H32 pht1 (.tup [V.str (Str.ofString "lift"), V.int 0, V.ref phl1, V.int 1]) = H33 from e33]
    walk_at "go"
    refine ⟨(show 2 ≤ sizeLine by decide), fun ph nph => ?_⟩
    obtain ⟨H34, e34, s34, h34⟩ := fresh (.lst [V.ref pht0, V.ref pht1]) nph
    rw [show upd H33 ph (.lst [V.ref pht0, V.ref pht1]) = H34 from e34]
    have Sph : StepsAt (fun _ => True) H34 ph [.lift 0 [0, 1] 1, .lift 0 [0, 1] 1] := ⟨_, h34, (show AllV (StepV (fun _ => True) H34) [V.ref pht0, V.ref pht1] [.lift 0 [0, 1] 1, .lift 0 [0, 1] 1] from ⟨⟨pht0, phl0, rfl, (s32.trans (s33.trans s34)) _ _ h31, (s31.trans (s32.trans (s33.trans s34))) _ _ h30, trivial⟩, ⟨pht1, phl1, rfl, s34 _ _ h33, (s33.trans s34) _ _ h32, trivial⟩, trivial⟩)⟩
    walk_at "go"
    intro x4 z2 z3 z4 z5
    refine ⟨x4, z2, ph, 2, [.lift 0 [0, 1] 1, .lift 0 [0, 1] 1], rfl, upd_same, by decide, by decide, (Sph.same (Same.refl _)).same (mk_same z3 z4), (show ∀ s ∈ ([.lift 0 [0, 1] 1, .lift 0 [0, 1] 1] : List Step), s.ok 2 by decide), by decide, fun H35 r4 kp nr M4 => ⟨rfl, ?_⟩⟩
    have s35 : Same H34 H35 := mk_kept z3 z4 kp
    clear kp z3 z4 z5 nr
    walk_at "go"
    refine ⟨x3, r3, 2, [.lift 0 [0, 3] 0, .lift 0 [0, 1] 1, .turn 1, .turn 1], rfl, (M3.same (s30.trans (s31.trans (s32.trans (s33.trans (s34.trans s35)))))), ⟨fun s hs => ((show ∀ s ∈ ([.lift 0 [0, 3] 0, .lift 0 [0, 1] 1, .turn 1, .turn 1] : List Step), s.ok 2 by decide) s hs).okl, by decide +kernel⟩, by decide, by decide, by decide, fun H36 t36 rt36 s36 nt36 nrt36 Mt36 => ?_⟩
    rw [show tidyF [.lift 0 [0, 3] 0, .lift 0 [0, 1] 1, .turn 1, .turn 1] = [.lift 0 [0, 7] 1] from by decide +kernel] at Mt36
    obtain ⟨dxt36, ht36⟩ := Mt36.ins
    walk_at "go"
    refine ⟨t36, dxt36, _, rfl, ht36, rfl, ?_⟩
    walk_at "go"
    refine ⟨t36, rt36, 2, [.lift 0 [0, 7] 1], rfl, Mt36, by decide, fun H37 q37 s37 nq37 U37 => ?_⟩
    walk_at "go"
    refine ⟨(show 2 ≤ sizeLine by decide), fun pfl0 npfl0 => ?_⟩
    obtain ⟨H38, e38, s38, h38⟩ := fresh (.lst (([0, 7] : List Int).map V.int)) npfl0
    rw [show upd H37 pfl0 (.lst [V.int 0, V.int 7]) = H38 from e38]
    walk_at "go"
    refine ⟨(show 4 ≤ sizeLine by decide), fun pft0 npft0 => ?_⟩
    obtain ⟨H39, e39, s39, h39⟩ := fresh (.tup [sL, V.int 0, V.ref pfl0, V.int 1]) npft0
    rw [show upd H38 pft0 (.tup [V.str (Str.ofString "lift"), V.int 0, V.ref pfl0, V.int 1]) = H39 from e39]
    walk_at "go"
    refine ⟨(show 1 ≤ sizeLine by decide), fun pf npf => ?_⟩
    obtain ⟨H40, e40, s40, h40⟩ := fresh (.lst [V.ref pft0]) npf
    rw [show upd H39 pf (.lst [V.ref pft0]) = H40 from e40]
    have Spf : StepsAt (fun _ => True) H40 pf [.lift 0 [0, 7] 1] := ⟨_, h40, (show AllV (StepV (fun _ => True) H40) [V.ref pft0] [.lift 0 [0, 7] 1] from ⟨⟨pft0, pfl0, rfl, s40 _ _ h39, (s39.trans s40) _ _ h38, trivial⟩, trivial⟩)⟩
    refine eq_steps (U37.same (s38.trans (s39.trans s40))) Spf rfl ?_
    walk_at "go"
    refine ⟨x4, r4, 2, [.lift 0 [0, 1] 1, .lift 0 [0, 1] 1], rfl, (M4.same (s36.trans (s37.trans (s38.trans (s39.trans s40))))), ⟨fun s hs => ((show ∀ s ∈ ([.lift 0 [0, 1] 1, .lift 0 [0, 1] 1] : List Step), s.ok 2 by decide) s hs).okl, by decide +kernel⟩, by decide, by decide, by decide, fun H41 t41 rt41 s41 nt41 nrt41 Mt41 => ?_⟩
    rw [show tidyF [.lift 0 [0, 1] 1, .lift 0 [0, 1] 1] = [.lift 0 [0, 1] 1, .lift 0 [0, 1] 1] from by decide +kernel] at Mt41
    obtain ⟨dxt41, ht41⟩ := Mt41.ins
    walk_at "go"
    refine ⟨t41, dxt41, _, rfl, ht41, rhs_mix (M4.same (s36.trans (s37.trans (s38.trans (s39.trans (s40.trans s41)))))), t41, x4, rt41, 2, [.lift 0 [0, 1] 1, .lift 0 [0, 1] 1], rfl, Mt41, .inl ⟨r4, 2, [.lift 0 [0, 1] 1, .lift 0 [0, 1] 1], (M4.same (s36.trans (s37.trans (s38.trans (s39.trans (s40.trans s41)))))), fun HZ sZ => ⟨_, rfl, ?_⟩⟩⟩
    rw [mix_refl]
    walk_at "go"
    exact q _
end
end My

open PySem PySem.W PySem.Calls PyProof.Rows
set_option maxRecDepth 100000 in
set_option maxHeartbeats 0 in
theorem PySem.Challenge.cw_wholesound_k37_undone_joined_and_tidied_holds : PySem.Challenge.rw_wholesound_k37_undone_joined_and_tidied.Holds := by
  w_on; o_law
  refine HandSHeadRun.head_any (r := OpenLaw.row PySem.Challenge.rw_wholesound_k37_undone_joined_and_tidied) (q := view (OpenLaw.row PySem.Challenge.rw_wholesound_k37_undone_joined_and_tidied).prog [61]) (H := My.hk) (ob := My.ob) (M := 8000) (loose := My.loose) (d := HandSHeadRun.topDef (OpenLaw.row PySem.Challenge.rw_wholesound_k37_undone_joined_and_tidied).prog 61) (kwd := []) My.ob_eq
    (by kernel_rfl) (fun s => by kernel_rfl) My.run (by kernel_rfl) (by kernel_rfl) (by kernel_rfl) (by rfl) (by first | assumption | decide +kernel) (by decide +kernel) ⟨rfl, rfl, rfl, rfl, rfl, by decide +kernel⟩ ?hw ?hc
  case hw => w_witness2
  case hc =>
    refine L2.walk_ofE (l := PySem.Challenge.rw_wholesound_k37_undone_joined_and_tidied) (n := 63) (k := 10) (x := "_law_script") (CX := L2.CX0) rfl (by decide) (by kernel_rfl) ⟨rfl, by decide, by decide⟩ ?F (fun _ _ _ _ z => z)
    intro w mg fa h Y G hmg0
    obtain ⟨K, KX, c⟩ := Y
    have hmg : mg ("law" : PySem.Str) = some (.ref fa) := by
      have e : (HandSHeadRun.topDef (OpenLaw.row PySem.Challenge.rw_wholesound_k37_undone_joined_and_tidied).prog 61).name = ("law" : PySem.Str) := by kernel_rfl
      rw [← e]
      exact hmg0
    have T : My.Top K mg := My.top_mk KX G c
    have e := hmg.symm.trans T.g_law
    cases e
    have b := L2.FunD.bindsA (ps := ["_law_script"]) T.F_law fun _ _ _ _ _ _ us hl => match us, hl with | [_], _ => rfl
    exact ⟨K, T.fd_law, My.sp_law K, KX, fun s v => b s [v] rfl, fun H a ns hl _ hS => ⟨a, ns, rfl, hS, hl, fun _ => rfl⟩, fun base _ _ => My.G_law T⟩


