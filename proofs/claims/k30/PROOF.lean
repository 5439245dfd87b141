import PyProof.Rows.All
import Wide.All
import OpenK.AllK
import Wide.FinOn
import KE.KStateDown
import Lean
import HandS.ForMost
import HandS.Exc
import HandS.Flow
import HandS.DictComp
import HandS.Style
import HandS.Wide
import HandS.WideBits
import HandS.IsInst
import HandS.Codes
import HandS.Walk
import HandS.Words
import HandS.WordsExc
import HandS.Defaults
import HandS.Head0
import HandS.Head1
import HandS.Head2
import HandS.HeadEnd
import HandS.HeadHook1
import HandS.HeadHook2
import HandS.SortInts
import PyProof.Rows.SortShellAny
import PyProof.InstNe
import KE.DataMinMax
import KE.SortData
import KE.IntBitsLaws
import KE.BitLaws
import HandS.Deep
import HandS.SetKeys
import PyProof.Rows.StrMul
import HandS.TupLe
import HandS.Property
import HandS.Conv
import HandS.NoneIn
import HandS.SetFor
import HandS.Strs
import HandS.Sort
import KE.GoesZip
import KE.GoesMore
import HandS.Zip
import PyProof.CallType
import PyProof.ZipIter
import PyProof.TupleIter
import PyProof.Rows.CallKwBuiltin
import PySem.Challenge.RW_wholesound_k30_mixed_and_led_back
set_option Elab.async false
set_option linter.all false
set_option maxRecDepth 100000
set_option maxHeartbeats 4000000
set_option exponentiation.threshold 100000
namespace Pre
open PySem PySem.Spec PyProof.Rows L2
/-! ### heaps -/
theorem same_upd {H : Hp} {p : Addr} {o : HO} (h : H p = none) : Same H (upd H p o) := fun b x e => by
  rw [upd_ne (ne_of_none e h)]
  exact e
/-- a fresh thing that is then changed is no change of what was -/
theorem same_over {H H' : Hp} {p : Addr} {o : HO} (n : H p = none) (s : Same H H') : Same H (upd H' p o) := fun b x e => by
  rw [upd_ne (ne_of_none e n)]
  exact s b x e
theorem Same.tup {K : PySem.W.Frag} {H H' : Hp} {a : Addr} {xs : List V} (e : Same H H') (h : SqT K H a xs) : SqT K H' a xs := by
  rcases h with (h | ⟨o, h⟩) | h
  · exact .inl (.inl (e _ _ h))
  · exact .inl (.inr ⟨o, e _ _ h⟩)
  · exact .inr h
mutual
theorem dp_same {K : PySem.W.Frag} {H H' : Hp} (s : Same H H') : ∀ (d : PyData) (v : V), Dp K H v d → Dp K H' v d
  | .none, _, h => by cases h; exact .non
  | .bool _, _, h => by cases h; exact .bl _
  | .int _, _, h => by cases h; exact .int _
  | .str _, _, h => by cases h; exact .str _
  | .list ds, _, h => by cases h with | lst a b => exact .lst (s.seq a) (dps_same s ds _ b)
  | .tuple ds, _, h => by cases h with | tup a b => exact .tup (Same.tup s a) (dps_same s ds _ b)
  | .dict _, _, h => nomatch h
theorem dps_same {K : PySem.W.Frag} {H H' : Hp} (s : Same H H') : ∀ (ds : List PyData) (vs : List V), DpAll K H vs ds → DpAll K H' vs ds
  | [], _, h => by cases h; exact .nil
  | d :: ds, _, h => by cases h with | cons a b => exact .cons (dp_same s d _ a) (dps_same s ds _ b)
end
theorem dp_ints {K : PySem.W.Frag} {H : Hp} : ∀ ns : List Int, DpAll K H (ns.map V.int) (ns.map PyData.int)
  | [] => .nil
  | n :: r => .cons (.int n) (dp_ints r)
theorem eqv_ints : ∀ ns ms : List Int, PyData.eqvAll (ns.map PyData.int) (ms.map PyData.int) = decide (ns = ms)
  | [], [] => rfl
  | [], _ :: _ => rfl
  | _ :: _, [] => rfl
  | n :: r, m :: q => by
    show (PyData.eqv (.int n) (.int m) && PyData.eqvAll (r.map PyData.int) (q.map PyData.int)) = decide (n :: r = m :: q)
    rw [eqv_ints r q]
    show ((n == m) && decide (r = q)) = decide (n :: r = m :: q)
    by_cases h : n = m
    · subst h; simp
    · simp [h]
theorem lay_ints : ∀ ns : List Int, PyData.canLayAll0 (ns.map PyData.int) = true
  | [] => rfl
  | n :: r => by
    show (PyData.canLay0 (.int n) && PyData.canLayAll0 (r.map PyData.int)) = true
    rw [lay_ints r]
    rfl
theorem depth_ints : ∀ ns : List Int, PyData.depthAll (ns.map PyData.int) = 0
  | [] => by simp [PyData.depthAll]
  | n :: r => by
    show PyData.depthAll (.int n :: r.map PyData.int) = 0
    rw [PyData.depthAll, depth_ints r]
    simp [PyData.depth]
theorem shaped_ints (ns : List Int) : SeqAt.shaped (.list (ns.map PyData.int)) = true := by
  unfold SeqAt.shaped
  rw [PyData.canLay0, lay_ints, PyData.depth, depth_ints]
  rfl
theorem shaped_tup (ns : List Int) : SeqAt.shaped (.tuple (ns.map PyData.int)) = true := by
  unfold SeqAt.shaped
  rw [PyData.canLay0, lay_ints, PyData.depth, depth_ints]
  rfl
/-! ### comparisons of lists and tuples of whole numbers that are told alike -/
theorem ne_tup {K : PySem.W.Frag} {H : Hp} {a b : Addr} {ns : List Int} {Q : V → Hp → Prop} (ha : SqT K H a (ns.map V.int)) (hb : SqT K H b (ns.map V.int)) (q : Q (.bl false) H) : rNeD K (.ref a) (.ref b) H Q := by
  refine ⟨.tuple (ns.map PyData.int), .tuple (ns.map PyData.int), .tup ha (dp_ints ns), .tup hb (dp_ints ns), shaped_tup ns, shaped_tup ns, ?_⟩
  rw [PyData.eqv, eqv_ints, decide_eq_true rfl]
  exact q
theorem eq_tup {K : PySem.W.Frag} {H : Hp} {a b : Addr} {ns : List Int} {Q : V → Hp → Prop} (ha : SqT K H a (ns.map V.int)) (hb : SqT K H b (ns.map V.int)) (q : Q (.bl true) H) : rEqD K (.ref a) (.ref b) H Q := by
  refine ⟨.tuple (ns.map PyData.int), .tuple (ns.map PyData.int), .tup ha (dp_ints ns), .tup hb (dp_ints ns), shaped_tup ns, shaped_tup ns, ?_⟩
  rw [PyData.eqv, eqv_ints, decide_eq_true rfl]
  exact q
/-- lists of whole numbers, compared -/
theorem eqD_lst {K : PySem.W.Frag} {H : Hp} {a b : Addr} {ns ms : List Int} {Q : V → Hp → Prop} (ha : SqL K H a (ns.map V.int)) (hb : SqL K H b (ms.map V.int)) (q : Q (.bl (decide (ns = ms))) H) : rEqD K (.ref a) (.ref b) H Q := by
  refine ⟨.list (ns.map PyData.int), .list (ms.map PyData.int), .lst ha (dp_ints ns), .lst hb (dp_ints ms), shaped_ints ns, shaped_ints ms, ?_⟩
  rw [PyData.eqv, eqv_ints]
  exact q
theorem neD_lst {K : PySem.W.Frag} {H : Hp} {a b : Addr} {ns ms : List Int} {Q : V → Hp → Prop} (ha : SqL K H a (ns.map V.int)) (hb : SqL K H b (ms.map V.int)) (q : Q (.bl (!decide (ns = ms))) H) : rNeD K (.ref a) (.ref b) H Q := by
  refine ⟨.list (ns.map PyData.int), .list (ms.map PyData.int), .lst ha (dp_ints ns), .lst hb (dp_ints ms), shaped_ints ns, shaped_ints ms, ?_⟩
  rw [PyData.eqv, eqv_ints]
  exact q
theorem ne_lst {K : PySem.W.Frag} {H : Hp} {a b : Addr} {ns : List Int} {Q : V → Hp → Prop} (ha : SqL K H a (ns.map V.int)) (hb : SqL K H b (ns.map V.int)) (q : Q (.bl false) H) : rNeD K (.ref a) (.ref b) H Q :=
  neD_lst ha hb (by rw [decide_eq_true rfl]; exact q)
theorem eq_lst {K : PySem.W.Frag} {H : Hp} {a b : Addr} {ns : List Int} {Q : V → Hp → Prop} (ha : SqL K H a (ns.map V.int)) (hb : SqL K H b (ns.map V.int)) (q : Q (.bl true) H) : rEqD K (.ref a) (.ref b) H Q :=
  eqD_lst ha hb (by rw [decide_eq_true rfl]; exact q)
/-! ### powers -/
def CPowW (i j : Int) : Prop := 0 ≤ j ∧ (Builtin.Int.intBits i : Int) * j ≤ 2 ^ 27
theorem op_powW {X : Cx} : OpR X (binaryOp .Pow) (rI CPowW fun i j => .int (i ^ j.toNat)) := opI fun _ _ _ _ _ _ _ hc q => pow_int hc.1 hc.2 q
/-! ### comprehensions whose parts leave what is tracked as it is: sel tells of each item what comes of it -/
theorem take_fm {α : Type} {l : List (Option α)} {i : Nat} {o : Option α} (h : l[i]? = some o) : (l.take (i + 1)).filterMap id = (l.take i).filterMap id ++ o.toList := by
  rw [List.take_add_one, h, List.filterMap_append]
  cases o <;> rfl
theorem fm_len {α : Type} (l : List (Option α)) (i : Nat) : ((l.take i).filterMap id).length ≤ l.length :=
  Nat.le_trans (List.length_filterMap_le _ _) (by rw [List.length_take]; omega)
theorem lc_selL {K : PySem.W.Frag} {a : Addr} {xs : List V} {j : Nat} {tt : TT} {te : TE} {vs : List Nat} {σ : L2.St} {H1 : Hp} {D : Addr} {Qd : Hp → Prop} (sel : List (Option V)) (nD : H1 D = none) (hS : SqL K H1 a xs) (hlen : sel.length = xs.length) (hz : xs.length < sizeLine)
    (hw : ∀ x, wipe ((wipe σ vs).set j (some x)) vs = wipe σ vs)
    (hs : ∀ (i : Nat) (x : V) (o : Option V) (H' : Hp), xs[i]? = some x → sel[i]? = some o → Same H1 H' → ∀ Qt : Option V → Hp → Prop, (∀ H'', Same H' H'' → Qt o H'') →
      tt ((wipe σ vs).set j (some x)) H' fun b H3 => if b = true then te ((wipe σ vs).set j (some x)) H3 fun y H4 => Qt (some y) H4 else Qt none H3)
    (hd : ∀ H', Same H1 H' → H' D = some (.lst (sel.filterMap id)) → Qd H') :
    ∃ W : Nat → Nat → Hp → Prop, (∃ m, W 0 m (upd H1 D (.lst []))) ∧ ∀ i m H, W i m H →
      ((Itl K a).stop i H ∧ Qd H) ∨ ((Itl K a).go i H ∧ ∃ Nx : Hp → Prop, (∀ H', Nx H' → ∃ m', m' < m ∧ W (i + 1) m' H') ∧ ∀ x H', (Itl K a).yld i H x H' → gName j x (wipe σ vs) H' fun σ2 H2 => wipe σ2 vs = wipe σ vs ∧ tt σ2 H2 fun b H3 =>
        if b = true then te σ2 H3 fun y H4 => ∃ acc, H4 D = some (.lst acc) ∧ acc.length < sizeLine ∧ Nx (upd H4 D (.lst (acc ++ [y]))) else Nx H3) := by
  refine lc_list (K := K) (a := a) (xs := xs) (fun i H => Same H1 H ∧ H D = some (.lst ((sel.take i).filterMap id))) ⟨same_upd nD, upd_same⟩ (fun i H _ p => p.1.seq hS) ?_ ?_
  · rintro i x H hx ⟨s, hD⟩
    refine ⟨hw x, ?_⟩
    have hi : i < sel.length := by rw [hlen]; exact (List.getElem?_eq_some_iff.mp hx).1
    have ho : sel[i]? = some sel[i] := List.getElem?_eq_getElem hi
    have hl : ((sel.take i).filterMap id).length < sizeLine := Nat.lt_of_le_of_lt (fm_len sel i) (by omega)
    refine hs i x sel[i] H hx ho s (fun o H4 => match o with
      | some y => ∃ acc, H4 D = some (.lst acc) ∧ acc.length < sizeLine ∧ (Same H1 (upd H4 D (.lst (acc ++ [y]))) ∧ (upd H4 D (.lst (acc ++ [y]))) D = some (.lst ((sel.take (i + 1)).filterMap id)))
      | none => Same H1 H4 ∧ H4 D = some (.lst ((sel.take (i + 1)).filterMap id))) fun H4 s4 => ?_
    generalize sel[i] = o at ho ⊢
    cases o with
    | some y =>
      refine ⟨_, s4 _ _ hD, hl, same_over nD (s.trans s4), ?_⟩
      rw [upd_same, take_fm ho]
      rfl
    | none =>
      refine ⟨s.trans s4, ?_⟩
      rw [take_fm ho, s4 _ _ hD]
      simp
  · rintro H ⟨s, hD⟩
    refine hd H s ?_
    rw [hD, ← hlen, List.take_length]
theorem lc_selR {lo : Int} {n : Nat} {j : Nat} {tt : TT} {te : TE} {vs : List Nat} {σ : L2.St} {H1 : Hp} {D : Addr} {Qd : Hp → Prop} (sel : List (Option V)) (nD : H1 D = none) (hlen : sel.length = n) (hz : n < sizeLine)
    (hw : ∀ x, wipe ((wipe σ vs).set j (some x)) vs = wipe σ vs)
    (hs : ∀ (i : Nat) (o : Option V) (H' : Hp), i < n → sel[i]? = some o → Same H1 H' → ∀ Qt : Option V → Hp → Prop, (∀ H'', Same H' H'' → Qt o H'') →
      tt ((wipe σ vs).set j (some (.int (lo + (i : Int))))) H' fun b H3 => if b = true then te ((wipe σ vs).set j (some (.int (lo + (i : Int))))) H3 fun y H4 => Qt (some y) H4 else Qt none H3)
    (hd : ∀ H', Same H1 H' → H' D = some (.lst (sel.filterMap id)) → Qd H') :
    ∃ W : Nat → Nat → Hp → Prop, (∃ m, W 0 m (upd H1 D (.lst []))) ∧ ∀ i m H, W i m H →
      ((Itr lo n).stop i H ∧ Qd H) ∨ ((Itr lo n).go i H ∧ ∃ Nx : Hp → Prop, (∀ H', Nx H' → ∃ m', m' < m ∧ W (i + 1) m' H') ∧ ∀ x H', (Itr lo n).yld i H x H' → gName j x (wipe σ vs) H' fun σ2 H2 => wipe σ2 vs = wipe σ vs ∧ tt σ2 H2 fun b H3 =>
        if b = true then te σ2 H3 fun y H4 => ∃ acc, H4 D = some (.lst acc) ∧ acc.length < sizeLine ∧ Nx (upd H4 D (.lst (acc ++ [y]))) else Nx H3) := by
  refine lc_range (lo := lo) (n := n) (fun i H => Same H1 H ∧ H D = some (.lst ((sel.take i).filterMap id))) ⟨same_upd nD, upd_same⟩ ?_ ?_
  · rintro i H hi' ⟨s, hD⟩
    refine ⟨hw _, ?_⟩
    have hi : i < sel.length := by rw [hlen]; exact hi'
    have ho : sel[i]? = some sel[i] := List.getElem?_eq_getElem hi
    have hl : ((sel.take i).filterMap id).length < sizeLine := Nat.lt_of_le_of_lt (fm_len sel i) (by omega)
    refine hs i sel[i] H hi' ho s (fun o H4 => match o with
      | some y => ∃ acc, H4 D = some (.lst acc) ∧ acc.length < sizeLine ∧ (Same H1 (upd H4 D (.lst (acc ++ [y]))) ∧ (upd H4 D (.lst (acc ++ [y]))) D = some (.lst ((sel.take (i + 1)).filterMap id)))
      | none => Same H1 H4 ∧ H4 D = some (.lst ((sel.take (i + 1)).filterMap id))) fun H4 s4 => ?_
    generalize sel[i] = o at ho ⊢
    cases o with
    | some y =>
      refine ⟨_, s4 _ _ hD, hl, same_over nD (s.trans s4), ?_⟩
      rw [upd_same, take_fm ho]
      rfl
    | none =>
      refine ⟨s.trans s4, ?_⟩
      rw [take_fm ho, s4 _ _ hD]
      simp
  · rintro H ⟨s, hD⟩
    refine hd H s ?_
    rw [hD, ← hlen, List.take_length]
theorem fm_some {α : Type} (ys : List α) : (ys.map some).filterMap id = ys := by
  rw [List.filterMap_map]
  show List.filterMap (fun y => some y) ys = ys
  exact List.filterMap_some
/-- no test: ys tells what comes of each item -/
theorem lc_mapL {K : PySem.W.Frag} {a : Addr} {xs : List V} {j : Nat} {te : TE} {vs : List Nat} {σ : L2.St} {H1 : Hp} {D : Addr} {Qd : Hp → Prop} (ys : List V) (nD : H1 D = none) (hS : SqL K H1 a xs) (hlen : ys.length = xs.length) (hz : xs.length < sizeLine)
    (hw : ∀ x, wipe ((wipe σ vs).set j (some x)) vs = wipe σ vs)
    (hs : ∀ (i : Nat) (x y : V) (H' : Hp), xs[i]? = some x → ys[i]? = some y → Same H1 H' → ∀ Qt : V → Hp → Prop, (∀ H'', Same H' H'' → Qt y H'') → te ((wipe σ vs).set j (some x)) H' Qt)
    (hd : ∀ H', Same H1 H' → H' D = some (.lst ys) → Qd H') :
    ∃ W : Nat → Nat → Hp → Prop, (∃ m, W 0 m (upd H1 D (.lst []))) ∧ ∀ i m H, W i m H →
      ((Itl K a).stop i H ∧ Qd H) ∨ ((Itl K a).go i H ∧ ∃ Nx : Hp → Prop, (∀ H', Nx H' → ∃ m', m' < m ∧ W (i + 1) m' H') ∧ ∀ x H', (Itl K a).yld i H x H' → gName j x (wipe σ vs) H' fun σ2 H2 => wipe σ2 vs = wipe σ vs ∧ tYes σ2 H2 fun b H3 =>
        if b = true then te σ2 H3 fun y H4 => ∃ acc, H4 D = some (.lst acc) ∧ acc.length < sizeLine ∧ Nx (upd H4 D (.lst (acc ++ [y]))) else Nx H3) := by
  refine lc_selL (K := K) (a := a) (xs := xs) (tt := tYes) (ys.map some) nD hS (by rw [List.length_map]; exact hlen) hz hw ?_ ?_
  · intro i x o H' hx ho s Qt qt
    rw [List.getElem?_map] at ho
    obtain ⟨y, hy, rfl⟩ := Option.map_eq_some_iff.mp ho
    show if true = true then te ((wipe σ vs).set j (some x)) H' (fun y H4 => Qt (some y) H4) else Qt none H'
    exact iteT (hs i x y H' hx hy s (fun y H4 => Qt (some y) H4) qt)
  · intro H' s hD
    rw [fm_some] at hD
    exact hd H' s hD
theorem lc_mapR {lo : Int} {n : Nat} {j : Nat} {te : TE} {vs : List Nat} {σ : L2.St} {H1 : Hp} {D : Addr} {Qd : Hp → Prop} (ys : List V) (nD : H1 D = none) (hlen : ys.length = n) (hz : n < sizeLine)
    (hw : ∀ x, wipe ((wipe σ vs).set j (some x)) vs = wipe σ vs)
    (hs : ∀ (i : Nat) (y : V) (H' : Hp), i < n → ys[i]? = some y → Same H1 H' → ∀ Qt : V → Hp → Prop, (∀ H'', Same H' H'' → Qt y H'') → te ((wipe σ vs).set j (some (.int (lo + (i : Int))))) H' Qt)
    (hd : ∀ H', Same H1 H' → H' D = some (.lst ys) → Qd H') :
    ∃ W : Nat → Nat → Hp → Prop, (∃ m, W 0 m (upd H1 D (.lst []))) ∧ ∀ i m H, W i m H →
      ((Itr lo n).stop i H ∧ Qd H) ∨ ((Itr lo n).go i H ∧ ∃ Nx : Hp → Prop, (∀ H', Nx H' → ∃ m', m' < m ∧ W (i + 1) m' H') ∧ ∀ x H', (Itr lo n).yld i H x H' → gName j x (wipe σ vs) H' fun σ2 H2 => wipe σ2 vs = wipe σ vs ∧ tYes σ2 H2 fun b H3 =>
        if b = true then te σ2 H3 fun y H4 => ∃ acc, H4 D = some (.lst acc) ∧ acc.length < sizeLine ∧ Nx (upd H4 D (.lst (acc ++ [y]))) else Nx H3) := by
  refine lc_selR (lo := lo) (n := n) (tt := tYes) (ys.map some) nD (by rw [List.length_map]; exact hlen) hz hw ?_ ?_
  · intro i o H' hi ho s Qt qt
    rw [List.getElem?_map] at ho
    obtain ⟨y, hy, rfl⟩ := Option.map_eq_some_iff.mp ho
    show if true = true then te ((wipe σ vs).set j (some (.int (lo + (i : Int))))) H' (fun y H4 => Qt (some y) H4) else Qt none H'
    exact iteT (hs i y H' hi hy s (fun y H4 => Qt (some y) H4) qt)
  · intro H' s hD
    rw [fm_some] at hD
    exact hd H' s hD
/-- an item of a list of whole numbers -/
theorem int_at {ns : List Int} {i : Nat} {x : V} (h : (ns.map V.int)[i]? = some x) : ∃ n, ns[i]? = some n ∧ x = .int n := by
  rw [List.getElem?_map] at h
  obtain ⟨n, hn, e⟩ := Option.map_eq_some_iff.mp h
  exact ⟨n, hn, e.symm⟩
/-! ### rules with the written part named (within a comprehension Lean doesn't find it) -/
section
variable {X : Cx}
theorem k_len (K : PySem.W.Frag) (h : X.K = K) : CallR X (.builtin "len") (fun xs H Q => ∃ p ys, xs = [.ref p] ∧ (SqL K H p ys ∨ SqT K H p ys) ∧ Q (.int ys.length) H) := by subst h; exact call_len_seq
theorem k_sum (K : PySem.W.Frag) (h : X.K = K) (hc : X.calm = true) : CallR X (.builtin "sum") (rSum K) := by subst h; exact cr_sum hc
theorem k_max (K : PySem.W.Frag) (h : X.K = K) (hc : X.calm = true) : CallR X (.builtin "max") (rMax K) := by subst h; exact cr_max hc
theorem k_min (K : PySem.W.Frag) (h : X.K = K) (hc : X.calm = true) : CallR X (.builtin "min") (rMin K) := by subst h; exact cr_min hc
theorem k_isi (K : PySem.W.Frag) (h : X.K = K) : CallR X (.builtin "isinstance") (rIsi K) := by subst h; exact call_isi
theorem k_listOf (K : PySem.W.Frag) (h : X.K = K) : CallR X (.type "list") (fun xs H Q => ∃ p ys, xs = [.ref p] ∧ (SqL K H p ys ∨ SqT K H p ys) ∧ ∀ l, H l = none → Q (.ref l) (upd H l (.lst ys))) := by subst h; exact call_list_of
theorem k_tupleOf (K : PySem.W.Frag) (h : X.K = K) : CallR X (.type "tuple") (fun xs H Q => ∃ p ys, xs = [.ref p] ∧ ((SqL K H p ys ∧ ∀ l, H l = none → Q (.ref l) (upd H l (.tup ys))) ∨ (SqT K H p ys ∧ Q (.ref p) H))) := by subst h; exact call_tuple_of
theorem k_ixL (K : PySem.W.Frag) (h : X.K = K) : IxR X (rIxL K) := by subst h; exact ix_list
theorem k_ixT (K : PySem.W.Frag) (h : X.K = K) : IxR X (rIxT K) := by subst h; exact ix_tup
theorem k_slL (K : PySem.W.Frag) (h : X.K = K) : SlR X (rSlL K) := by subst h; exact sl_list
theorem k_slT (K : PySem.W.Frag) (h : X.K = K) : SlR X (rSlT K) := by subst h; exact sl_tup
theorem k_eqD (K : PySem.W.Frag) (h : X.K = K) (hu : X.A.units + 64 < cLine) : OpR X (compareOp .Eq) (rEqD K) := by subst h; exact op_eqD hu
theorem k_neD (K : PySem.W.Frag) (h : X.K = K) (hu : X.A.units + 64 < cLine) : OpR X (compareOp .NotEq) (rNeD K) := by subst h; exact op_neD hu
theorem k_in (K : PySem.W.Frag) (h : X.K = K) : OpR X (compareOp .In) (rIn K false) := by subst h; exact op_in_seq
theorem k_notIn (K : PySem.W.Frag) (h : X.K = K) : OpR X (compareOp .NotIn) (rIn K true) := by subst h; exact op_notIn_seq
theorem k_piL (K : PySem.W.Frag) (h : X.K = K) {tg l : Expr} {tl : TE} (hl : PE X l tl) : PI X tg l (iList K tl) := by subst h; exact pi_list hl
theorem k_piT (K : PySem.W.Frag) (h : X.K = K) {tg l : Expr} {tl : TE} (hl : PE X l tl) : PI X tg l (iTup K tl) := by subst h; exact pi_tup hl
theorem k_piE (K : PySem.W.Frag) (h : X.K = K) {e : Expr} {ta : TA} {p pos tpos : Pos} {elts : List Expr} {kk : Nat} (hg : Gl X "enumerate") (hm : X.mg "enumerate" = none) (ha : PA X [e] ta) (hs : starEach [e] X.env = [(false, eval e X.env)] := by rfl) : PI X (.Tuple elts kk tpos) (.Call (.Name "enumerate" p) [e] [] pos) (iEnum K ta) := by subst h; exact pi_enum hg hm ha hs
theorem k_pgT (K : PySem.W.Frag) (h : X.K = K) {es : List Expr} {k : Nat} {t : TGs} {n : Nat} {pos : Pos} (hc : X.calm = true) (hp : PGs X es t) (hn : (assignEach es X.env).length = n := by rfl) (hst : (assignEach es X.env).findIdx? (·.1) = none := by rfl) : PG X (.Tuple es k pos) (gTup K n t) := by subst h; exact pg_tup hc hp hn hst
theorem k_pgL (K : PySem.W.Frag) (h : X.K = K) {es : List Expr} {k : Nat} {t : TGs} {n : Nat} {pos : Pos} (hc : X.calm = true) (hp : PGs X es t) (hn : (assignEach es X.env).length = n := by rfl) (hst : (assignEach es X.env).findIdx? (·.1) = none := by rfl) : PG X (.Tuple es k pos) (gUnl K n t) := by subst h; exact pg_unl hc hp hn hst
theorem k_fld (K : PySem.W.Frag) (h : X.K = K) {e : Expr} {f : Str} {pos : Pos} {ta : TE} (he : PE X e ta) (hb : attributeBase e f X.env (eval e X.env) = eval e X.env) : PE X (.Attribute e f pos) (tFld K ta f) := by subst h; exact pe_fld he hb
theorem k_index (K : PySem.W.Frag) (h : X.K = K) : MtR X "list.index" (rIndex K) := by subst h; exact mt_index
end
/-! ### small things -/
theorem fresh {H : Hp} {p : Addr} (o : HO) (np : H p = none) : ∃ H', upd H p o = H' ∧ Same H H' ∧ H' p = some o := ⟨_, rfl, same_upd np, upd_same⟩
theorem cut_take (xs : List V) (k : Nat) : cutV xs none (some (k : Int)) = xs.take k := by
  unfold cutV
  rw [HT.sIx_nat, HT.sIx_none, List.drop_zero, Nat.sub_zero]
  rcases Nat.le_total k xs.length with h | h
  · rw [Nat.min_eq_left h]
  · rw [Nat.min_eq_right h, List.take_of_length_le h, List.take_length]
theorem cut_drop (xs : List V) (k : Nat) : cutV xs (some (k : Int)) none = xs.drop k := by
  unfold cutV
  rw [HT.sIx_nat, HT.sIx_none]
  rcases Nat.le_total k xs.length with h | h
  · rw [Nat.min_eq_left h, List.take_of_length_le (by rw [List.length_drop]; exact Nat.le_refl _)]
  · rw [Nat.min_eq_right h, List.drop_length, List.drop_of_length_le h, List.take_nil]
theorem rep_ints (k : Nat) (ks : List Int) : (List.replicate k (ks.map V.int)).flatten = ((List.replicate k ks).flatten).map V.int := by
  rw [List.map_flatten, List.map_replicate]
theorem rep_len {α : Type} (k : Nat) (ks : List α) : ((List.replicate k ks).flatten).length = k * ks.length := by
  induction k with
  | zero => simp
  | succ k ih => rw [List.replicate_succ, List.flatten_cons, List.length_append, ih, Nat.succ_mul]; omega
theorem rep_mem {α : Type} {k : Nat} {ks : List α} {x : α} (h : x ∈ (List.replicate k ks).flatten) : x ∈ ks := by
  obtain ⟨l, hl, hx⟩ := List.mem_flatten.mp h
  rw [(List.mem_replicate.mp hl).2] at hx
  exact hx
/-! ### comprehensions that make new things: R tells what is known of the i-th; D is no part of it -/
def Off (D : Addr) (H H' : Hp) : Prop := ∀ b o, b ≠ D → H b = some o → H' b = some o
def RelPv (R : Nat → V → Hp → Prop) (H1 : Hp) (D : Addr) (i : Nat) (H : Hp) : Prop := ∃ ys : List V, Same H1 H ∧ H D = some (.lst ys) ∧ ys.length = i ∧ ∀ (k : Nat) (y : V), ys[k]? = some y → R k y H
theorem lc_relR {lo : Int} {n : Nat} {j : Nat} {te : TE} {vs : List Nat} {σ : L2.St} {H1 : Hp} {D : Addr} {Qd : Hp → Prop} (R : Nat → V → Hp → Prop) (nD : H1 D = none) (hz : n < sizeLine)
    (mono : ∀ i y H H', Off D H H' → R i y H → R i y H')
    (hw : ∀ x, wipe ((wipe σ vs).set j (some x)) vs = wipe σ vs)
    (hs : ∀ (i : Nat) (H' : Hp) (xs : List V), i < n → Same H1 H' → H' D = some (.lst xs) → ∀ Qt : V → Hp → Prop, (∀ y H'', Same H' H'' → R i y H'' → Qt y H'') → te ((wipe σ vs).set j (some (.int (lo + (i : Int))))) H' Qt)
    (hd : ∀ H' ys, Same H1 H' → H' D = some (.lst ys) → ys.length = n → (∀ (i : Nat) (y : V), ys[i]? = some y → R i y H') → Qd H') :
    ∃ W : Nat → Nat → Hp → Prop, (∃ m, W 0 m (upd H1 D (.lst []))) ∧ ∀ i m H, W i m H →
      ((Itr lo n).stop i H ∧ Qd H) ∨ ((Itr lo n).go i H ∧ ∃ Nx : Hp → Prop, (∀ H', Nx H' → ∃ m', m' < m ∧ W (i + 1) m' H') ∧ ∀ x H', (Itr lo n).yld i H x H' → gName j x (wipe σ vs) H' fun σ2 H2 => wipe σ2 vs = wipe σ vs ∧ tYes σ2 H2 fun b H3 =>
        if b = true then te σ2 H3 fun y H4 => ∃ acc, H4 D = some (.lst acc) ∧ acc.length < sizeLine ∧ Nx (upd H4 D (.lst (acc ++ [y]))) else Nx H3) := by
  refine lc_range (lo := lo) (n := n) (RelPv R H1 D) ⟨[], same_upd nD, upd_same, rfl, fun k y h => by simp at h⟩ ?_ ?_
  · rintro i H hi ⟨ys, s, hD, hl, hR⟩
    refine ⟨hw _, ?_⟩
    show if true = true then te ((wipe σ vs).set j (some (.int (lo + (i : Int))))) H (fun y H4 => ∃ acc, H4 D = some (.lst acc) ∧ acc.length < sizeLine ∧ RelPv R H1 D (i + 1) (upd H4 D (.lst (acc ++ [y])))) else RelPv R H1 D (i + 1) H
    refine iteT (hs i H ys hi s hD _ fun y H4 s4 r4 => ?_)
    refine ⟨ys, s4 _ _ hD, by omega, ys ++ [y], same_over nD (s.trans s4), upd_same, by rw [List.length_append, hl]; rfl, fun k z hz => ?_⟩
    have off : Off D H4 (upd H4 D (.lst (ys ++ [y]))) := fun b o nb h => by rw [upd_ne nb]; exact h
    by_cases hk : k < ys.length
    · rw [List.getElem?_append_left hk] at hz
      exact mono k z H _ (fun b o nb h => off b o nb (s4 b o h)) (hR k z hz)
    · rw [List.getElem?_append_right (by omega)] at hz
      have hk2 : k - ys.length = 0 := by
        have h2 := (List.getElem?_eq_some_iff.mp hz).1
        rw [List.length_singleton] at h2
        omega
      rw [hk2] at hz
      cases hz
      have ek : k = i := by omega
      rw [ek]
      exact mono i y H4 _ off r4
  · rintro H ⟨ys, s, hD, hl, hR⟩
    exact hd H ys s hD hl hR
/-! ### ways that are told by whole numbers -/
theorem iteDT {p A B : Prop} [Decidable p] (hp : p) (h : A) : if decide p = true then A else B := by rw [decide_eq_true hp]; exact iteT h
theorem iteDF {p A B : Prop} [Decidable p] (hp : ¬ p) (h : B) : if decide p = true then A else B := by rw [decide_eq_false hp]; exact iteF h
theorem iteNT {p A B : Prop} [Decidable p] (hp : ¬ p) (h : A) : if (!decide p) = true then A else B := by rw [decide_eq_false hp]; exact iteT h
theorem iteNF {p A B : Prop} [Decidable p] (hp : p) (h : B) : if (!decide p) = true then A else B := by rw [decide_eq_true hp]; exact iteF h
theorem iteET {a b : Int} {A B : Prop} [Decidable (V.int a = V.int b)] (hp : a = b) (h : A) : if decide (V.int a = V.int b) = true then A else B := iteDT (congrArg V.int hp) h
theorem iteEF {a b : Int} {A B : Prop} [Decidable (V.int a = V.int b)] (hp : ¬ a = b) (h : B) : if decide (V.int a = V.int b) = true then A else B := iteDF (fun z => hp (V.int.inj z)) h
theorem iteENT {a b : Int} {A B : Prop} [Decidable (V.int a = V.int b)] (hp : ¬ a = b) (h : A) : if (!decide (V.int a = V.int b)) = true then A else B := iteNT (fun z => hp (V.int.inj z)) h
theorem iteENF {a b : Int} {A B : Prop} [Decidable (V.int a = V.int b)] (hp : a = b) (h : B) : if (!decide (V.int a = V.int b)) = true then A else B := iteNF (congrArg V.int hp) h
theorem iteNtt {A B : Prop} (h : B) : if (!true) = true then A else B := h
theorem iteNff {A B : Prop} (h : A) : if (!false) = true then A else B := h
/-- 1 or 0 of a comparison -/
theorem int_if {p : Prop} [Decidable p] : (if decide p = true then (1 : Int) else 0) = if p then 1 else 0 := by by_cases h : p <;> simp [h]
end Pre

namespace My
open PySem PySem.Spec PyProof.Rows L2 Pre
/-! ### == and != of instances by their class's own __eq__ -/
/-- != of a class with own __eq__, without own __ne__ -/
theorem own_ne {prog : Program} {w : World} {A : Around} {E : Value → Shared → Prop} {s : Shared} {K : PySem.W.Frag} {x C f : Addr} {ox : Obj} {od : Option Obj} {b tb : Value} {Q : Value → Shared → Prop} (room : A.units + 1 < cLine) (kin : K.In s.heap)
    (inst : PySem.W.InstAt s.heap x ox C od) (tyb : PySem.W.Looks (model prog w) s.heap (typeOf b) tb) (nf : PySem.W.notFirst K C tb = true) (hne : PySem.W.findIn K (.ref C) "__ne__" = some (some (.builtin "object.__ne__")))
    (heq : PySem.W.findIn K (.ref C) "__eq__" = some (some (.ref f))) (isf : PySem.W.isFn K (.ref f) = true) (hob : PySem.W.subIn K (.ref C) (.type "object") = some true)
    (h : wpAny (model prog w) A.in1 (call (.ref f) [.ref x, b]) (fun v s' => ∃ r, v = .bool r ∧ Q (.bool (!r)) s') E s) : wpAny (model prog w) A (richCompare .NotEq (.ref x) b) Q E s := by
  have body : wpAny (model prog w) A.in1 (Builtin.«object.__ne__» ⟨[.ref x, b], []⟩) (fun fin s' => ∃ r, fin = .done (.ret (.bool r)) ∧ Q (.bool r) s') E s := by
    unfold Builtin.«object.__ne__»
    refine wpAny_bind (wpAny_of_eq (a := ((Value.ref x : Value), [b])) (by first | rfl | (simp only [slotArgs]; rfl)) ?_)
    refine wpAny_bind (wpAny_cRoomFor (show A.in1.units < cLine from room) ?_)
    refine wpAny_bind (PySem.W.ifBound_K kin inst heq isf (wpAny_mono h (fun v s' hv => ?_) fun _ _ e => e))
    obtain ⟨r, rfl, q⟩ := hv
    refine wpAny_bind (wpAny_truthy_bool ?_)
    exact wpAny_pure ⟨!r, rfl, q⟩
  have one : wpAny (model prog w) A (tryCompare (.ref x) "__ne__" b) (fun o s' => ∃ v, o = some v ∧ Q v s') E s := by
    have called : wpAny (model prog w) A (call (.builtin "object.__ne__") ([.ref x] ++ [b]) >>= fun v => pure (some v)) (fun o s' => ∃ v r, o = some v ∧ v = .bool r ∧ Q v s') E s := by
      refine wpAny_bind (wpAny_call (codeAny_call_builtin PySem.F.cmp_object.ne.plain PySem.F.cmpEntry_ne (PySem.W.check_slot PySem.F.cmpKind_ne PySem.F.cmpSplit_ne (inst.type.andThen (PySem.W.looks_subIn kin hob)) (PySem.F.cmpArgs_ne _ _) ?_)))
      refine wpAny_mono body (fun fin s' hf => ?_) fun _ _ e => e
      obtain ⟨r, rfl, q⟩ := hf
      exact wpAny_pure ⟨_, r, rfl, rfl, q⟩
    have inner : wpAny (model prog w) A (callSpecialIfBound? (.ref x) "__ne__" [b]) (fun o s' => ∃ v r, o = some v ∧ v = .bool r ∧ Q v s') E s := by
      simp only [callSpecialIfBound?, bindSpecialIfBound?]
      refine wpAny_holding (wpAny_bind (wpAny_bind (wpAny_bind (inst.type.here ((PySem.W.looks_findIn kin hne).here ?_)))))
      refine wpAny_bind (wpAny_askSetting (wpAny_ite ?_))
      rw [PySem.F.cmp_object.ne.bind]
      split
      · exact wpAny_bind (wpAny_pure (wpAny_pure called))
      · exact wpAny_tryCatch (wpAny_bind (wpAny_pure (wpAny_pure called)))
    unfold tryCompare
    refine wpAny_bind (wpAny_mono inner (fun o s' ho => ?_) fun _ _ e => e)
    obtain ⟨v, r, rfl, rfl, q⟩ := ho
    exact wpAny_pure ⟨_, rfl, q⟩
  unfold richCompare
  simp only [oneThing_ref]
  refine wpAny_holding (wpAny_bind (wpAny_cRoomFor (by omega) ?_))
  refine wpAny_bind (inst.type.here (wpAny_bind (tyb.here ?_)))
  have last : wpAny (model prog w) A (tryCompare (.ref x) "__ne__" b) (fun o s' => ∃ v, o = some v ∧ Q v s') E s := one
  split
  · rename_i q
    have e : PySem.W.subIn K tb (.ref C) = some false := by
      rcases Bool.or_eq_true_iff.mp nf with e | e
      · rw [beq_iff_eq.mp e] at q; simp at q
      · exact beq_iff_eq.mp e
    refine wpAny_bind ((PySem.W.looks_subIn kin e).here ?_)
    simp only [Bool.false_eq_true, if_false]
    refine wpAny_bind (wpAny_mono last (fun o s' z => ?_) fun _ _ e => e)
    obtain ⟨v, rfl, hq⟩ := z
    exact wpAny_pure hq
  · refine wpAny_bind (wpAny_pure ?_)
    simp only [Bool.false_eq_true, if_false]
    refine wpAny_bind (wpAny_mono last (fun o s' z => ?_) fun _ _ e => e)
    obtain ⟨v, rfl, hq⟩ := z
    exact wpAny_pure hq
/-- what is asked of a class with own __eq__ -/
structure EqC (K : PySem.W.Frag) (C f : Addr) : Prop where
  eq : PySem.W.findIn K (.ref C) "__eq__" = some (some (.ref f))
  fn : PySem.W.isFn K (.ref f) = true
  ne : PySem.W.findIn K (.ref C) "__ne__" = some (some (.builtin "object.__ne__"))
  ob : PySem.W.subIn K (.ref C) (.type "object") = some true
  li : PySem.W.subIn K (.type "list") (.ref C) = some false
  ki : PySem.W.kitOne K (.type "list") (.ref C) = some false
  tu : PySem.W.subIn K (.type "tuple") (.ref C) = some false
  kt : PySem.W.kitOne K (.type "tuple") (.ref C) = some false
/-- what stands right of ==: an instance of the same class, a list or a tuple -/
def Rhs (K : PySem.W.Frag) (H : Hp) (C : Addr) (y : V) : Prop := ∃ b, y = .ref b ∧ ((∃ dy gs, H b = some (.ins C dy gs)) ∨ (∃ xs, SqL K H b xs) ∨ ∃ xs, SqT K H b xs)
section
variable {X : Cx} {CX : CXT} {k : Nat} {f C : Addr} {fd : FuncData} {ps : List Str} {sp : Sp} {E : XK}
theorem rhs_ty {pins : List (Addr × Obj)} {σ : L2.St} {H : Hp} {s : Shared} {y : V} {u : Value} (I : Inv X pins σ H s) (c : EqC X.K C f) (h : Rhs X.K H C y) (r : RelV y u) : ∃ tb, PySem.W.Looks (model X.prog X.w) s.heap (typeOf u) tb ∧ PySem.W.notFirst X.K C tb = true := by
  obtain ⟨b, rfl, h⟩ := h
  cases r
  rcases h with ⟨dy, gs, hb⟩ | ⟨xs, hb⟩ | ⟨xs, hb⟩
  · obtain ⟨mB, J, _⟩ := ins_get I.hok hb
    obtain ⟨od, J, _⟩ := J.look
    exact ⟨_, J.type, by simp [PySem.W.notFirst]⟩
  · obtain ⟨us, _, ⟨o, n, ho, hc, _⟩, _⟩ := I.list hb
    refine ⟨.type "list", fun A Q E s' k q => wpAny_typeOf_ref (k _ _ ho) (by rw [hc]; exact q), ?_⟩
    simp only [PySem.W.notFirst, c.li]
    simp
  · obtain ⟨us, _, ⟨o, ho, hc, _⟩, _⟩ := I.tuple hb
    refine ⟨.type "tuple", fun A Q E s' k q => wpAny_typeOf_ref (k _ _ ho) (by rw [hc]; exact q), ?_⟩
    simp only [PySem.W.notFirst, c.tu]
    simp
theorem run_eq {A : Around} {pins : List (Addr × Obj)} {σ : L2.St} {H : Hp} {s : Shared} {Q : VK} {x y : V} {a : Addr} {u : Value} (F : FnOk X.prog X.w X.K X.mg X.base CX k f fd ps sp) (hr : Room k A) (fr : A.frames = X.A.frames) (hb : Binds X.K fd ps [])
    (hx : Passes CX X E) (I : Inv X pins σ H s) (ry : RelV y u) (h : sp [.ref a, y] H Q E) : wpAny (model X.prog X.w) A (call (.ref f) [.ref a, u]) (EP X pins σ Q) X.xe s := by
  have rr : Vals [V.ref a, y] [Value.ref a, u] := .cons rfl (.cons ry .nil)
  have e := I.env0
  have e0 : Env0 X.prog X.w X.K X.mg X.base A X.stack s H := ⟨by rw [fr]; exact e.frames, e.mod, e.bs, e.bsz, e.funs, e.frf, e.hok, e.bare⟩
  have bn := hb s [.ref a, u] I.kIn (by have := F.len _ _ _ _ h; simpa using this)
  rw [List.append_nil] at bn
  refine wpAny_call (codeAny_mono (F.run A X.stack s H ⟨[.ref a, u], []⟩ [.ref a, u] [.ref a, y] Q E hr e0 bn rr h) fun z s2 hz => ?_)
  match z, hz with
  | .error e, hz => exact hx pins σ H s e s2 I hz
  | .ok (.ret v), hz => exact I.after hz
def rOwn (K : PySem.W.Frag) (C : Addr) (sp : Sp) (E : XK) (no : Bool) : R2 := fun x y H Q => ∃ (a dx : Addr) (fs : List (Str × V)), x = .ref a ∧ H a = some (.ins C dx fs) ∧ Rhs K H C y ∧ sp [x, y] H (fun v H' => ∃ b, v = .bl b ∧ Q (.bl (b != no)) H') E
theorem op_own_eq (c : EqC X.K C f) (F : FnOk X.prog X.w X.K X.mg X.base CX k f fd ps sp) (hr : Room (k + 1) X.A) (hb : Binds X.K fd ps []) (hx : Passes CX X E) : OpR X (compareOp .Eq) (rOwn X.K C sp E false) := by
  intro pins s σ H x y v u Q I rx ry h
  obtain ⟨a, dx, fs, rfl, ha, hy, h⟩ := h
  cases rx
  obtain ⟨tb, lb, nf⟩ := rhs_ty I c hy ry
  obtain ⟨mA, J, _⟩ := ins_get I.hok ha
  obtain ⟨od, J, _⟩ := J.look
  obtain ⟨m, hF⟩ := I.fr
  refine PySem.W.cmp_K (op := .Eq) hr.units0 hF I.ok.mod.kin J lb nf c.eq c.fn (wpAny_mono (run_eq (x := .ref a) F (hr.mono (by omega)) rfl hb hx I ry h) (fun v s2 hv => ?_) fun _ _ z => z)
  obtain ⟨z, H2, I2, r2, b, rfl, q⟩ := hv
  cases r2
  refine ⟨.bl b, H2, I2, rfl, ?_⟩
  have e : (b != false) = b := by cases b <;> rfl
  rw [e] at q
  exact q
theorem op_own_ne (c : EqC X.K C f) (F : FnOk X.prog X.w X.K X.mg X.base CX k f fd ps sp) (hr : Room (k + 1) X.A) (hb : Binds X.K fd ps []) (hx : Passes CX X E) : OpR X (compareOp .NotEq) (rOwn X.K C sp E true) := by
  intro pins s σ H x y v u Q I rx ry h
  obtain ⟨a, dx, fs, rfl, ha, hy, h⟩ := h
  cases rx
  obtain ⟨tb, lb, nf⟩ := rhs_ty I c hy ry
  obtain ⟨mA, J, _⟩ := ins_get I.hok ha
  obtain ⟨od, J, _⟩ := J.look
  refine own_ne (by have := hr.units; omega) I.kIn J lb nf c.ne c.eq c.fn c.ob (wpAny_mono (run_eq (x := .ref a) F hr.in1 rfl hb hx I ry h) (fun v s2 hv => ?_) fun _ _ z => z)
  obtain ⟨z, H2, I2, r2, b, rfl, q⟩ := hv
  cases r2
  refine ⟨b, rfl, .bl (!b), H2, I2, rfl, ?_⟩
  have e : (b != true) = !b := by cases b <;> rfl
  rw [e] at q
  exact q
end
end My

namespace My
open PySem PySem.Spec PyProof.Rows L2
theorem nil_binds {K : PySem.W.Frag} {fd : FuncData} {ps : List Str} (h : ∃ ds, Vals [] ds ∧ Binds K fd ps ds) : Binds K fd ps [] := by
  obtain ⟨ds, v, b⟩ := h
  cases v
  exact b
def top (i : Nat) : Stmt := PySem.Challenge.pw_wholesound_k30_mixed_and_led_back.main.body.getD i (.Pass ⟨0, 0, 0, 0⟩)
abbrev s_is_whole : Stmt := top 8
abbrev N_is_whole : List Str := ["value"]
theorem sc_is_whole : FnScope N_is_whole ["value"] (defScope s_is_whole) := ⟨rfl, rfl, rfl, by decide +kernel, rfl, by decide +kernel, by decide +kernel⟩
abbrev s_is_between : Stmt := top 9
abbrev N_is_between : List Str := ["value", "low", "high"]
theorem sc_is_between : FnScope N_is_between ["value", "low", "high"] (defScope s_is_between) := ⟨rfl, rfl, rfl, by decide +kernel, rfl, by decide +kernel, by decide +kernel⟩
abbrev s_are_wholes : Stmt := top 10
abbrev N_are_wholes : List Str := ["value", "item"]
theorem sc_are_wholes : FnScope N_are_wholes ["value"] (defScope s_are_wholes) := ⟨rfl, rfl, rfl, by decide +kernel, rfl, by decide +kernel, by decide +kernel⟩
abbrev s_check_number : Stmt := top 11
abbrev N_check_number : List Str := ["number", "low", "high"]
theorem sc_check_number : FnScope N_check_number ["number", "low", "high"] (defScope s_check_number) := ⟨rfl, rfl, rfl, by decide +kernel, rfl, by decide +kernel, by decide +kernel⟩
abbrev s_is_lift : Stmt := top 14
abbrev N_is_lift : List Str := ["value", "wide"]
theorem sc_is_lift : FnScope N_is_lift ["value", "wide"] (defScope s_is_lift) := ⟨rfl, rfl, rfl, by decide +kernel, rfl, by decide +kernel, by decide +kernel⟩
abbrev s_is_step : Stmt := top 15
abbrev N_is_step : List Str := ["value", "wide", "at"]
theorem sc_is_step : FnScope N_is_step ["value", "wide"] (defScope s_is_step) := ⟨rfl, rfl, rfl, by decide +kernel, rfl, by decide +kernel, by decide +kernel⟩
abbrev s_closed : Stmt := top 16
abbrev N_closed : List Str := ["step"]
theorem sc_closed : FnScope N_closed ["step"] (defScope s_closed) := ⟨rfl, rfl, rfl, by decide +kernel, rfl, by decide +kernel, by decide +kernel⟩
abbrev s_opened : Stmt := top 17
abbrev N_opened : List Str := ["row"]
theorem sc_opened : FnScope N_opened ["row"] (defScope s_opened) := ⟨rfl, rfl, rfl, by decide +kernel, rfl, by decide +kernel, by decide +kernel⟩
abbrev s_check_mixer : Stmt := top 19
abbrev N_check_mixer : List Str := ["mixer"]
theorem sc_check_mixer : FnScope N_check_mixer ["mixer"] (defScope s_check_mixer) := ⟨rfl, rfl, rfl, by decide +kernel, rfl, by decide +kernel, by decide +kernel⟩
abbrev s_check_moment : Stmt := top 20
abbrev N_check_moment : List Str := ["mixer", "samples"]
theorem sc_check_moment : FnScope N_check_moment ["mixer", "samples"] (defScope s_check_moment) := ⟨rfl, rfl, rfl, by decide +kernel, rfl, by decide +kernel, by decide +kernel⟩
abbrev s_summed : Stmt := top 21
abbrev N_summed : List Str := ["weights", "numbers", "weight", "number"]
theorem sc_summed : FnScope N_summed ["weights", "numbers"] (defScope s_summed) := ⟨rfl, rfl, rfl, by decide +kernel, rfl, by decide +kernel, by decide +kernel⟩
abbrev s_stepped : Stmt := top 22
abbrev N_stepped : List Str := ["row", "numbers", "way", "found"]
theorem sc_stepped : FnScope N_stepped ["row", "numbers", "way"] (defScope s_stepped) := ⟨rfl, rfl, rfl, by decide +kernel, rfl, by decide +kernel, by decide +kernel⟩
abbrev s_played : Stmt := top 23
abbrev N_played : List Str := ["rows", "numbers", "found", "row"]
theorem sc_played : FnScope N_played ["rows", "numbers"] (defScope s_played) := ⟨rfl, rfl, rfl, by decide +kernel, rfl, by decide +kernel, by decide +kernel⟩
abbrev s_mixed : Stmt := top 24
abbrev N_mixed : List Str := ["mixer", "samples"]
theorem sc_mixed : FnScope N_mixed ["mixer", "samples"] (defScope s_mixed) := ⟨rfl, rfl, rfl, by decide +kernel, rfl, by decide +kernel, by decide +kernel⟩
abbrev s_unmixed : Stmt := top 25
abbrev N_unmixed : List Str := ["mixer", "samples", "found", "row"]
theorem sc_unmixed : FnScope N_unmixed ["mixer", "samples"] (defScope s_unmixed) := ⟨rfl, rfl, rfl, by decide +kernel, rfl, by decide +kernel, by decide +kernel⟩
abbrev s_law_purse : Stmt := top 27
abbrev N_law_purse : List Str := ["_law_script", "_law_at", "_law_cell"]
theorem sc_law_purse : FnScope N_law_purse ["_law_script", "_law_at"] (defScope s_law_purse) := ⟨rfl, rfl, rfl, by decide +kernel, rfl, by decide +kernel, by decide +kernel⟩
abbrev s_law_draw : Stmt := top 28
abbrev N_law_draw : List Str := ["_law_purse_here", "_law_many", "_law_number_here", "_law_digit"]
theorem sc_law_draw : FnScope N_law_draw ["_law_purse_here", "_law_many"] (defScope s_law_draw) := ⟨rfl, rfl, rfl, by decide +kernel, rfl, by decide +kernel, by decide +kernel⟩
abbrev s_law_number : Stmt := top 29
abbrev N_law_number : List Str := ["_law_purse_here", "_law_broad", "_law_number_here", "_law_turn"]
theorem sc_law_number : FnScope N_law_number ["_law_purse_here"] (defScope s_law_number) := ⟨rfl, rfl, rfl, by decide +kernel, rfl, by decide +kernel, by decide +kernel⟩
abbrev s_law_weight : Stmt := top 30
abbrev N_law_weight : List Str := ["_law_purse_here", "_law_small"]
theorem sc_law_weight : FnScope N_law_weight ["_law_purse_here"] (defScope s_law_weight) := ⟨rfl, rfl, rfl, by decide +kernel, rfl, by decide +kernel, by decide +kernel⟩
abbrev s_law_lift : Stmt := top 31
abbrev N_law_lift : List Str := ["_law_purse_here", "_law_broad", "_law_most", "_law_weights", "_law_to", "_law_shift", "_law_way"]
theorem sc_law_lift : FnScope N_law_lift ["_law_purse_here", "_law_broad", "_law_most"] (defScope s_law_lift) := ⟨rfl, rfl, rfl, by decide +kernel, rfl, by decide +kernel, by decide +kernel⟩
abbrev s_law_steps : Stmt := top 32
abbrev N_law_steps : List Str := ["_law_purse_here", "_law_broad", "_law_many", "_law_bits", "_law_turn", "_law_found", "_law_left", "_law_way", "_law_step"]
theorem sc_law_steps : FnScope N_law_steps ["_law_purse_here", "_law_broad", "_law_many", "_law_bits"] (defScope s_law_steps) := ⟨rfl, rfl, rfl, by decide +kernel, rfl, by decide +kernel, by decide +kernel⟩
abbrev s_law_copied : Stmt := top 33
abbrev N_law_copied : List Str := ["_law_steps_here", "_law_step"]
theorem sc_law_copied : FnScope N_law_copied ["_law_steps_here"] (defScope s_law_copied) := ⟨rfl, rfl, rfl, by decide +kernel, rfl, by decide +kernel, by decide +kernel⟩
abbrev s_law_stepped : Stmt := top 34
abbrev N_law_stepped : List Str := ["_law_step", "_law_row", "_law_way", "_law_found", "_law_total", "_law_at"]
theorem sc_law_stepped : FnScope N_law_stepped ["_law_step", "_law_row", "_law_way"] (defScope s_law_stepped) := ⟨rfl, rfl, rfl, by decide +kernel, rfl, by decide +kernel, by decide +kernel⟩
abbrev s_law_played : Stmt := top 35
abbrev N_law_played : List Str := ["_law_steps_here", "_law_row", "_law_found", "_law_step"]
theorem sc_law_played : FnScope N_law_played ["_law_steps_here", "_law_row"] (defScope s_law_played) := ⟨rfl, rfl, rfl, by decide +kernel, rfl, by decide +kernel, by decide +kernel⟩
abbrev s_law_led_back : Stmt := top 36
abbrev N_law_led_back : List Str := ["_law_steps_here", "_law_row", "_law_found", "_law_step"]
theorem sc_law_led_back : FnScope N_law_led_back ["_law_steps_here", "_law_row"] (defScope s_law_led_back) := ⟨rfl, rfl, rfl, by decide +kernel, rfl, by decide +kernel, by decide +kernel⟩
abbrev s_law_whole : Stmt := top 37
abbrev N_law_whole : List Str := ["_law_value"]
theorem sc_law_whole : FnScope N_law_whole ["_law_value"] (defScope s_law_whole) := ⟨rfl, rfl, rfl, by decide +kernel, rfl, by decide +kernel, by decide +kernel⟩
abbrev s_law_numbers_right : Stmt := top 38
abbrev N_law_numbers_right : List Str := ["_law_row", "_law_broad", "_law_one"]
theorem sc_law_numbers_right : FnScope N_law_numbers_right ["_law_row", "_law_broad"] (defScope s_law_numbers_right) := ⟨rfl, rfl, rfl, by decide +kernel, rfl, by decide +kernel, by decide +kernel⟩
abbrev s_law_spoil : Stmt := top 39
abbrev N_law_spoil : List Str := ["_law_steps_here", "_law_step"]
theorem sc_law_spoil : FnScope N_law_spoil ["_law_steps_here"] (defScope s_law_spoil) := ⟨rfl, rfl, rfl, by decide +kernel, rfl, by decide +kernel, by decide +kernel⟩
abbrev s_law_kept : Stmt := top 40
abbrev N_law_kept : List Str := ["_law_mixer", "_law_wide", "_law_steps_here", "_law_told"]
theorem sc_law_kept : FnScope N_law_kept ["_law_mixer", "_law_wide", "_law_steps_here"] (defScope s_law_kept) := ⟨rfl, rfl, rfl, by decide +kernel, rfl, by decide +kernel, by decide +kernel⟩
abbrev s_law : Stmt := top 41
abbrev N_law : List Str := ["_law_script", "_law_at", "_law_side", "_law_purse_here", "_law_wide", "_law_steps_here", "_law_handed", "_law_turn", "_law_row", "_law_mixer", "_law_rows", "_law_passed", "_law_told", "_law_back", "_law_way"]
theorem sc_law : FnScope N_law ["_law_script"] (defScope s_law) := ⟨rfl, rfl, rfl, by decide +kernel, rfl, by decide +kernel, by decide +kernel⟩
abbrev s_Mixer___init__ : Stmt := inClass (top 18) 0
abbrev N_Mixer___init__ : List Str := ["self", "wide", "steps", "item"]
theorem sc_Mixer___init__ : FnScope N_Mixer___init__ ["self", "wide", "steps"] (defScope s_Mixer___init__) := ⟨rfl, rfl, rfl, by decide +kernel, rfl, by decide +kernel, by decide +kernel⟩
abbrev s_Mixer_wide : Stmt := inClass (top 18) 1
abbrev N_Mixer_wide : List Str := ["self"]
theorem sc_Mixer_wide : FnScope N_Mixer_wide ["self"] (defScope s_Mixer_wide) := ⟨rfl, rfl, rfl, by decide +kernel, rfl, by decide +kernel, by decide +kernel⟩
abbrev s_Mixer_steps : Stmt := inClass (top 18) 2
abbrev N_Mixer_steps : List Str := ["self", "row"]
theorem sc_Mixer_steps : FnScope N_Mixer_steps ["self"] (defScope s_Mixer_steps) := ⟨rfl, rfl, rfl, by decide +kernel, rfl, by decide +kernel, by decide +kernel⟩
abbrev s_Mixer___eq__ : Stmt := inClass (top 18) 3
abbrev N_Mixer___eq__ : List Str := ["self", "other"]
theorem sc_Mixer___eq__ : FnScope N_Mixer___eq__ ["self", "other"] (defScope s_Mixer___eq__) := ⟨rfl, rfl, rfl, by decide +kernel, rfl, by decide +kernel, by decide +kernel⟩
/-- what the top has left -/
structure Top (K : PySem.W.Frag) (mg : Str → Option Value) where
  C_Mixer : Addr
  gc_Mixer : mg "Mixer" = some (.ref C_Mixer)
  cl_Mixer : Cls K C_Mixer
  ic_Mixer : C8.InsC K C_Mixer
  f_Mixer___eq__ : Addr
  ec_Mixer : EqC K C_Mixer f_Mixer___eq__
  na_Mixer_many : NoAttr K C_Mixer "many"
  na_Mixer_rows : NoAttr K C_Mixer "rows"
  f_is_whole : Addr
  fd_is_whole : FuncData
  F_is_whole : FunD K "is_whole" "is_whole" (defArgs s_is_whole) (defBody s_is_whole) (defScope s_is_whole) [] [] f_is_whole fd_is_whole
  b_is_whole : Binds K fd_is_whole ["value"] []
  g_is_whole : mg "is_whole" = some (.ref f_is_whole)
  f_is_between : Addr
  fd_is_between : FuncData
  F_is_between : FunD K "is_between" "is_between" (defArgs s_is_between) (defBody s_is_between) (defScope s_is_between) [] [] f_is_between fd_is_between
  b_is_between : Binds K fd_is_between ["value", "low", "high"] []
  g_is_between : mg "is_between" = some (.ref f_is_between)
  f_are_wholes : Addr
  fd_are_wholes : FuncData
  F_are_wholes : FunD K "are_wholes" "are_wholes" (defArgs s_are_wholes) (defBody s_are_wholes) (defScope s_are_wholes) [] [] f_are_wholes fd_are_wholes
  b_are_wholes : Binds K fd_are_wholes ["value"] []
  g_are_wholes : mg "are_wholes" = some (.ref f_are_wholes)
  f_check_number : Addr
  fd_check_number : FuncData
  F_check_number : FunD K "check_number" "check_number" (defArgs s_check_number) (defBody s_check_number) (defScope s_check_number) [] [] f_check_number fd_check_number
  b_check_number : Binds K fd_check_number ["number", "low", "high"] []
  g_check_number : mg "check_number" = some (.ref f_check_number)
  f_is_lift : Addr
  fd_is_lift : FuncData
  F_is_lift : FunD K "is_lift" "is_lift" (defArgs s_is_lift) (defBody s_is_lift) (defScope s_is_lift) [] [] f_is_lift fd_is_lift
  b_is_lift : Binds K fd_is_lift ["value", "wide"] []
  g_is_lift : mg "is_lift" = some (.ref f_is_lift)
  f_is_step : Addr
  fd_is_step : FuncData
  F_is_step : FunD K "is_step" "is_step" (defArgs s_is_step) (defBody s_is_step) (defScope s_is_step) [] [] f_is_step fd_is_step
  b_is_step : Binds K fd_is_step ["value", "wide"] []
  g_is_step : mg "is_step" = some (.ref f_is_step)
  f_closed : Addr
  fd_closed : FuncData
  F_closed : FunD K "closed" "closed" (defArgs s_closed) (defBody s_closed) (defScope s_closed) [] [] f_closed fd_closed
  b_closed : Binds K fd_closed ["step"] []
  g_closed : mg "closed" = some (.ref f_closed)
  f_opened : Addr
  fd_opened : FuncData
  F_opened : FunD K "opened" "opened" (defArgs s_opened) (defBody s_opened) (defScope s_opened) [] [] f_opened fd_opened
  b_opened : Binds K fd_opened ["row"] []
  g_opened : mg "opened" = some (.ref f_opened)
  f_check_mixer : Addr
  fd_check_mixer : FuncData
  F_check_mixer : FunD K "check_mixer" "check_mixer" (defArgs s_check_mixer) (defBody s_check_mixer) (defScope s_check_mixer) [] [] f_check_mixer fd_check_mixer
  b_check_mixer : Binds K fd_check_mixer ["mixer"] []
  g_check_mixer : mg "check_mixer" = some (.ref f_check_mixer)
  f_check_moment : Addr
  fd_check_moment : FuncData
  F_check_moment : FunD K "check_moment" "check_moment" (defArgs s_check_moment) (defBody s_check_moment) (defScope s_check_moment) [] [] f_check_moment fd_check_moment
  b_check_moment : Binds K fd_check_moment ["mixer", "samples"] []
  g_check_moment : mg "check_moment" = some (.ref f_check_moment)
  f_summed : Addr
  fd_summed : FuncData
  F_summed : FunD K "summed" "summed" (defArgs s_summed) (defBody s_summed) (defScope s_summed) [] [] f_summed fd_summed
  b_summed : Binds K fd_summed ["weights", "numbers"] []
  g_summed : mg "summed" = some (.ref f_summed)
  f_stepped : Addr
  fd_stepped : FuncData
  F_stepped : FunD K "stepped" "stepped" (defArgs s_stepped) (defBody s_stepped) (defScope s_stepped) [.int 1] [] f_stepped fd_stepped
  b_stepped : Binds K fd_stepped ["row", "numbers", "way"] []
  g_stepped : mg "stepped" = some (.ref f_stepped)
  e0_stepped : List Value
  v0_stepped : Vals [.int 1] e0_stepped
  b0_stepped : Binds K fd_stepped ["row", "numbers", "way"] e0_stepped
  f_played : Addr
  fd_played : FuncData
  F_played : FunD K "played" "played" (defArgs s_played) (defBody s_played) (defScope s_played) [] [] f_played fd_played
  b_played : Binds K fd_played ["rows", "numbers"] []
  g_played : mg "played" = some (.ref f_played)
  f_mixed : Addr
  fd_mixed : FuncData
  F_mixed : FunD K "mixed" "mixed" (defArgs s_mixed) (defBody s_mixed) (defScope s_mixed) [] [] f_mixed fd_mixed
  b_mixed : Binds K fd_mixed ["mixer", "samples"] []
  g_mixed : mg "mixed" = some (.ref f_mixed)
  f_unmixed : Addr
  fd_unmixed : FuncData
  F_unmixed : FunD K "unmixed" "unmixed" (defArgs s_unmixed) (defBody s_unmixed) (defScope s_unmixed) [] [] f_unmixed fd_unmixed
  b_unmixed : Binds K fd_unmixed ["mixer", "samples"] []
  g_unmixed : mg "unmixed" = some (.ref f_unmixed)
  f_law_purse : Addr
  fd_law_purse : FuncData
  F_law_purse : FunD K "_law_purse" "_law_purse" (defArgs s_law_purse) (defBody s_law_purse) (defScope s_law_purse) [] [] f_law_purse fd_law_purse
  b_law_purse : Binds K fd_law_purse ["_law_script", "_law_at"] []
  g_law_purse : mg "_law_purse" = some (.ref f_law_purse)
  f_law_draw : Addr
  fd_law_draw : FuncData
  F_law_draw : FunD K "_law_draw" "_law_draw" (defArgs s_law_draw) (defBody s_law_draw) (defScope s_law_draw) [] [] f_law_draw fd_law_draw
  b_law_draw : Binds K fd_law_draw ["_law_purse_here", "_law_many"] []
  g_law_draw : mg "_law_draw" = some (.ref f_law_draw)
  f_law_number : Addr
  fd_law_number : FuncData
  F_law_number : FunD K "_law_number" "_law_number" (defArgs s_law_number) (defBody s_law_number) (defScope s_law_number) [] [] f_law_number fd_law_number
  b_law_number : Binds K fd_law_number ["_law_purse_here"] []
  g_law_number : mg "_law_number" = some (.ref f_law_number)
  f_law_weight : Addr
  fd_law_weight : FuncData
  F_law_weight : FunD K "_law_weight" "_law_weight" (defArgs s_law_weight) (defBody s_law_weight) (defScope s_law_weight) [] [] f_law_weight fd_law_weight
  b_law_weight : Binds K fd_law_weight ["_law_purse_here"] []
  g_law_weight : mg "_law_weight" = some (.ref f_law_weight)
  f_law_lift : Addr
  fd_law_lift : FuncData
  F_law_lift : FunD K "_law_lift" "_law_lift" (defArgs s_law_lift) (defBody s_law_lift) (defScope s_law_lift) [] [] f_law_lift fd_law_lift
  b_law_lift : Binds K fd_law_lift ["_law_purse_here", "_law_broad", "_law_most"] []
  g_law_lift : mg "_law_lift" = some (.ref f_law_lift)
  f_law_steps : Addr
  fd_law_steps : FuncData
  F_law_steps : FunD K "_law_steps" "_law_steps" (defArgs s_law_steps) (defBody s_law_steps) (defScope s_law_steps) [] [] f_law_steps fd_law_steps
  b_law_steps : Binds K fd_law_steps ["_law_purse_here", "_law_broad", "_law_many", "_law_bits"] []
  g_law_steps : mg "_law_steps" = some (.ref f_law_steps)
  f_law_copied : Addr
  fd_law_copied : FuncData
  F_law_copied : FunD K "_law_copied" "_law_copied" (defArgs s_law_copied) (defBody s_law_copied) (defScope s_law_copied) [] [] f_law_copied fd_law_copied
  b_law_copied : Binds K fd_law_copied ["_law_steps_here"] []
  g_law_copied : mg "_law_copied" = some (.ref f_law_copied)
  f_law_stepped : Addr
  fd_law_stepped : FuncData
  F_law_stepped : FunD K "_law_stepped" "_law_stepped" (defArgs s_law_stepped) (defBody s_law_stepped) (defScope s_law_stepped) [] [] f_law_stepped fd_law_stepped
  b_law_stepped : Binds K fd_law_stepped ["_law_step", "_law_row", "_law_way"] []
  g_law_stepped : mg "_law_stepped" = some (.ref f_law_stepped)
  f_law_played : Addr
  fd_law_played : FuncData
  F_law_played : FunD K "_law_played" "_law_played" (defArgs s_law_played) (defBody s_law_played) (defScope s_law_played) [] [] f_law_played fd_law_played
  b_law_played : Binds K fd_law_played ["_law_steps_here", "_law_row"] []
  g_law_played : mg "_law_played" = some (.ref f_law_played)
  f_law_led_back : Addr
  fd_law_led_back : FuncData
  F_law_led_back : FunD K "_law_led_back" "_law_led_back" (defArgs s_law_led_back) (defBody s_law_led_back) (defScope s_law_led_back) [] [] f_law_led_back fd_law_led_back
  b_law_led_back : Binds K fd_law_led_back ["_law_steps_here", "_law_row"] []
  g_law_led_back : mg "_law_led_back" = some (.ref f_law_led_back)
  f_law_whole : Addr
  fd_law_whole : FuncData
  F_law_whole : FunD K "_law_whole" "_law_whole" (defArgs s_law_whole) (defBody s_law_whole) (defScope s_law_whole) [] [] f_law_whole fd_law_whole
  b_law_whole : Binds K fd_law_whole ["_law_value"] []
  g_law_whole : mg "_law_whole" = some (.ref f_law_whole)
  f_law_numbers_right : Addr
  fd_law_numbers_right : FuncData
  F_law_numbers_right : FunD K "_law_numbers_right" "_law_numbers_right" (defArgs s_law_numbers_right) (defBody s_law_numbers_right) (defScope s_law_numbers_right) [] [] f_law_numbers_right fd_law_numbers_right
  b_law_numbers_right : Binds K fd_law_numbers_right ["_law_row", "_law_broad"] []
  g_law_numbers_right : mg "_law_numbers_right" = some (.ref f_law_numbers_right)
  f_law_spoil : Addr
  fd_law_spoil : FuncData
  F_law_spoil : FunD K "_law_spoil" "_law_spoil" (defArgs s_law_spoil) (defBody s_law_spoil) (defScope s_law_spoil) [] [] f_law_spoil fd_law_spoil
  b_law_spoil : Binds K fd_law_spoil ["_law_steps_here"] []
  g_law_spoil : mg "_law_spoil" = some (.ref f_law_spoil)
  f_law_kept : Addr
  fd_law_kept : FuncData
  F_law_kept : FunD K "_law_kept" "_law_kept" (defArgs s_law_kept) (defBody s_law_kept) (defScope s_law_kept) [] [] f_law_kept fd_law_kept
  b_law_kept : Binds K fd_law_kept ["_law_mixer", "_law_wide", "_law_steps_here"] []
  g_law_kept : mg "_law_kept" = some (.ref f_law_kept)
  f_law : Addr
  fd_law : FuncData
  F_law : FunD K "law" "law" (defArgs s_law) (defBody s_law) (defScope s_law) [] [] f_law fd_law
  b_law : Binds K fd_law ["_law_script"] []
  g_law : mg "law" = some (.ref f_law)
  f_Mixer___init__ : Addr
  fd_Mixer___init__ : FuncData
  F_Mixer___init__ : FunD K "__init__" "Mixer.__init__" (defArgs s_Mixer___init__) (defBody s_Mixer___init__) (defScope s_Mixer___init__) [] [] f_Mixer___init__ fd_Mixer___init__
  b_Mixer___init__ : Binds K fd_Mixer___init__ ["self", "wide", "steps"] []
  me_Mixer___init__ : Meth K C_Mixer "__init__" f_Mixer___init__
  mk_Mixer : Mk K C_Mixer f_Mixer___init__
  f_Mixer_wide : Addr
  fd_Mixer_wide : FuncData
  F_Mixer_wide : FunD K "wide" "Mixer.wide" (defArgs s_Mixer_wide) (defBody s_Mixer_wide) (defScope s_Mixer_wide) [] [] f_Mixer_wide fd_Mixer_wide
  b_Mixer_wide : Binds K fd_Mixer_wide ["self"] []
  me_Mixer_wide : Meth K C_Mixer "wide" f_Mixer_wide
  f_Mixer_steps : Addr
  fd_Mixer_steps : FuncData
  F_Mixer_steps : FunD K "steps" "Mixer.steps" (defArgs s_Mixer_steps) (defBody s_Mixer_steps) (defScope s_Mixer_steps) [] [] f_Mixer_steps fd_Mixer_steps
  b_Mixer_steps : Binds K fd_Mixer_steps ["self"] []
  me_Mixer_steps : Meth K C_Mixer "steps" f_Mixer_steps
  fd_Mixer___eq__ : FuncData
  F_Mixer___eq__ : FunD K "__eq__" "Mixer.__eq__" (defArgs s_Mixer___eq__) (defBody s_Mixer___eq__) (defScope s_Mixer___eq__) [] [] f_Mixer___eq__ fd_Mixer___eq__
  b_Mixer___eq__ : Binds K fd_Mixer___eq__ ["self", "other"] []
  me_Mixer___eq__ : Meth K C_Mixer "__eq__" f_Mixer___eq__
  n_len : mg "len" = none
  n_sum : mg "sum" = none
  n_min : mg "min" = none
  n_int : mg "int" = none
  n_bool : mg "bool" = none
  n_list : mg "list" = none
  n_tuple : mg "tuple" = none
  n_range : mg "range" = none
  n_isinstance : mg "isinstance" = none
  n_zip : mg "zip" = none
  t_MOST_WAYS : Tok
  m_MOST_WAYS : mg "MOST_WAYS" = some (.int 4 t_MOST_WAYS)
def d_is_whole : He.DefD := ⟨("is_whole", none), "is_whole", "is_whole", defArgs s_is_whole, defBody s_is_whole, defScope s_is_whole, [], []⟩
def d_is_between : He.DefD := ⟨("is_between", none), "is_between", "is_between", defArgs s_is_between, defBody s_is_between, defScope s_is_between, [], []⟩
def d_are_wholes : He.DefD := ⟨("are_wholes", none), "are_wholes", "are_wholes", defArgs s_are_wholes, defBody s_are_wholes, defScope s_are_wholes, [], []⟩
def d_check_number : He.DefD := ⟨("check_number", none), "check_number", "check_number", defArgs s_check_number, defBody s_check_number, defScope s_check_number, [], []⟩
def d_is_lift : He.DefD := ⟨("is_lift", none), "is_lift", "is_lift", defArgs s_is_lift, defBody s_is_lift, defScope s_is_lift, [], []⟩
def d_is_step : He.DefD := ⟨("is_step", none), "is_step", "is_step", defArgs s_is_step, defBody s_is_step, defScope s_is_step, [], []⟩
def d_closed : He.DefD := ⟨("closed", none), "closed", "closed", defArgs s_closed, defBody s_closed, defScope s_closed, [], []⟩
def d_opened : He.DefD := ⟨("opened", none), "opened", "opened", defArgs s_opened, defBody s_opened, defScope s_opened, [], []⟩
def d_check_mixer : He.DefD := ⟨("check_mixer", none), "check_mixer", "check_mixer", defArgs s_check_mixer, defBody s_check_mixer, defScope s_check_mixer, [], []⟩
def d_check_moment : He.DefD := ⟨("check_moment", none), "check_moment", "check_moment", defArgs s_check_moment, defBody s_check_moment, defScope s_check_moment, [], []⟩
def d_summed : He.DefD := ⟨("summed", none), "summed", "summed", defArgs s_summed, defBody s_summed, defScope s_summed, [], []⟩
def d_stepped : He.DefD := ⟨("stepped", none), "stepped", "stepped", defArgs s_stepped, defBody s_stepped, defScope s_stepped, [.int 1], []⟩
def d_played : He.DefD := ⟨("played", none), "played", "played", defArgs s_played, defBody s_played, defScope s_played, [], []⟩
def d_mixed : He.DefD := ⟨("mixed", none), "mixed", "mixed", defArgs s_mixed, defBody s_mixed, defScope s_mixed, [], []⟩
def d_unmixed : He.DefD := ⟨("unmixed", none), "unmixed", "unmixed", defArgs s_unmixed, defBody s_unmixed, defScope s_unmixed, [], []⟩
def d_law_purse : He.DefD := ⟨("_law_purse", none), "_law_purse", "_law_purse", defArgs s_law_purse, defBody s_law_purse, defScope s_law_purse, [], []⟩
def d_law_draw : He.DefD := ⟨("_law_draw", none), "_law_draw", "_law_draw", defArgs s_law_draw, defBody s_law_draw, defScope s_law_draw, [], []⟩
def d_law_number : He.DefD := ⟨("_law_number", none), "_law_number", "_law_number", defArgs s_law_number, defBody s_law_number, defScope s_law_number, [], []⟩
def d_law_weight : He.DefD := ⟨("_law_weight", none), "_law_weight", "_law_weight", defArgs s_law_weight, defBody s_law_weight, defScope s_law_weight, [], []⟩
def d_law_lift : He.DefD := ⟨("_law_lift", none), "_law_lift", "_law_lift", defArgs s_law_lift, defBody s_law_lift, defScope s_law_lift, [], []⟩
def d_law_steps : He.DefD := ⟨("_law_steps", none), "_law_steps", "_law_steps", defArgs s_law_steps, defBody s_law_steps, defScope s_law_steps, [], []⟩
def d_law_copied : He.DefD := ⟨("_law_copied", none), "_law_copied", "_law_copied", defArgs s_law_copied, defBody s_law_copied, defScope s_law_copied, [], []⟩
def d_law_stepped : He.DefD := ⟨("_law_stepped", none), "_law_stepped", "_law_stepped", defArgs s_law_stepped, defBody s_law_stepped, defScope s_law_stepped, [], []⟩
def d_law_played : He.DefD := ⟨("_law_played", none), "_law_played", "_law_played", defArgs s_law_played, defBody s_law_played, defScope s_law_played, [], []⟩
def d_law_led_back : He.DefD := ⟨("_law_led_back", none), "_law_led_back", "_law_led_back", defArgs s_law_led_back, defBody s_law_led_back, defScope s_law_led_back, [], []⟩
def d_law_whole : He.DefD := ⟨("_law_whole", none), "_law_whole", "_law_whole", defArgs s_law_whole, defBody s_law_whole, defScope s_law_whole, [], []⟩
def d_law_numbers_right : He.DefD := ⟨("_law_numbers_right", none), "_law_numbers_right", "_law_numbers_right", defArgs s_law_numbers_right, defBody s_law_numbers_right, defScope s_law_numbers_right, [], []⟩
def d_law_spoil : He.DefD := ⟨("_law_spoil", none), "_law_spoil", "_law_spoil", defArgs s_law_spoil, defBody s_law_spoil, defScope s_law_spoil, [], []⟩
def d_law_kept : He.DefD := ⟨("_law_kept", none), "_law_kept", "_law_kept", defArgs s_law_kept, defBody s_law_kept, defScope s_law_kept, [], []⟩
def d_law : He.DefD := ⟨("law", none), "law", "law", defArgs s_law, defBody s_law, defScope s_law, [], []⟩
def d_Mixer___init__ : He.DefD := ⟨("Mixer", some "__init__"), "__init__", "Mixer.__init__", defArgs s_Mixer___init__, defBody s_Mixer___init__, defScope s_Mixer___init__, [], []⟩
def d_Mixer_wide : He.DefD := ⟨("Mixer", some "wide"), "wide", "Mixer.wide", defArgs s_Mixer_wide, defBody s_Mixer_wide, defScope s_Mixer_wide, [], []⟩
def d_Mixer_steps : He.DefD := ⟨("Mixer", some "steps"), "steps", "Mixer.steps", defArgs s_Mixer_steps, defBody s_Mixer_steps, defScope s_Mixer_steps, [], []⟩
def d_Mixer___eq__ : He.DefD := ⟨("Mixer", some "__eq__"), "__eq__", "Mixer.__eq__", defArgs s_Mixer___eq__, defBody s_Mixer___eq__, defScope s_Mixer___eq__, [], []⟩
def fn : List He.DefD := [d_is_whole, d_is_between, d_are_wholes, d_check_number, d_is_lift, d_is_step, d_closed, d_opened, d_check_mixer, d_check_moment, d_summed, d_stepped, d_played, d_mixed, d_unmixed, d_law_purse, d_law_draw, d_law_number, d_law_weight, d_law_lift, d_law_steps, d_law_copied, d_law_stepped, d_law_played, d_law_led_back, d_law_whole, d_law_numbers_right, d_law_spoil, d_law_kept, d_law, d_Mixer___init__, d_Mixer_wide, d_Mixer_steps, d_Mixer___eq__]
def fa0 : List He.Fa := [.glo "is_whole", .glo "is_between", .glo "are_wholes", .glo "check_number", .glo "is_lift", .glo "is_step", .glo "closed", .glo "opened", .glo "check_mixer", .glo "check_moment", .glo "summed", .glo "stepped", .glo "played", .glo "mixed", .glo "unmixed", .glo "_law_purse", .glo "_law_draw", .glo "_law_number", .glo "_law_weight", .glo "_law_lift", .glo "_law_steps", .glo "_law_copied", .glo "_law_stepped", .glo "_law_played", .glo "_law_led_back", .glo "_law_whole", .glo "_law_numbers_right", .glo "_law_spoil", .glo "_law_kept", .glo "law"]
def fa1 : List He.Fa := [.free "len", .free "sum", .free "min", .free "int", .free "bool", .free "list", .free "tuple", .free "range", .free "isinstance", .free "zip", .int "MOST_WAYS" 4, .glo "Mixer", .cls "Mixer", .noat "Mixer" "many", .noat "Mixer" "rows", .mkr "Mixer", .meth "Mixer" "__init__", .meth "Mixer" "wide", .meth "Mixer" "steps", .meth "Mixer" "__eq__"]
def fa : List He.Fa := fa0 ++ fa1
/-- isinstance of an own class -/
def insB (K : PySem.W.Frag) (x : Str) : Bool := decide (PySem.W.findIn K (.ref (He.ga K x)) "__class__" = some (some (.builtin "object.__class__"))) && (decide (PySem.W.specialIn K (.builtin "object.__class__") "__get__" = some (some (.builtin "getset_descriptor.__get__"))) && (decide (PySem.W.takesIn K (.builtin "object.__class__") = some true) && (decide (PySem.W.mroIn K (He.ga K x) (.type "object") = some true) && decide (PySem.W.kitOne K (.ref (He.ga K x)) (.ref (He.ga K x)) = some true))))
theorem insB_ok {K : PySem.W.Frag} {x : Str} (cl : Cls K (He.ga K x)) (h : insB K x = true) : C8.InsC K (He.ga K x) := by
  unfold insB at h
  simp only [Bool.and_eq_true, decide_eq_true_eq] at h
  exact ⟨cl, h.1, h.2.1, h.2.2.1, h.2.2.2.1, h.2.2.2.2⟩
def eqB (K : PySem.W.Frag) (x : Str) : Bool := decide (PySem.W.findIn K (.ref (He.ga K x)) "__ne__" = some (some (.builtin "object.__ne__"))) && (decide (PySem.W.subIn K (.ref (He.ga K x)) (.type "object") = some true) && (decide (PySem.W.subIn K (.type "list") (.ref (He.ga K x)) = some false) && (decide (PySem.W.kitOne K (.type "list") (.ref (He.ga K x)) = some false) && (decide (PySem.W.subIn K (.type "tuple") (.ref (He.ga K x)) = some false) && decide (PySem.W.kitOne K (.type "tuple") (.ref (He.ga K x)) = some false)))))
theorem eqB_ok {K : PySem.W.Frag} {x : Str} {f : Addr} (m : Meth K (He.ga K x) "__eq__" f) (h : eqB K x = true) : EqC K (He.ga K x) f := by
  unfold eqB at h
  simp only [Bool.and_eq_true, decide_eq_true_eq] at h
  exact ⟨m.at_, m.fn, h.1, h.2.1, h.2.2.1, h.2.2.2.1, h.2.2.2.2.1, h.2.2.2.2.2⟩
def eqs : List Str := ["Mixer"]
def own : List Str := ["Mixer"]
def ex (K : PySem.W.Frag) : Bool := (own.all fun x => insB K x) && eqs.all fun x => eqB K x
abbrev R : PySem.W.OpenRow := PySem.W.OpenLaw.row PySem.Challenge.rw_wholesound_k30_mixed_and_led_back
abbrev Al : Type := He.AlD × Bool
def obsG (g : Addr → Option Obj) : Al := (He.obsDG 5 fa fn g, ex (He.frG g (He.asD g 5)))
def Says (K : PySem.W.Frag) : Prop := He.SaysD fa fn K ∧ ex K = true
def hk : PySem.W.Hook where
  α := Al
  obs := fun s => obsG s.heap.get?
  val := fun _ => (He.valD fn, true)
  says := fun _ h => ∃ K : PySem.W.Frag, K.In h ∧ Says K
  of := fun _ _ e => ⟨_, He.frG_in, congrArg Prod.fst e, congrArg Prod.snd e⟩
  keeps := fun _ _ _ ⟨K, hK, c⟩ k => ⟨K, PySem.W.Frag.In.keeps hK k, c⟩
def ob (s : PySem.W.SharedT) : Al := obsG (HandSHeadRun.getT s)
theorem ob_eq (s : PySem.W.SharedT) : ob s = hk.obs s.abs := by
  have e : HandSHeadRun.getT s = s.abs.heap.get? := funext (HandSHeadRun.getT_eq s)
  show obsG (HandSHeadRun.getT s) = obsG s.abs.heap.get?
  rw [e]
def loose0 : List PySem.Str := ["SoundError", "InvalidNumber", "InvalidList", "InvalidItem", "InvalidMixer", "InvalidSamples", "is_whole", "is_between", "are_wholes", "check_number", "MOST_WAYS", "is_lift", "is_step", "closed", "opened", "Mixer", "check_mixer", "check_moment", "summed", "stepped", "played", "mixed", "unmixed", "_law_purse", "_law_draw", "_law_number", "_law_weight", "_law_lift", "_law_steps", "_law_copied"]
def loose1 : List PySem.Str := ["_law_stepped", "_law_played", "_law_led_back", "_law_whole", "_law_numbers_right", "_law_spoil", "_law_kept"]
abbrev loose : List PySem.Str := loose0 ++ loose1
theorem run (w : World) : HandSHeadRun.RunEq R (PySem.W.view R.prog [41]) hk ob 8000 loose w := by
  intro os
  kernel_rfl
noncomputable def top_mk {K : PySem.W.Frag} {h : Heap} {mg : Str → Option Value} (X : K.In h) (G : h.Ns mainGlobals mg) (c : Says K) : Top K mg :=
  let p0 := c.1.def_ 0 (d := d_is_whole) rfl
  let p1 := c.1.def_ 1 (d := d_is_between) rfl
  let p2 := c.1.def_ 2 (d := d_are_wholes) rfl
  let p3 := c.1.def_ 3 (d := d_check_number) rfl
  let p4 := c.1.def_ 4 (d := d_is_lift) rfl
  let p5 := c.1.def_ 5 (d := d_is_step) rfl
  let p6 := c.1.def_ 6 (d := d_closed) rfl
  let p7 := c.1.def_ 7 (d := d_opened) rfl
  let p8 := c.1.def_ 8 (d := d_check_mixer) rfl
  let p9 := c.1.def_ 9 (d := d_check_moment) rfl
  let p10 := c.1.def_ 10 (d := d_summed) rfl
  let p11 := c.1.def_ 11 (d := d_stepped) rfl
  let p12 := c.1.def_ 12 (d := d_played) rfl
  let p13 := c.1.def_ 13 (d := d_mixed) rfl
  let p14 := c.1.def_ 14 (d := d_unmixed) rfl
  let p15 := c.1.def_ 15 (d := d_law_purse) rfl
  let p16 := c.1.def_ 16 (d := d_law_draw) rfl
  let p17 := c.1.def_ 17 (d := d_law_number) rfl
  let p18 := c.1.def_ 18 (d := d_law_weight) rfl
  let p19 := c.1.def_ 19 (d := d_law_lift) rfl
  let p20 := c.1.def_ 20 (d := d_law_steps) rfl
  let p21 := c.1.def_ 21 (d := d_law_copied) rfl
  let p22 := c.1.def_ 22 (d := d_law_stepped) rfl
  let p23 := c.1.def_ 23 (d := d_law_played) rfl
  let p24 := c.1.def_ 24 (d := d_law_led_back) rfl
  let p25 := c.1.def_ 25 (d := d_law_whole) rfl
  let p26 := c.1.def_ 26 (d := d_law_numbers_right) rfl
  let p27 := c.1.def_ 27 (d := d_law_spoil) rfl
  let p28 := c.1.def_ 28 (d := d_law_kept) rfl
  let p29 := c.1.def_ 29 (d := d_law) rfl
  let p30 := c.1.def_ 30 (d := d_Mixer___init__) rfl
  let p31 := c.1.def_ 31 (d := d_Mixer_wide) rfl
  let p32 := c.1.def_ 32 (d := d_Mixer_steps) rfl
  let p33 := c.1.def_ 33 (d := d_Mixer___eq__) rfl
  let q0 := He.int_ok X G (c.1.fact 40 (f := .int "MOST_WAYS" 4) rfl)
  { C_Mixer := _, gc_Mixer := He.glo_ok X G (c.1.fact 41 (f := .glo "Mixer") rfl), cl_Mixer := He.cls_ok (c.1.fact 42 (f := .cls "Mixer") rfl), ic_Mixer := insB_ok (x := "Mixer") (He.cls_ok (c.1.fact 42 (f := .cls "Mixer") rfl)) (List.all_eq_true.mp (Bool.and_eq_true_iff.mp c.2).1 "Mixer" (by decide +kernel)),
    ec_Mixer := eqB_ok (x := "Mixer") (He.meth_ok (c.1.fact 49 (f := .meth "Mixer" "__eq__") rfl)) (List.all_eq_true.mp (Bool.and_eq_true_iff.mp c.2).2 "Mixer" (by decide +kernel)),
    na_Mixer_many := He.noat_ok (c.1.fact 43 (f := .noat "Mixer" "many") rfl),
    na_Mixer_rows := He.noat_ok (c.1.fact 44 (f := .noat "Mixer" "rows") rfl),
    f_is_whole := _, fd_is_whole := p0.choose, F_is_whole := p0.choose_spec, b_is_whole := p0.choose_spec.bindsN fun _ _ _ _ _ _ us hl => match us, hl with | [_], _ => rfl, g_is_whole := He.glo_ok X G (c.1.fact 0 (f := .glo "is_whole") rfl),
    f_is_between := _, fd_is_between := p1.choose, F_is_between := p1.choose_spec, b_is_between := p1.choose_spec.bindsN fun _ _ _ _ _ _ us hl => match us, hl with | [_, _, _], _ => rfl, g_is_between := He.glo_ok X G (c.1.fact 1 (f := .glo "is_between") rfl),
    f_are_wholes := _, fd_are_wholes := p2.choose, F_are_wholes := p2.choose_spec, b_are_wholes := p2.choose_spec.bindsN fun _ _ _ _ _ _ us hl => match us, hl with | [_], _ => rfl, g_are_wholes := He.glo_ok X G (c.1.fact 2 (f := .glo "are_wholes") rfl),
    f_check_number := _, fd_check_number := p3.choose, F_check_number := p3.choose_spec, b_check_number := p3.choose_spec.bindsN fun _ _ _ _ _ _ us hl => match us, hl with | [_, _, _], _ => rfl, g_check_number := He.glo_ok X G (c.1.fact 3 (f := .glo "check_number") rfl),
    f_is_lift := _, fd_is_lift := p4.choose, F_is_lift := p4.choose_spec, b_is_lift := p4.choose_spec.bindsN fun _ _ _ _ _ _ us hl => match us, hl with | [_, _], _ => rfl, g_is_lift := He.glo_ok X G (c.1.fact 4 (f := .glo "is_lift") rfl),
    f_is_step := _, fd_is_step := p5.choose, F_is_step := p5.choose_spec, b_is_step := p5.choose_spec.bindsN fun _ _ _ _ _ _ us hl => match us, hl with | [_, _], _ => rfl, g_is_step := He.glo_ok X G (c.1.fact 5 (f := .glo "is_step") rfl),
    f_closed := _, fd_closed := p6.choose, F_closed := p6.choose_spec, b_closed := p6.choose_spec.bindsN fun _ _ _ _ _ _ us hl => match us, hl with | [_], _ => rfl, g_closed := He.glo_ok X G (c.1.fact 6 (f := .glo "closed") rfl),
    f_opened := _, fd_opened := p7.choose, F_opened := p7.choose_spec, b_opened := p7.choose_spec.bindsN fun _ _ _ _ _ _ us hl => match us, hl with | [_], _ => rfl, g_opened := He.glo_ok X G (c.1.fact 7 (f := .glo "opened") rfl),
    f_check_mixer := _, fd_check_mixer := p8.choose, F_check_mixer := p8.choose_spec, b_check_mixer := p8.choose_spec.bindsN fun _ _ _ _ _ _ us hl => match us, hl with | [_], _ => rfl, g_check_mixer := He.glo_ok X G (c.1.fact 8 (f := .glo "check_mixer") rfl),
    f_check_moment := _, fd_check_moment := p9.choose, F_check_moment := p9.choose_spec, b_check_moment := p9.choose_spec.bindsN fun _ _ _ _ _ _ us hl => match us, hl with | [_, _], _ => rfl, g_check_moment := He.glo_ok X G (c.1.fact 9 (f := .glo "check_moment") rfl),
    f_summed := _, fd_summed := p10.choose, F_summed := p10.choose_spec, b_summed := p10.choose_spec.bindsN fun _ _ _ _ _ _ us hl => match us, hl with | [_, _], _ => rfl, g_summed := He.glo_ok X G (c.1.fact 10 (f := .glo "summed") rfl),
    f_stepped := _, fd_stepped := p11.choose, F_stepped := p11.choose_spec, b_stepped := nil_binds (p11.choose_spec.binds1 (ps := ["row", "numbers", "way"]) 3 1 (by simp [He.DefD.dvs, d_stepped]) rfl fun _ _ _ _ _ _ _ us its h1 h2 => match us, its, h1, h2 with | [_, _, _], [_], _, _ => ⟨_, rfl, rfl⟩), e0_stepped := (p11.choose_spec.binds1 (ps := ["row", "numbers", "way"]) 2 0 (by simp [He.DefD.dvs, d_stepped]) rfl fun _ _ _ _ _ _ _ us its h1 h2 => match us, its, h1, h2 with | [_, _], [_], _, _ => ⟨_, rfl, rfl⟩).choose, v0_stepped := (p11.choose_spec.binds1 (ps := ["row", "numbers", "way"]) 2 0 (by simp [He.DefD.dvs, d_stepped]) rfl fun _ _ _ _ _ _ _ us its h1 h2 => match us, its, h1, h2 with | [_, _], [_], _, _ => ⟨_, rfl, rfl⟩).choose_spec.1, b0_stepped := (p11.choose_spec.binds1 (ps := ["row", "numbers", "way"]) 2 0 (by simp [He.DefD.dvs, d_stepped]) rfl fun _ _ _ _ _ _ _ us its h1 h2 => match us, its, h1, h2 with | [_, _], [_], _, _ => ⟨_, rfl, rfl⟩).choose_spec.2, g_stepped := He.glo_ok X G (c.1.fact 11 (f := .glo "stepped") rfl),
    f_played := _, fd_played := p12.choose, F_played := p12.choose_spec, b_played := p12.choose_spec.bindsN fun _ _ _ _ _ _ us hl => match us, hl with | [_, _], _ => rfl, g_played := He.glo_ok X G (c.1.fact 12 (f := .glo "played") rfl),
    f_mixed := _, fd_mixed := p13.choose, F_mixed := p13.choose_spec, b_mixed := p13.choose_spec.bindsN fun _ _ _ _ _ _ us hl => match us, hl with | [_, _], _ => rfl, g_mixed := He.glo_ok X G (c.1.fact 13 (f := .glo "mixed") rfl),
    f_unmixed := _, fd_unmixed := p14.choose, F_unmixed := p14.choose_spec, b_unmixed := p14.choose_spec.bindsN fun _ _ _ _ _ _ us hl => match us, hl with | [_, _], _ => rfl, g_unmixed := He.glo_ok X G (c.1.fact 14 (f := .glo "unmixed") rfl),
    f_law_purse := _, fd_law_purse := p15.choose, F_law_purse := p15.choose_spec, b_law_purse := p15.choose_spec.bindsN fun _ _ _ _ _ _ us hl => match us, hl with | [_, _], _ => rfl, g_law_purse := He.glo_ok X G (c.1.fact 15 (f := .glo "_law_purse") rfl),
    f_law_draw := _, fd_law_draw := p16.choose, F_law_draw := p16.choose_spec, b_law_draw := p16.choose_spec.bindsN fun _ _ _ _ _ _ us hl => match us, hl with | [_, _], _ => rfl, g_law_draw := He.glo_ok X G (c.1.fact 16 (f := .glo "_law_draw") rfl),
    f_law_number := _, fd_law_number := p17.choose, F_law_number := p17.choose_spec, b_law_number := p17.choose_spec.bindsN fun _ _ _ _ _ _ us hl => match us, hl with | [_], _ => rfl, g_law_number := He.glo_ok X G (c.1.fact 17 (f := .glo "_law_number") rfl),
    f_law_weight := _, fd_law_weight := p18.choose, F_law_weight := p18.choose_spec, b_law_weight := p18.choose_spec.bindsN fun _ _ _ _ _ _ us hl => match us, hl with | [_], _ => rfl, g_law_weight := He.glo_ok X G (c.1.fact 18 (f := .glo "_law_weight") rfl),
    f_law_lift := _, fd_law_lift := p19.choose, F_law_lift := p19.choose_spec, b_law_lift := p19.choose_spec.bindsN fun _ _ _ _ _ _ us hl => match us, hl with | [_, _, _], _ => rfl, g_law_lift := He.glo_ok X G (c.1.fact 19 (f := .glo "_law_lift") rfl),
    f_law_steps := _, fd_law_steps := p20.choose, F_law_steps := p20.choose_spec, b_law_steps := p20.choose_spec.bindsN fun _ _ _ _ _ _ us hl => match us, hl with | [_, _, _, _], _ => rfl, g_law_steps := He.glo_ok X G (c.1.fact 20 (f := .glo "_law_steps") rfl),
    f_law_copied := _, fd_law_copied := p21.choose, F_law_copied := p21.choose_spec, b_law_copied := p21.choose_spec.bindsN fun _ _ _ _ _ _ us hl => match us, hl with | [_], _ => rfl, g_law_copied := He.glo_ok X G (c.1.fact 21 (f := .glo "_law_copied") rfl),
    f_law_stepped := _, fd_law_stepped := p22.choose, F_law_stepped := p22.choose_spec, b_law_stepped := p22.choose_spec.bindsN fun _ _ _ _ _ _ us hl => match us, hl with | [_, _, _], _ => rfl, g_law_stepped := He.glo_ok X G (c.1.fact 22 (f := .glo "_law_stepped") rfl),
    f_law_played := _, fd_law_played := p23.choose, F_law_played := p23.choose_spec, b_law_played := p23.choose_spec.bindsN fun _ _ _ _ _ _ us hl => match us, hl with | [_, _], _ => rfl, g_law_played := He.glo_ok X G (c.1.fact 23 (f := .glo "_law_played") rfl),
    f_law_led_back := _, fd_law_led_back := p24.choose, F_law_led_back := p24.choose_spec, b_law_led_back := p24.choose_spec.bindsN fun _ _ _ _ _ _ us hl => match us, hl with | [_, _], _ => rfl, g_law_led_back := He.glo_ok X G (c.1.fact 24 (f := .glo "_law_led_back") rfl),
    f_law_whole := _, fd_law_whole := p25.choose, F_law_whole := p25.choose_spec, b_law_whole := p25.choose_spec.bindsN fun _ _ _ _ _ _ us hl => match us, hl with | [_], _ => rfl, g_law_whole := He.glo_ok X G (c.1.fact 25 (f := .glo "_law_whole") rfl),
    f_law_numbers_right := _, fd_law_numbers_right := p26.choose, F_law_numbers_right := p26.choose_spec, b_law_numbers_right := p26.choose_spec.bindsN fun _ _ _ _ _ _ us hl => match us, hl with | [_, _], _ => rfl, g_law_numbers_right := He.glo_ok X G (c.1.fact 26 (f := .glo "_law_numbers_right") rfl),
    f_law_spoil := _, fd_law_spoil := p27.choose, F_law_spoil := p27.choose_spec, b_law_spoil := p27.choose_spec.bindsN fun _ _ _ _ _ _ us hl => match us, hl with | [_], _ => rfl, g_law_spoil := He.glo_ok X G (c.1.fact 27 (f := .glo "_law_spoil") rfl),
    f_law_kept := _, fd_law_kept := p28.choose, F_law_kept := p28.choose_spec, b_law_kept := p28.choose_spec.bindsN fun _ _ _ _ _ _ us hl => match us, hl with | [_, _, _], _ => rfl, g_law_kept := He.glo_ok X G (c.1.fact 28 (f := .glo "_law_kept") rfl),
    f_law := _, fd_law := p29.choose, F_law := p29.choose_spec, b_law := p29.choose_spec.bindsN fun _ _ _ _ _ _ us hl => match us, hl with | [_], _ => rfl, g_law := He.glo_ok X G (c.1.fact 29 (f := .glo "law") rfl),
    f_Mixer___init__ := _, fd_Mixer___init__ := p30.choose, F_Mixer___init__ := p30.choose_spec, b_Mixer___init__ := p30.choose_spec.bindsN fun _ _ _ _ _ _ us hl => match us, hl with | [_, _, _], _ => rfl, me_Mixer___init__ := He.meth_ok (c.1.fact 46 (f := .meth "Mixer" "__init__") rfl), mk_Mixer := He.mkr_ok (c.1.fact 45 (f := .mkr "Mixer") rfl),
    f_Mixer_wide := _, fd_Mixer_wide := p31.choose, F_Mixer_wide := p31.choose_spec, b_Mixer_wide := p31.choose_spec.bindsN fun _ _ _ _ _ _ us hl => match us, hl with | [_], _ => rfl, me_Mixer_wide := He.meth_ok (c.1.fact 47 (f := .meth "Mixer" "wide") rfl),
    f_Mixer_steps := _, fd_Mixer_steps := p32.choose, F_Mixer_steps := p32.choose_spec, b_Mixer_steps := p32.choose_spec.bindsN fun _ _ _ _ _ _ us hl => match us, hl with | [_], _ => rfl, me_Mixer_steps := He.meth_ok (c.1.fact 48 (f := .meth "Mixer" "steps") rfl),
    f_Mixer___eq__ := _, fd_Mixer___eq__ := p33.choose, F_Mixer___eq__ := p33.choose_spec, b_Mixer___eq__ := p33.choose_spec.bindsN fun _ _ _ _ _ _ us hl => match us, hl with | [_, _], _ => rfl, me_Mixer___eq__ := He.meth_ok (c.1.fact 49 (f := .meth "Mixer" "__eq__") rfl),
    n_len := He.free_ok X G (c.1.fact 30 (f := .free "len") rfl),
    n_sum := He.free_ok X G (c.1.fact 31 (f := .free "sum") rfl),
    n_min := He.free_ok X G (c.1.fact 32 (f := .free "min") rfl),
    n_int := He.free_ok X G (c.1.fact 33 (f := .free "int") rfl),
    n_bool := He.free_ok X G (c.1.fact 34 (f := .free "bool") rfl),
    n_list := He.free_ok X G (c.1.fact 35 (f := .free "list") rfl),
    n_tuple := He.free_ok X G (c.1.fact 36 (f := .free "tuple") rfl),
    n_range := He.free_ok X G (c.1.fact 37 (f := .free "range") rfl),
    n_isinstance := He.free_ok X G (c.1.fact 38 (f := .free "isinstance") rfl),
    n_zip := He.free_ok X G (c.1.fact 39 (f := .free "zip") rfl),
    t_MOST_WAYS := q0.choose, m_MOST_WAYS := q0.choose_spec }
end My

namespace My
open PySem PySem.Spec PyProof.Rows L2 Pre
section
variable {P : Program} {w : World} {K : PySem.W.Frag} {mg : Str → Option Value} {base : Heap}
/-! ### is_whole, is_between, of whole numbers -/
def sp_is_whole : Sp := fun vs H Q _ => ∃ i : Int, vs = [.int i] ∧ Q (.bl true) H
theorem G_is_whole (T : Top K mg) : FnOk P w K mg base CX0 1 T.f_is_whole T.fd_is_whole ["value"] sp_is_whole := by
  refine T.F_is_whole.ok sc_is_whole (fun vs H Q E h => by obtain ⟨i, rfl, _⟩ := h; rfl) (fun cdv A outer s H vs Q E hr h => ?_)
  obtain ⟨i, rfl, q⟩ := h
  refine ⟨_, PSs.nox (pss_one (ps_ret (pe_and (pe_callB (k_isi K rfl) (by rfl) T.n_isinstance (by decide +kernel) (pa_cons (pv 0) (pa_cons (pe_bltn (v := .ty "int") (by rfl) T.n_int (by decide +kernel) rfl) pa_nil))) (pe_one (pe_not (pe_callB (k_isi K rfl) (by rfl) T.n_isinstance (by decide +kernel) (pa_cons (pv 0) (pa_cons (pe_bltn (v := .ty "bool") (by rfl) T.n_bool (by decide +kernel) rfl) pa_nil)))))))), ?_⟩
  refine ⟨_, rfl, _, _, _, _, true, rfl, .ty _, .base (.int i), kit_ty (by decide +kernel), true, rfl, iteT ?_⟩
  exact ⟨_, rfl, _, _, _, _, false, rfl, .ty _, .base (.int i), kit_ty (by decide +kernel), false, rfl, q⟩
/-- value a whole number, low one, high None or one -/
def sp_is_between : Sp := fun vs H Q _ => ∃ (i lo : Int) (hi : Option Int), vs = [.int i, .int lo, (match hi with | some j => .int j | none => .non)] ∧ Q (.bl (decide (lo ≤ i ∧ ∀ j, hi = some j → i ≤ j))) H
theorem G_is_between (T : Top K mg) : FnOk P w K mg base CX0 2 T.f_is_between T.fd_is_between ["value", "low", "high"] sp_is_between := by
  refine T.F_is_between.ok sc_is_between (fun vs H Q E h => by obtain ⟨i, lo, hi, rfl, _⟩ := h; rfl) (fun cdv A outer s H vs Q E hr h => ?_)
  obtain ⟨i, lo, hi, rfl, q⟩ := h
  refine ⟨_, PSs.nox (pss_one (ps_ret (pe_and (pe_call (G_is_whole T) (hr.mono (by decide)) (by rfl) T.g_is_whole T.F_is_whole.kp T.b_is_whole .nil pass0 (pa_cons (pv 0) pa_nil)) (pe_and (pe_cmpR op_le (pv 1) (pv 0) (nomark _)) (pe_one (pe_or (pe_cmpR op_isN (pv 2) pe_non (nomark _)) (pe_one (pe_cmpR op_le (pv 0) (pv 2) (nomark _))))))))), ?_⟩
  refine ⟨_, rfl, i, rfl, true, rfl, iteT ?_⟩
  refine ⟨_, rfl, _, rfl, _, _, rfl, rfl, _, rfl, ite2 (fun e => ?_) (fun e => ?_)⟩
  · have e1 : lo ≤ i := of_decide_eq_true e
    cases hi with
    | none =>
      refine ⟨_, rfl, rfl, _, rfl, iteT ?_⟩
      rw [decide_eq_true ⟨e1, fun j h => nomatch h⟩] at q
      exact q
    | some j =>
      refine ⟨_, rfl, rfl, _, rfl, iteF ⟨_, rfl, _, rfl, _, _, rfl, rfl, ?_⟩⟩
      have e2 : decide (lo ≤ i ∧ ∀ j', some j = some j' → i ≤ j') = decide (i ≤ j) := by
        by_cases h : i ≤ j
        · rw [decide_eq_true h, decide_eq_true]
          exact ⟨e1, fun j' e => by cases e; exact h⟩
        · rw [decide_eq_false h, decide_eq_false]
          exact fun z => h (z.2 j rfl)
      rw [e2] at q
      exact q
  · have e1 : ¬ lo ≤ i := fun h => e (decide_eq_true h)
    rw [decide_eq_false fun z => e1 z.1] at q
    exact q
end
end My

set_option exponentiation.threshold 100000
namespace My
open PySem PySem.Spec PyProof.Rows L2 Pre
section
variable {P : Program} {w : World} {K : PySem.W.Frag} {mg : Str → Option Value} {base : Heap}
/-! ### the law's draws -/
/-- a generator: its count is at most n -/
def GenAt (H : Hp) (g : Addr) (n : Nat) : Prop := ∃ x y z : Int, H g = some (.lst [.int x, .int y, .int z]) ∧ 0 ≤ z ∧ z ≤ (n : Int)
/-- all but one thing stand as they stood -/
def But (g : Addr) (H H' : Hp) : Prop := ∀ b o, b ≠ g → H b = some o → H' b = some o
theorem But.refl {g : Addr} {H : Hp} : But g H H := fun _ _ _ h => h
theorem But.trans {g : Addr} {H H1 H2 : Hp} (a : But g H H1) (b : But g H1 H2) : But g H H2 := fun c o n h => b c o n (a c o n h)
theorem But.same {g : Addr} {H H1 H2 : Hp} (a : But g H H1) (b : Same H1 H2) : But g H H2 := fun c o n h => b c o (a c o n h)
theorem But.of {g : Addr} {H H1 : Hp} (b : Same H H1) : But g H H1 := fun c o _ h => b c o h
theorem But.upd {g : Addr} {H H1 : Hp} {o : HO} (a : But g H H1) : But g H (upd H1 g o) := fun c u n h => by
  rw [upd_ne n]
  exact a c u n h
theorem But.free {g : Addr} {H H1 : Hp} (a : But g H H1) {p : Addr} (n : p ≠ g) (h : H1 p = none) : H p = none := by
  cases e : H p with
  | none => rfl
  | some o => rw [a p o n e] at h; cases h
/-- what is changed was not there at first -/
theorem But.fresh {g : Addr} {H H1 H2 : Hp} (s : Same H H1) (n : H g = none) (b : But g H1 H2) : Same H H2 := fun c o h => b c o (ne_of_none h n) (s c o h)
theorem GenAt.mono {H : Hp} {g : Addr} {n m : Nat} (h : GenAt H g n) (l : n ≤ m) : GenAt H g m := by
  obtain ⟨x, y, z, a, b, c⟩ := h
  exact ⟨x, y, z, a, b, by omega⟩
theorem GenAt.same {H H' : Hp} {g : Addr} {n : Nat} (h : GenAt H g n) (s : Same H H') : GenAt H' g n := by
  obtain ⟨x, y, z, a, b⟩ := h
  exact ⟨x, y, z, s _ _ a, b⟩
theorem GenAt.ne {H : Hp} {g : Addr} {n : Nat} {p : Addr} (h : GenAt H g n) (np : H p = none) : p ≠ g := by
  obtain ⟨x, y, z, a, _⟩ := h
  exact (ne_of_none a np).symm
theorem small_2900 {b : Int} (h : b ≤ 2 ^ 60) : b < 2 ^ 2900 := by omega
theorem pow_pos' (w : Nat) : (0 : Int) < 2 ^ w := Int.pow_pos (by decide)
theorem pow2_le {k m : Nat} (h : k ≤ m) : (2 : Int) ^ k ≤ 2 ^ m := by
  have e := Nat.pow_le_pow_right (show 0 < 2 by decide) h
  have e2 : ((2 ^ k : Nat) : Int) ≤ ((2 ^ m : Nat) : Int) := Int.ofNat_le.mpr e
  rw [Int.natCast_pow, Int.natCast_pow] at e2
  exact e2
def sp_law_cell (K : PySem.W.Frag) : Sp := fun vs H Q _ => ∃ (a : Addr) (ns : List Int) (i : Nat), vs = [.ref a, .int i] ∧ SqL K H a (ns.map V.int) ∧ ∀ (n : Int) H', Same H H' → Q (.int n) H'
theorem cmul_mod (x m j : Int) (h0 : 0 < m) (h1 : m ≤ 2 ^ 60) : CMul (x % m) j := by
  have a := Int.emod_nonneg x (show m ≠ 0 by omega)
  have b := Int.emod_lt_of_pos x h0
  exact .inl ⟨by omega, by omega⟩
def sp_law_hash : Sp := fun vs H Q _ => ∃ i j : Int, vs = [.int i, .int j] ∧ 0 ≤ j ∧ j < 2 ^ 60 ∧ ∀ n : Int, Q (.int n) H

def sp_law_generator (K : PySem.W.Frag) : Sp := fun vs H Q _ => ∃ (a : Addr) (ns : List Int) (i : Nat), vs = [.ref a, .int i] ∧ SqL K H a (ns.map V.int) ∧ ∀ H' g, Same H H' → H g = none → GenAt H' g (1000 * i) → Q (.ref g) H'
def sp_law_random : Sp := fun vs H Q _ => ∃ (g : Addr) (b : Int) (n : Nat), vs = [.ref g, .int b] ∧ GenAt H g n ∧ n ≤ 10 ^ 12 ∧ 0 < b ∧ b < 2 ^ 2900 ∧ ∀ (d : Int) H', 0 ≤ d → d < b → GenAt H' g (n + 100) → But g H H' → Q (.int d) H'
/-- a comprehension over a range that draws whole numbers -/
theorem lc_drawR {lo : Int} {n : Nat} {j : Nat} {te : TE} {vs : List Nat} {σ : L2.St} {H1 : Hp} {D : Addr} {Qd : Hp → Prop} (g : Addr) (m step : Nat) (P : Int → Prop) (nD : H1 D = none) (hG : GenAt H1 g m) (hz : n < sizeLine)
    (hw : ∀ x, wipe ((wipe σ vs).set j (some x)) vs = wipe σ vs)
    (hs : ∀ (i : Nat) (H' : Hp), i < n → But g H1 H' → GenAt H' g (m + step * i) → ∀ Qt : V → Hp → Prop, (∀ (y : Int) H'', P y → But g H' H'' → GenAt H'' g (m + step * (i + 1)) → Qt (.int y) H'') → te ((wipe σ vs).set j (some (.int (lo + (i : Int))))) H' Qt)
    (hd : ∀ H' (ys : List Int), But g H1 H' → GenAt H' g (m + step * n) → H' D = some (.lst (ys.map V.int)) → ys.length = n → (∀ y ∈ ys, P y) → Qd H') :
    ∃ W : Nat → Nat → Hp → Prop, (∃ m, W 0 m (upd H1 D (.lst []))) ∧ ∀ i m H, W i m H →
      ((Itr lo n).stop i H ∧ Qd H) ∨ ((Itr lo n).go i H ∧ ∃ Nx : Hp → Prop, (∀ H', Nx H' → ∃ m', m' < m ∧ W (i + 1) m' H') ∧ ∀ x H', (Itr lo n).yld i H x H' → gName j x (wipe σ vs) H' fun σ2 H2 => wipe σ2 vs = wipe σ vs ∧ tYes σ2 H2 fun b H3 =>
        if b = true then te σ2 H3 fun y H4 => ∃ acc, H4 D = some (.lst acc) ∧ acc.length < sizeLine ∧ Nx (upd H4 D (.lst (acc ++ [y]))) else Nx H3) := by
  have nDg : D ≠ g := hG.ne nD
  refine lc_range (lo := lo) (n := n) (fun i H => ∃ ys : List Int, But g H1 H ∧ GenAt H g (m + step * i) ∧ H D = some (.lst (ys.map V.int)) ∧ ys.length = i ∧ ∀ y ∈ ys, P y)
    ⟨[], But.of (same_upd nD), hG.same (same_upd nD), upd_same, rfl, (fun _ h => nomatch h)⟩ ?_ ?_
  · rintro i H hi ⟨ys, b, hg, hD, hl, hP⟩
    refine ⟨hw _, ?_⟩
    unfold tYes
    dsimp only
    rw [if_pos (show true = true from rfl)]
    refine hs i H hi b hg _ fun y H2 py b2 hg2 => ?_
    refine ⟨_, b2 _ _ nDg hD, by rw [List.length_map]; omega, ys ++ [y], ?_, ?_, ?_, ?_, ?_⟩
    · intro c o nc hc
      rw [upd_ne (ne_of_none hc nD)]
      exact b2 _ _ nc (b _ _ nc hc)
    · obtain ⟨x1, x2, x3, e1, e2⟩ := hg2
      exact ⟨x1, x2, x3, by rw [upd_ne nDg.symm]; exact e1, e2⟩
    · rw [upd_same, List.map_append]
      rfl
    · rw [List.length_append, hl]
      rfl
    · intro z hz
      rcases List.mem_append.mp hz with hz | hz
      · exact hP z hz
      · rw [List.mem_singleton.mp hz]
        exact py
  · rintro H ⟨ys, b, hg, hD, hl, hP⟩
    exact hd H ys b hg hD hl hP
end
end My

namespace My
open PySem PySem.Spec PyProof.Rows L2 Pre
/-- a comprehension over a list that makes new things: R tells what is known of the i-th -/
theorem lc_relL {K : PySem.W.Frag} {a : Addr} {xs : List V} {j : Nat} {te : TE} {vs : List Nat} {σ : L2.St} {H1 : Hp} {D : Addr} {Qd : Hp → Prop} (R : Nat → V → Hp → Prop) (nD : H1 D = none) (hS : SqL K H1 a xs) (hz : xs.length < sizeLine)
    (mono : ∀ (i : Nat) (y : V) (H H' : Hp), Pre.Off D H H' → R i y H → R i y H') (hw : ∀ x, wipe ((wipe σ vs).set j (some x)) vs = wipe σ vs)
    (hs : ∀ (i : Nat) (x : V) (H' : Hp) (zs : List V), xs[i]? = some x → Same H1 H' → H' D = some (.lst zs) → ∀ Qt : V → Hp → Prop, (∀ y H'', Same H' H'' → R i y H'' → Qt y H'') → te ((wipe σ vs).set j (some x)) H' Qt)
    (hd : ∀ H' ys, Same H1 H' → H' D = some (.lst ys) → ys.length = xs.length → (∀ (i : Nat) (y : V), ys[i]? = some y → R i y H') → Qd H') :
    ∃ W : Nat → Nat → Hp → Prop, (∃ m, W 0 m (upd H1 D (.lst []))) ∧ ∀ i m H, W i m H →
      ((Itl K a).stop i H ∧ Qd H) ∨ ((Itl K a).go i H ∧ ∃ Nx : Hp → Prop, (∀ H', Nx H' → ∃ m', m' < m ∧ W (i + 1) m' H') ∧ ∀ x H', (Itl K a).yld i H x H' → gName j x (wipe σ vs) H' fun σ2 H2 => wipe σ2 vs = wipe σ vs ∧ tYes σ2 H2 fun b H3 =>
        if b = true then te σ2 H3 fun y H4 => ∃ acc, H4 D = some (.lst acc) ∧ acc.length < sizeLine ∧ Nx (upd H4 D (.lst (acc ++ [y]))) else Nx H3) := by
  refine lc_list (K := K) (a := a) (xs := xs) (RelPv R H1 D) ⟨[], same_upd nD, upd_same, rfl, fun k y h => by simp at h⟩ (fun i H _ ⟨_, s, _⟩ => s.seq hS) ?_ ?_
  · rintro i x H hx ⟨ys, s, hD, hl, hR⟩
    have hi : i < xs.length := (List.getElem?_eq_some_iff.mp hx).1
    refine ⟨hw _, ?_⟩
    unfold tYes
    dsimp only
    rw [if_pos (show true = true from rfl)]
    refine hs i x H ys hx s hD _ fun y H4 s4 r4 => ?_
    refine ⟨ys, s4 _ _ hD, by omega, ys ++ [y], same_over nD (s.trans s4), upd_same, by rw [List.length_append, hl]; rfl, fun k z hz => ?_⟩
    have off : Pre.Off D H4 (upd H4 D (.lst (ys ++ [y]))) := fun b o nb h => by rw [upd_ne nb]; exact h
    by_cases hk : k < ys.length
    · rw [List.getElem?_append_left hk] at hz
      exact mono k z H _ (fun b o nb h => off b o nb (s4 b o h)) (hR k z hz)
    · rw [List.getElem?_append_right (by omega)] at hz
      have hk2 : k - ys.length = 0 := by
        have h2 := (List.getElem?_eq_some_iff.mp hz).1
        rw [List.length_singleton] at h2
        omega
      rw [hk2] at hz
      cases hz
      have ek : k = i := by omega
      rw [ek]
      exact mono i y H4 _ off r4
  · rintro H ⟨ys, s, hD, hl, hR⟩
    exact hd H ys s hD hl hR
/-- a list of lists of whole numbers -/
def RowsIn (H : Hp) (p : Addr) (rows : List (List Int)) : Prop := ∃ as : List Addr, H p = some (.lst (as.map V.ref)) ∧ as.length = rows.length ∧ ∀ (i : Nat) (a : Addr) (r : List Int), as[i]? = some a → rows[i]? = some r → H a = some (.lst (r.map V.int))
theorem RowsIn.same {H H' : Hp} {p : Addr} {rows : List (List Int)} (h : RowsIn H p rows) (s : Same H H') : RowsIn H' p rows := by
  obtain ⟨as, h1, h2, h3⟩ := h
  exact ⟨as, s _ _ h1, h2, fun i a r ha hr => s _ _ (h3 i a r ha hr)⟩
section
variable {X : Cx}
theorem huD {k : Nat} {A : Around} (r : Room k A) : A.units + 65 < cLine := by have := r.un; omega
theorem k_inD (K : PySem.W.Frag) (h : X.K = K) (hu : X.A.units + 65 < cLine) : OpR X (compareOp .In) (rInD K) := by subst h; exact op_inD hu
theorem k_notInD (K : PySem.W.Frag) (h : X.K = K) (hu : X.A.units + 65 < cLine) : OpR X (compareOp .NotIn) (rNotInD K) := by subst h; exact op_notInD hu
theorem k_indexD (K : PySem.W.Frag) (h : X.K = K) (hu : X.A.units + 65 < cLine) : MtR X "list.index" (rIndexD K) := by subst h; exact mt_indexD hu
end
/-- rows as data -/
def rowD (r : List Int) : PyData := .list (r.map PyData.int)
theorem rows_dp {K : PySem.W.Frag} {H : Hp} : ∀ {as : List Addr} {rows : List (List Int)}, as.length = rows.length → (∀ (i : Nat) (a : Addr) (r : List Int), as[i]? = some a → rows[i]? = some r → H a = some (.lst (r.map V.int))) → DpAll K H (as.map V.ref) (rows.map rowD)
  | [], [], _, _ => .nil
  | [], _ :: _, h, _ => by simp at h
  | _ :: _, [], h, _ => by simp at h
  | a :: as, r :: rows, h, k => .cons (.lst (.inl (.inl (k 0 a r rfl rfl))) (Pre.dp_ints r)) (rows_dp (by simpa using h) fun i t q ht hq => k (i + 1) t q (by simpa using ht) (by simpa using hq))
theorem rowD_eqv (r q : List Int) : PyData.eqv (rowD r) (rowD q) = decide (r = q) := by
  unfold rowD
  rw [PyData.eqv, eqv_ints]
theorem rows_shaped (rows : List (List Int)) : SeqAt.shaped (.list (rows.map rowD)) = true := by
  have h1 : ∀ l : List (List Int), PyData.canLayAll0 (l.map rowD) = true := fun l => by
    induction l with
    | nil => rfl
    | cons r l ih =>
      show (PyData.canLay0 (rowD r) && PyData.canLayAll0 (l.map rowD)) = true
      rw [ih]
      unfold rowD
      rw [PyData.canLay0, lay_ints]
      rfl
  have h2 : ∀ l : List (List Int), PyData.depthAll (l.map rowD) ≤ 1 := fun l => by
    induction l with
    | nil => simp [PyData.depthAll]
    | cons r l ih =>
      show PyData.depthAll (rowD r :: l.map rowD) ≤ 1
      rw [PyData.depthAll]
      unfold rowD at *
      rw [PyData.depth, depth_ints]
      omega
  show (PyData.canLay0 (.list (rows.map rowD)) && decide (PyData.depth (.list (rows.map rowD)) ≤ 64)) = true
  rw [Bool.and_eq_true]
  have := h2 rows
  exact ⟨by rw [PyData.canLay0]; exact h1 rows, decide_eq_true (by rw [PyData.depth]; omega)⟩
end My

namespace My
open PySem PySem.Spec PyProof.Rows L2 Pre
/-! ### min and max of a list of pairs of whole numbers -/
def pairD (p : Int × Int) : PyData := .tuple [.int p.1, .int p.2]
def ltP2 (p q : Int × Int) : Prop := p.1 < q.1 ∨ (p.1 = q.1 ∧ p.2 < q.2)
instance (p q : Int × Int) : Decidable (ltP2 p q) := by unfold ltP2; infer_instance
theorem pair_lt (p q : Int × Int) : PySem.W.dataLt (pairD p) (pairD q) = decide (ltP2 p q) := PySem.W.dataLt_ii p.1 p.2 q.1 q.2
theorem ltP2_trans {p q r : Int × Int} (h : ¬ ltP2 q p) (k : ¬ ltP2 r q) : ¬ ltP2 r p := by
  unfold ltP2 at *
  omega
def minP (p : Int × Int) (ps : List (Int × Int)) : Int × Int := ps.foldl (fun a y => if ltP2 y a then y else a) p
def maxP (p : Int × Int) (ps : List (Int × Int)) : Int × Int := ps.foldl (fun a y => if ltP2 a y then y else a) p
theorem minP_data : ∀ (ps : List (Int × Int)) (p : Int × Int), PySem.W.minD (pairD p) (ps.map pairD) = pairD (minP p ps)
  | [], _ => rfl
  | q :: ps, p => by
    show PySem.W.minD (if PySem.W.dataLt (pairD q) (pairD p) = true then pairD q else pairD p) (ps.map pairD) = pairD (minP (if ltP2 q p then q else p) ps)
    rw [pair_lt]
    by_cases h : ltP2 q p
    · rw [decide_eq_true h, if_pos rfl, if_pos h, minP_data ps q]
    · rw [decide_eq_false h, if_neg (by decide), if_neg h, minP_data ps p]
theorem maxP_data : ∀ (ps : List (Int × Int)) (p : Int × Int), PySem.W.maxD (pairD p) (ps.map pairD) = pairD (maxP p ps)
  | [], _ => rfl
  | q :: ps, p => by
    show PySem.W.maxD (if PySem.W.dataLt (pairD p) (pairD q) = true then pairD q else pairD p) (ps.map pairD) = pairD (maxP (if ltP2 p q then q else p) ps)
    rw [pair_lt]
    by_cases h : ltP2 p q
    · rw [decide_eq_true h, if_pos rfl, if_pos h, maxP_data ps q]
    · rw [decide_eq_false h, if_neg (by decide), if_neg h, maxP_data ps p]
theorem minP_spec : ∀ (ps : List (Int × Int)) (p : Int × Int), minP p ps ∈ p :: ps ∧ ∀ q ∈ p :: ps, ¬ ltP2 q (minP p ps)
  | [], p => ⟨List.mem_cons_self, fun q hq => by
      rw [List.mem_singleton.mp hq]
      show ¬ ltP2 p p
      unfold ltP2
      omega⟩
  | r :: ps, p => by
    show minP (if ltP2 r p then r else p) ps ∈ _ ∧ ∀ q ∈ p :: r :: ps, ¬ ltP2 q (minP (if ltP2 r p then r else p) ps)
    by_cases h : ltP2 r p
    · rw [if_pos h]
      obtain ⟨h1, h2⟩ := minP_spec ps r
      refine ⟨List.mem_cons_of_mem _ h1, fun q hq => ?_⟩
      rcases List.mem_cons.mp hq with rfl | hq
      · have := h2 r List.mem_cons_self
        exact fun z => this (by unfold ltP2 at *; omega)
      · exact h2 q hq
    · rw [if_neg h]
      obtain ⟨h1, h2⟩ := minP_spec ps p
      refine ⟨?_, fun q hq => ?_⟩
      · rcases List.mem_cons.mp h1 with e | e
        · rw [e]; exact List.mem_cons_self
        · exact List.mem_cons_of_mem _ (List.mem_cons_of_mem _ e)
      · rcases List.mem_cons.mp hq with rfl | hq
        · exact h2 q List.mem_cons_self
        · rcases List.mem_cons.mp hq with rfl | hq
          · have := h2 p List.mem_cons_self
            exact fun z => this (by unfold ltP2 at *; omega)
          · exact h2 q (List.mem_cons_of_mem _ hq)
theorem maxP_spec : ∀ (ps : List (Int × Int)) (p : Int × Int), maxP p ps ∈ p :: ps ∧ ∀ q ∈ p :: ps, ¬ ltP2 (maxP p ps) q
  | [], p => ⟨List.mem_cons_self, fun q hq => by
      rw [List.mem_singleton.mp hq]
      show ¬ ltP2 p p
      unfold ltP2
      omega⟩
  | r :: ps, p => by
    show maxP (if ltP2 p r then r else p) ps ∈ _ ∧ ∀ q ∈ p :: r :: ps, ¬ ltP2 (maxP (if ltP2 p r then r else p) ps) q
    by_cases h : ltP2 p r
    · rw [if_pos h]
      obtain ⟨h1, h2⟩ := maxP_spec ps r
      refine ⟨List.mem_cons_of_mem _ h1, fun q hq => ?_⟩
      rcases List.mem_cons.mp hq with rfl | hq
      · have := h2 r List.mem_cons_self
        exact fun z => this (by unfold ltP2 at *; omega)
      · exact h2 q hq
    · rw [if_neg h]
      obtain ⟨h1, h2⟩ := maxP_spec ps p
      refine ⟨?_, fun q hq => ?_⟩
      · rcases List.mem_cons.mp h1 with e | e
        · rw [e]; exact List.mem_cons_self
        · exact List.mem_cons_of_mem _ (List.mem_cons_of_mem _ e)
      · rcases List.mem_cons.mp hq with rfl | hq
        · exact h2 q List.mem_cons_self
        · rcases List.mem_cons.mp hq with rfl | hq
          · have := h2 p List.mem_cons_self
            exact fun z => this (by unfold ltP2 at *; omega)
          · exact h2 q (List.mem_cons_of_mem _ hq)
theorem pairs_alike (ps : List (Int × Int)) : PySem.W.AlikeAll (ps.map pairD) := by
  refine ⟨fun x hx y hy => ?_, fun x hx => ?_⟩
  · obtain ⟨p, _, rfl⟩ := List.mem_map.mp hx
    obtain ⟨q, _, rfl⟩ := List.mem_map.mp hy
    rfl
  · obtain ⟨p, _, rfl⟩ := List.mem_map.mp hx
    exact fun z => nomatch z
theorem pairs_lay : ∀ ps : List (Int × Int), PyData.canLayAll0 (ps.map pairD) = true
  | [] => rfl
  | p :: ps => by simp [PyData.canLayAll0, PyData.canLay0, pairD, pairs_lay ps]
theorem pairs_depth : ∀ ps : List (Int × Int), PyData.depthAll (ps.map pairD) ≤ 2
  | [] => by simp [PyData.depthAll]
  | p :: ps => by
    have := pairs_depth ps
    simp only [List.map_cons, PyData.depthAll, pairD, PyData.depth]
    omega
/-- a list of pairs, at a -/
def PairsAt (K : PySem.W.Frag) (H : Hp) (a : Addr) (ps : List (Int × Int)) : Prop := ∃ as : List Addr, SqL K H a (as.map V.ref) ∧ as.length = ps.length ∧ ∀ (i : Nat) (t : Addr) (p : Int × Int), as[i]? = some t → ps[i]? = some p → SqT K H t [.int p.1, .int p.2]
theorem pairs_dp {K : PySem.W.Frag} {H : Hp} : ∀ {as : List Addr} {ps : List (Int × Int)}, as.length = ps.length → (∀ (i : Nat) (t : Addr) (p : Int × Int), as[i]? = some t → ps[i]? = some p → SqT K H t [.int p.1, .int p.2]) → DpAll K H (as.map V.ref) (ps.map pairD)
  | [], [], _, _ => .nil
  | [], _ :: _, h, _ => by simp at h
  | _ :: _, [], h, _ => by simp at h
  | a :: as, p :: ps, h, k => .cons (.tup (k 0 a p rfl rfl) (.cons (.int _) (.cons (.int _) .nil))) (pairs_dp (by simpa using h) fun i t q ht hq => k (i + 1) t q (by simpa using ht) (by simpa using hq))
def rMnP (K : PySem.W.Frag) (best : Int × Int → List (Int × Int) → Int × Int) : List V → Hp → VK → Prop := fun xs H Q => ∃ (a : Addr) (p : Int × Int) (ps : List (Int × Int)), xs = [.ref a] ∧ PairsAt K H a (p :: ps) ∧ ∀ t, SqT K H t [.int (best p ps).1, .int (best p ps).2] → Q (.ref t) H
section
variable {X : Cx} {K : PySem.W.Frag}
theorem pick {H : Hp} {s : Shared} {as : List Addr} {ps : List (Int × Int)} {its : List Value} {i : Nat} {v : Value} {h' : Heap} {bs cs : List Addr} {b : Int × Int} (hl : as.length = ps.length)
    (hT : ∀ (i : Nat) (t : Addr) (p : Int × Int), as[i]? = some t → ps[i]? = some p → SqT K H t [.int p.1, .int p.2]) (rv : Vals (as.map V.ref) its) (hr : ReadsAll s.heap its (ps.map pairD) cs) (hv : its.toArray[i]? = some v) (rd : Reads h' v (pairD b) bs)
    (hk : ∀ b o, s.heap.get? b = some o → h'.get? b = some o) : ∃ t, v = .ref t ∧ SqT K H t [.int b.1, .int b.2] := by
  have hv' : its[i]? = some v := by simpa using hv
  have hil : i < its.length := (List.getElem?_eq_some_iff.mp hv').1
  have hvl := rv.length
  rw [List.length_map] at hvl
  obtain ⟨u, hu, ru⟩ := rv.get (show (as.map V.ref)[i]? = some (.ref (as[i]'(by omega))) by rw [List.getElem?_map, List.getElem?_eq_getElem (by omega)]; rfl)
  rw [hv'] at hu
  cases hu
  have hp : ps[i]? = some (ps[i]'(by omega)) := List.getElem?_eq_getElem (by omega)
  obtain ⟨ds, r1, _, _, _⟩ := PySem.W.readsAll_at hr i v hv'
  have e1 : (ps.map pairD).getD i .none = pairD (ps[i]'(by omega)) := by
    rw [List.getD_eq_getElem?_getD, List.getElem?_map, hp]
    rfl
  rw [e1] at r1
  have e2 := PySem.SeqAt.Reads.unique (pairD b) _ v _ _ (by simp [pairD, PyData.canLay0, PyData.canLayAll0]) rd (Reads.keeps hk r1)
  have e3 : b = ps[i]'(by omega) := by
    unfold pairD at e2
    injection e2 with e2
    injection e2 with e4 e5
    injection e5 with e5 _
    injection e4 with e4
    injection e5 with e5
    exact Prod.ext e4 e5
  refine ⟨as[i]'(by omega), ru, ?_⟩
  rw [e3]
  exact hT i _ _ (List.getElem?_eq_getElem (by omega)) hp
theorem k_minP (K : PySem.W.Frag) (h : X.K = K) (hc : X.calm = true) (hu : X.A.units + 65 < cLine) : CallR X (.builtin "min") (rMnP K minP) := by
  subst h
  intro pins s σ H xs us Q I r h
  obtain ⟨a, p, ps, rfl, ⟨as, hS, hl, hT⟩, q⟩ := h
  obtain ⟨its, rv, hL, _⟩ := I.list hS
  rw [Vals.ref1 r]
  obtain ⟨cs, hr⟩ := Dp.readsAll I _ _ its (pairs_dp hl hT) rv
  have hd := pairs_depth (p :: ps)
  refine PySem.W.min_list_data (I.ok.hd hc) hL.isList (show ReadsAll s.heap its.toArray.toList (pairD p :: ps.map pairD) cs by simpa using hr) (pairs_alike (p :: ps)) (by rw [List.map_cons] at hd; omega) fun i v h' tk bs hv rd hk => ?_
  rw [minP_data] at rd
  obtain ⟨t, rfl, ht⟩ := pick hl hT rv hr hv rd hk
  exact ⟨.ref t, H, I.kept hk, rfl, q t ht⟩
theorem k_maxP (K : PySem.W.Frag) (h : X.K = K) (hc : X.calm = true) (hu : X.A.units + 65 < cLine) : CallR X (.builtin "max") (rMnP K maxP) := by
  subst h
  intro pins s σ H xs us Q I r h
  obtain ⟨a, p, ps, rfl, ⟨as, hS, hl, hT⟩, q⟩ := h
  obtain ⟨its, rv, hL, _⟩ := I.list hS
  rw [Vals.ref1 r]
  obtain ⟨cs, hr⟩ := Dp.readsAll I _ _ its (pairs_dp hl hT) rv
  have hd := pairs_depth (p :: ps)
  refine PySem.W.max_list_data (I.ok.hd hc) hL.isList (show ReadsAll s.heap its.toArray.toList (pairD p :: ps.map pairD) cs by simpa using hr) (pairs_alike (p :: ps)) (by rw [List.map_cons] at hd; omega) fun i v h' tk bs hv rd hk => ?_
  rw [maxP_data] at rd
  obtain ⟨t, rfl, ht⟩ := pick hl hT rv hr hv rd hk
  exact ⟨.ref t, H, I.kept hk, rfl, q t ht⟩
theorem huM {k : Nat} {A : Around} (r : Room k A) : A.units + 65 < cLine := by have := r.un; omega
end
end My

namespace My
open PySem PySem.Spec PyProof.Rows L2 Pre
/-! ### data in a heap: what is told of a value by lists and tuples that stand there (none of them frozen) -/
mutual
inductive Dt (H : Hp) : V → PyData → Prop
  | non : Dt H .non .none
  | bl (b : Bool) : Dt H (.bl b) (.bool b)
  | int (n : Int) : Dt H (.int n) (.int n)
  | str (x : Str) : Dt H (.str x) (.str x)
  | lst {a : Addr} {xs : List V} {ds : List PyData} : H a = some (.lst xs) → DtA H xs ds → Dt H (.ref a) (.list ds)
  | tup {a : Addr} {xs : List V} {ds : List PyData} : H a = some (.tup xs) → DtA H xs ds → Dt H (.ref a) (.tuple ds)
inductive DtA (H : Hp) : List V → List PyData → Prop
  | nil : DtA H [] []
  | cons {v : V} {vs : List V} {d : PyData} {ds : List PyData} : Dt H v d → DtA H vs ds → DtA H (v :: vs) (d :: ds)
end
mutual
theorem Dt.same {H H' : Hp} (s : Same H H') : ∀ {d : PyData} {v : V}, Dt H v d → Dt H' v d
  | .none, _, h => by cases h; exact .non
  | .bool _, _, h => by cases h; exact .bl _
  | .int _, _, h => by cases h; exact .int _
  | .str _, _, h => by cases h; exact .str _
  | .list _, _, h => by cases h with | lst a b => exact .lst (s _ _ a) (DtA.same s b)
  | .tuple _, _, h => by cases h with | tup a b => exact .tup (s _ _ a) (DtA.same s b)
  | .dict _, _, h => nomatch h
theorem DtA.same {H H' : Hp} (s : Same H H') : ∀ {ds : List PyData} {vs : List V}, DtA H vs ds → DtA H' vs ds
  | [], _, h => by cases h; exact .nil
  | _ :: _, _, h => by cases h with | cons a b => exact .cons (Dt.same s a) (DtA.same s b)
end
mutual
theorem Dt.dp {K : PySem.W.Frag} {H : Hp} : ∀ {d : PyData} {v : V}, Dt H v d → Dp K H v d
  | .none, _, h => by cases h; exact .non
  | .bool _, _, h => by cases h; exact .bl _
  | .int _, _, h => by cases h; exact .int _
  | .str _, _, h => by cases h; exact .str _
  | .list _, _, h => by cases h with | lst a b => exact .lst (.inl (.inl a)) (DtA.dp b)
  | .tuple _, _, h => by cases h with | tup a b => exact .tup (.inl (.inl a)) (DtA.dp b)
  | .dict _, _, h => nomatch h
theorem DtA.dp {K : PySem.W.Frag} {H : Hp} : ∀ {ds : List PyData} {vs : List V}, DtA H vs ds → DpAll K H vs ds
  | [], _, h => by cases h; exact .nil
  | _ :: _, _, h => by cases h with | cons a b => exact .cons (Dt.dp a) (DtA.dp b)
end
theorem DtA.len {H : Hp} : ∀ {ds : List PyData} {vs : List V}, DtA H vs ds → vs.length = ds.length
  | [], _, h => by cases h; rfl
  | _ :: _, _, h => by cases h with | cons a b => rw [List.length_cons, List.length_cons, DtA.len b]
theorem DtA.app {H : Hp} : ∀ {ds : List PyData} {vs : List V} {es : List PyData} {us : List V}, DtA H vs ds → DtA H us es → DtA H (vs ++ us) (ds ++ es)
  | [], _, _, _, h, k => by cases h; exact k
  | _ :: _, _, _, _, h, k => by cases h with | cons a b => exact .cons a (DtA.app b k)
theorem DtA.get {H : Hp} : ∀ {ds : List PyData} {vs : List V} {i : Nat} {d : PyData}, DtA H vs ds → ds[i]? = some d → ∃ v, vs[i]? = some v ∧ Dt H v d
  | [], _, _, _, _, k => by simp at k
  | _ :: _, _, 0, _, h, k => by
    cases h with
    | cons a b => rw [List.getElem?_cons_zero] at k; cases k; exact ⟨_, rfl, a⟩
  | _ :: _, _, i + 1, _, h, k => by
    cases h with
    | cons a b => rw [List.getElem?_cons_succ] at k; rw [List.getElem?_cons_succ]; exact DtA.get b k
theorem DtA.got {H : Hp} {ds : List PyData} {vs : List V} {i : Nat} {v : V} (h : DtA H vs ds) (k : vs[i]? = some v) : ∃ d, ds[i]? = some d ∧ Dt H v d := by
  have hi := (List.getElem?_eq_some_iff.mp k).1
  have hl := h.len
  obtain ⟨u, hu, d⟩ := h.get (List.getElem?_eq_getElem (show i < ds.length by omega))
  rw [k] at hu
  cases hu
  exact ⟨_, List.getElem?_eq_getElem (by omega), d⟩
theorem DtA.take {H : Hp} : ∀ {ds : List PyData} {vs : List V} (n : Nat), DtA H vs ds → DtA H (vs.take n) (ds.take n)
  | _, _, 0, _ => .nil
  | [], _, _ + 1, h => by cases h; exact .nil
  | _ :: _, _, n + 1, h => by cases h with | cons a b => exact .cons a (DtA.take n b)
theorem DtA.drop {H : Hp} : ∀ {ds : List PyData} {vs : List V} (n : Nat), DtA H vs ds → DtA H (vs.drop n) (ds.drop n)
  | _, _, 0, h => h
  | [], _, _ + 1, h => by cases h; exact .nil
  | _ :: _, _, n + 1, h => by cases h with | cons a b => exact DtA.drop n b
theorem DtA.rev {H : Hp} : ∀ {ds : List PyData} {vs : List V}, DtA H vs ds → DtA H vs.reverse ds.reverse
  | [], _, h => by cases h; exact .nil
  | _ :: _, _, h => by
    cases h with
    | cons a b => rw [List.reverse_cons, List.reverse_cons]; exact DtA.app (DtA.rev b) (.cons a .nil)
theorem DtA.ints {H : Hp} : ∀ ns : List Int, DtA H (ns.map V.int) (ns.map PyData.int)
  | [] => .nil
  | n :: r => .cons (.int n) (DtA.ints r)
theorem DtA.intsE {H : Hp} : ∀ {ns : List Int} {vs : List V}, DtA H vs (ns.map PyData.int) → vs = ns.map V.int
  | [], _, h => by cases h; rfl
  | n :: r, _, h => by
    cases h with
    | cons a b => cases a; rw [DtA.intsE b]; rfl
/-- a list of whole numbers -/
theorem Dt.ints {H : Hp} {a : Addr} {ns : List Int} (h : H a = some (.lst (ns.map V.int))) : Dt H (.ref a) (rowD ns) := .lst h (DtA.ints ns)
theorem Dt.intsE {H : Hp} {v : V} {ns : List Int} (h : Dt H v (rowD ns)) : ∃ a, v = .ref a ∧ H a = some (.lst (ns.map V.int)) := by
  unfold rowD at h
  cases h with
  | lst a b => rw [DtA.intsE b] at a; exact ⟨_, rfl, a⟩
theorem Dt.listE {H : Hp} {v : V} {ds : List PyData} (h : Dt H v (.list ds)) : ∃ a xs, v = .ref a ∧ H a = some (.lst xs) ∧ DtA H xs ds := by
  cases h with
  | lst a b => exact ⟨_, _, rfl, a, b⟩
theorem Dt.tupE {H : Hp} {v : V} {ds : List PyData} (h : Dt H v (.tuple ds)) : ∃ a xs, v = .ref a ∧ H a = some (.tup xs) ∧ DtA H xs ds := by
  cases h with
  | tup a b => exact ⟨_, _, rfl, a, b⟩
/-! ### what is owned (and changes) is left out -/
def rs (S : List Addr) (H : Hp) : Hp := fun a => if a ∈ S then none else H a
theorem rs_nil (H : Hp) : rs [] H = H := by funext a; simp [rs]
theorem rs_in {S : List Addr} {H : Hp} {a : Addr} (h : a ∈ S) : rs S H a = none := if_pos h
theorem rs_out {S : List Addr} {H : Hp} {a : Addr} (h : a ∉ S) : rs S H a = H a := if_neg h
theorem rs_some {S : List Addr} {H : Hp} {a : Addr} {o : HO} (h : rs S H a = some o) : a ∉ S ∧ H a = some o := by
  by_cases m : a ∈ S
  · rw [rs_in m] at h; cases h
  · rw [rs_out m] at h; exact ⟨m, h⟩
theorem rs_le {S : List Addr} {H : Hp} : Same (rs S H) H := fun _ _ h => (rs_some h).2
theorem rs_same {S : List Addr} {H H' : Hp} (s : Same H H') : Same (rs S H) (rs S H') := fun b o h => by
  obtain ⟨m, e⟩ := rs_some h
  rw [rs_out m]
  exact s b o e
theorem rs_upd {S : List Addr} {H : Hp} {p : Addr} {o : HO} (h : p ∈ S) : rs S (L2.upd H p o) = rs S H := by
  funext a
  by_cases m : a ∈ S
  · rw [rs_in m, rs_in m]
  · rw [rs_out m, rs_out m, upd_ne (fun e => m (by rw [e]; exact h))]
/-- all of them stand -/
def Has (S : List Addr) (H : Hp) : Prop := ∀ a ∈ S, ∃ o, H a = some o
theorem Has.nil {H : Hp} : Has [] H := fun _ h => nomatch h
theorem Has.same {S : List Addr} {H H' : Hp} (h : Has S H) (s : Same H H') : Has S H' := fun a m => by
  obtain ⟨o, e⟩ := h a m
  exact ⟨o, s a o e⟩
theorem Has.cons {S : List Addr} {H : Hp} {p : Addr} {o : HO} (h : Has S H) (e : H p = some o) : Has (p :: S) H := fun a m => by
  rcases List.mem_cons.mp m with rfl | m
  · exact ⟨o, e⟩
  · exact h a m
theorem Has.upd {S : List Addr} {H : Hp} {p : Addr} {o : HO} (h : Has S H) : Has S (L2.upd H p o) := fun a m => by
  by_cases e : a = p
  · subst e; exact ⟨o, upd_same⟩
  · rw [upd_ne e]; exact h a m
theorem Has.out {S : List Addr} {H : Hp} {p : Addr} (h : Has S H) (n : H p = none) : p ∉ S := fun m => by
  obtain ⟨o, e⟩ := h p m
  rw [n] at e
  cases e
theorem GenAt.has {H : Hp} {g : Addr} {n : Nat} (h : GenAt H g n) : Has [g] H := by
  obtain ⟨x, y, z, e, _⟩ := h
  exact Has.nil.cons e
/-- all but what is owned stays -/
def Sta (S : List Addr) (H H' : Hp) : Prop := Same (rs S H) (rs S H')
theorem Sta.of {S : List Addr} {H H' : Hp} (s : Same H H') : Sta S H H' := rs_same s
theorem Sta.trans {S : List Addr} {H H1 H2 : Hp} (a : Sta S H H1) (b : Sta S H1 H2) : Sta S H H2 := fun c o h => b c o (a c o h)
theorem Sta.at_ {S : List Addr} {H H' : Hp} (s : Sta S H H') {a : Addr} {o : HO} (m : a ∉ S) (h : H a = some o) : H' a = some o := (rs_some (s a o (by rw [rs_out m]; exact h))).2
theorem Sta.upd {S : List Addr} {H : Hp} {p : Addr} {o : HO} (h : p ∈ S) : Sta S H (L2.upd H p o) := fun c u e => by rw [rs_upd h]; exact e
theorem Sta.more {S : List Addr} {H H' : Hp} {p : Addr} (s : Sta S H H') : Sta (p :: S) H H' := fun c o h => by
  obtain ⟨m, e⟩ := rs_some h
  have m2 : c ∉ S := fun z => m (List.mem_cons_of_mem _ z)
  rw [rs_out m]
  exact s.at_ m2 e
theorem But.sta {g : Addr} {H H' : Hp} (b : But g H H') : Sta [g] H H' := fun c o h => by
  obtain ⟨m, e⟩ := rs_some h
  rw [rs_out m]
  exact b c o (fun z => m (by rw [z]; exact List.mem_cons_self)) e
/-- what was there ahead of a new thing does not speak of it -/
theorem under {S : List Addr} {H H' : Hp} {p : Addr} (n : H p = none) (s : Same H H') : Same (rs S H) (rs (p :: S) H') := fun c o h => by
  obtain ⟨m, e⟩ := rs_some h
  rw [rs_out (fun z => by
    rcases List.mem_cons.mp z with rfl | z
    · rw [n] at e; cases e
    · exact m z)]
  exact s c o e
theorem over {S : List Addr} {H : Hp} {p : Addr} : Same (rs (p :: S) H) (rs S H) := fun c o h => by
  obtain ⟨m, e⟩ := rs_some h
  rw [rs_out (fun z => m (List.mem_cons_of_mem _ z))]
  exact e
/-! ### a new list, a new tuple, a sum of lists -/
theorem dt_new {S : List Addr} {H : Hp} {p : Addr} {xs : List V} {ds : List PyData} (hS : Has S H) (n : H p = none) (h : DtA (rs S H) xs ds) : Dt (rs S (upd H p (.lst xs))) (.ref p) (.list ds) :=
  .lst (by rw [rs_out (hS.out n)]; exact upd_same) (h.same (rs_same (same_upd n)))
theorem dt_newT {S : List Addr} {H : Hp} {p : Addr} {xs : List V} {ds : List PyData} (hS : Has S H) (n : H p = none) (h : DtA (rs S H) xs ds) : Dt (rs S (upd H p (.tup xs))) (.ref p) (.tuple ds) :=
  .tup (by rw [rs_out (hS.out n)]; exact upd_same) (h.same (rs_same (same_upd n)))
theorem d_lst {S : List Addr} {H : Hp} {xs : List V} {ds : List PyData} {Q : VK} (hS : Has S H) (h : DtA (rs S H) xs ds) (hz : xs.length ≤ sizeLine) (k : ∀ p H', Same H H' → H p = none → H' p = some (.lst xs) → Dt (rs S H') (.ref p) (.list ds) → Q (.ref p) H') : xs.length ≤ sizeLine ∧ ∀ p, H p = none → Q (.ref p) (upd H p (.lst xs)) :=
  ⟨hz, fun p n => k p _ (same_upd n) n upd_same (dt_new hS n h)⟩
theorem d_tup {S : List Addr} {H : Hp} {xs : List V} {ds : List PyData} {Q : VK} (hS : Has S H) (h : DtA (rs S H) xs ds) (hz : xs.length ≤ sizeLine) (k : ∀ p H', Same H H' → H p = none → H' p = some (.tup xs) → Dt (rs S H') (.ref p) (.tuple ds) → Q (.ref p) H') : xs.length ≤ sizeLine ∧ ∀ p, H p = none → Q (.ref p) (upd H p (.tup xs)) :=
  ⟨hz, fun p n => k p _ (same_upd n) n upd_same (dt_newT hS n h)⟩
theorem d_cat {S : List Addr} {H : Hp} {v w : V} {ds es : List PyData} {Q : VK} (hS : Has S H) (hv : Dt (rs S H) v (.list ds)) (hw : Dt (rs S H) w (.list es)) (hz : ds.length + es.length ≤ sizeLine) (k : ∀ p H', Same H H' → H p = none → Dt (rs S H') (.ref p) (.list (ds ++ es)) → Q (.ref p) H') : rCat v w H Q := by
  obtain ⟨a, xs, rfl, ha, hx⟩ := hv.listE
  obtain ⟨b, ys, rfl, hb, hy⟩ := hw.listE
  exact ⟨a, b, xs, ys, rfl, rfl, (rs_some ha).2, (rs_some hb).2, by rw [hx.len, hy.len]; exact hz, fun p n => k p _ (same_upd n) n (dt_new hS n (hx.app hy))⟩
theorem d_eq {K : PySem.W.Frag} {H : Hp} {v w : V} {d e : PyData} {Q : VK} (hv : Dt H v d) (hw : Dt H w e) (sd : SeqAt.shaped d = true) (se : SeqAt.shaped e = true) (q : Q (.bl (PyData.eqv d e)) H) : rEqD K v w H Q := ⟨d, e, hv.dp, hw.dp, sd, se, q⟩
theorem d_ne {K : PySem.W.Frag} {H : Hp} {v w : V} {d e : PyData} {Q : VK} (hv : Dt H v d) (hw : Dt H w e) (sd : SeqAt.shaped d = true) (se : SeqAt.shaped e = true) (q : Q (.bl (!PyData.eqv d e)) H) : rNeD K v w H Q := ⟨d, e, hv.dp, hw.dp, sd, se, q⟩
/-! ### comprehensions -/
/-- what comes of an item: nothing, or data -/
def Out (S : List Addr) (H : Hp) : Option PyData → Option V → Prop
  | some d, some v => Dt (rs S H) v d
  | none, none => True
  | _, _ => False
def accP (S : List Addr) (H1 : Hp) (D : Addr) (ds : List PyData) (H : Hp) : Prop := Same H1 H ∧ ∃ ys, H D = some (.lst ys) ∧ DtA (rs (D :: S) H) ys ds
theorem acc_step {S : List Addr} {H1 : Hp} {D : Addr} {sel : List (Option PyData)} {i : Nat} {o : Option PyData} {H H4 : Hp} (nD : H1 D = none) (ho : sel[i]? = some o) (hz : sel.length < sizeLine) (h : accP S H1 D ((sel.take i).filterMap id) H) (s4 : Same H H4) :
    ∀ y : Option V, Out (D :: S) H4 o y → match y with
      | some v => ∃ acc, H4 D = some (.lst acc) ∧ acc.length < sizeLine ∧ accP S H1 D ((sel.take (i + 1)).filterMap id) (upd H4 D (.lst (acc ++ [v])))
      | none => accP S H1 D ((sel.take (i + 1)).filterMap id) H4 := by
  obtain ⟨s, ys, hD, hy⟩ := h
  intro y hO
  rw [take_fm ho]
  cases o with
  | none =>
    cases y with
    | none => exact ⟨s.trans s4, ys, s4 _ _ hD, by simpa using hy.same (rs_same s4)⟩
    | some v => exact absurd hO (fun z => z)
  | some d =>
    cases y with
    | none => exact absurd hO (fun z => z)
    | some v =>
      refine ⟨ys, s4 _ _ hD, ?_, same_over nD (s.trans s4), ys ++ [v], upd_same, ?_⟩
      · rw [hy.len]
        exact Nat.lt_of_le_of_lt (fm_len sel i) hz
      · rw [rs_upd List.mem_cons_self]
        exact (hy.same (rs_same s4)).app (.cons hO .nil)
theorem acc_end {S : List Addr} {H1 : Hp} {D : Addr} {ds : List PyData} {H : Hp} (hS : Has S H1) (nD : H1 D = none) (h : accP S H1 D ds H) : Dt (rs S H) (.ref D) (.list ds) := by
  obtain ⟨s, ys, hD, hy⟩ := h
  exact .lst (by rw [rs_out (hS.out nD)]; exact hD) (hy.same over)
theorem lc_dR {lo : Int} {n : Nat} {j : Nat} {tt : TT} {te : TE} {vs : List Nat} {σ : L2.St} {H1 : Hp} {D : Addr} {Qd : Hp → Prop} {S : List Addr} (hS : Has S H1) (sel : List (Option PyData)) (nD : H1 D = none) (hlen : sel.length = n) (hz : n < sizeLine)
    (hw : ∀ x, wipe ((wipe σ vs).set j (some x)) vs = wipe σ vs)
    (hs : ∀ (i : Nat) (o : Option PyData) (H' : Hp), i < n → sel[i]? = some o → Same H1 H' → Has (D :: S) H' → ∀ Qt : Option V → Hp → Prop, (∀ y H'', Same H' H'' → Out (D :: S) H'' o y → Qt y H'') →
      tt ((wipe σ vs).set j (some (.int (lo + (i : Int))))) H' fun b H3 => if b = true then te ((wipe σ vs).set j (some (.int (lo + (i : Int))))) H3 fun y H4 => Qt (some y) H4 else Qt none H3)
    (hd : ∀ H', Same H1 H' → H' D ≠ none → Dt (rs S H') (.ref D) (.list (sel.filterMap id)) → Qd H') :
    ∃ W : Nat → Nat → Hp → Prop, (∃ m, W 0 m (upd H1 D (.lst []))) ∧ ∀ i m H, W i m H →
      ((Itr lo n).stop i H ∧ Qd H) ∨ ((Itr lo n).go i H ∧ ∃ Nx : Hp → Prop, (∀ H', Nx H' → ∃ m', m' < m ∧ W (i + 1) m' H') ∧ ∀ x H', (Itr lo n).yld i H x H' → gName j x (wipe σ vs) H' fun σ2 H2 => wipe σ2 vs = wipe σ vs ∧ tt σ2 H2 fun b H3 =>
        if b = true then te σ2 H3 fun y H4 => ∃ acc, H4 D = some (.lst acc) ∧ acc.length < sizeLine ∧ Nx (upd H4 D (.lst (acc ++ [y]))) else Nx H3) := by
  refine lc_range (lo := lo) (n := n) (fun i H => accP S H1 D ((sel.take i).filterMap id) H) ⟨same_upd nD, [], upd_same, .nil⟩ ?_ ?_
  · rintro i H hi h
    refine ⟨hw _, ?_⟩
    have ho : sel[i]? = some (sel[i]'(by omega)) := List.getElem?_eq_getElem (by omega)
    obtain ⟨s, ys, hD, hy⟩ := id h
    exact hs i _ H hi ho s ((hS.same s).cons hD) (fun o H4 => match o with
      | some y => ∃ acc, H4 D = some (.lst acc) ∧ acc.length < sizeLine ∧ accP S H1 D ((sel.take (i + 1)).filterMap id) (upd H4 D (.lst (acc ++ [y])))
      | none => accP S H1 D ((sel.take (i + 1)).filterMap id) H4) fun y H4 s4 hO => acc_step nD ho (by omega) h s4 y hO
  · rintro H h
    rw [← hlen, List.take_length] at h
    refine hd H h.1 ?_ (acc_end hS nD h)
    obtain ⟨_, ys, hD, _⟩ := h
    rw [hD]
    exact fun z => nomatch z
theorem lc_dL {K : PySem.W.Frag} {a : Addr} {xs : List V} {j : Nat} {tt : TT} {te : TE} {vs : List Nat} {σ : L2.St} {H1 : Hp} {D : Addr} {Qd : Hp → Prop} {S : List Addr} (hS : Has S H1) (sel : List (Option PyData)) (nD : H1 D = none) (hA : SqL K H1 a xs) (hlen : sel.length = xs.length) (hz : xs.length < sizeLine)
    (hw : ∀ x, wipe ((wipe σ vs).set j (some x)) vs = wipe σ vs)
    (hs : ∀ (i : Nat) (x : V) (o : Option PyData) (H' : Hp), xs[i]? = some x → sel[i]? = some o → Same H1 H' → Has (D :: S) H' → ∀ Qt : Option V → Hp → Prop, (∀ y H'', Same H' H'' → Out (D :: S) H'' o y → Qt y H'') →
      tt ((wipe σ vs).set j (some x)) H' fun b H3 => if b = true then te ((wipe σ vs).set j (some x)) H3 fun y H4 => Qt (some y) H4 else Qt none H3)
    (hd : ∀ H', Same H1 H' → H' D ≠ none → Dt (rs S H') (.ref D) (.list (sel.filterMap id)) → Qd H') :
    ∃ W : Nat → Nat → Hp → Prop, (∃ m, W 0 m (upd H1 D (.lst []))) ∧ ∀ i m H, W i m H →
      ((Itl K a).stop i H ∧ Qd H) ∨ ((Itl K a).go i H ∧ ∃ Nx : Hp → Prop, (∀ H', Nx H' → ∃ m', m' < m ∧ W (i + 1) m' H') ∧ ∀ x H', (Itl K a).yld i H x H' → gName j x (wipe σ vs) H' fun σ2 H2 => wipe σ2 vs = wipe σ vs ∧ tt σ2 H2 fun b H3 =>
        if b = true then te σ2 H3 fun y H4 => ∃ acc, H4 D = some (.lst acc) ∧ acc.length < sizeLine ∧ Nx (upd H4 D (.lst (acc ++ [y]))) else Nx H3) := by
  refine lc_list (K := K) (a := a) (xs := xs) (fun i H => accP S H1 D ((sel.take i).filterMap id) H) ⟨same_upd nD, [], upd_same, .nil⟩ (fun i H _ p => p.1.seq hA) ?_ ?_
  · rintro i x H hx h
    refine ⟨hw _, ?_⟩
    have hi := (List.getElem?_eq_some_iff.mp hx).1
    have ho : sel[i]? = some (sel[i]'(by omega)) := List.getElem?_eq_getElem (by omega)
    obtain ⟨s, ys, hD, hy⟩ := id h
    exact hs i x _ H hx ho s ((hS.same s).cons hD) (fun o H4 => match o with
      | some y => ∃ acc, H4 D = some (.lst acc) ∧ acc.length < sizeLine ∧ accP S H1 D ((sel.take (i + 1)).filterMap id) (upd H4 D (.lst (acc ++ [y])))
      | none => accP S H1 D ((sel.take (i + 1)).filterMap id) H4) fun y H4 s4 hO => acc_step nD ho (by omega) h s4 y hO
  · rintro H h
    rw [← hlen, List.take_length] at h
    refine hd H h.1 ?_ (acc_end hS nD h)
    obtain ⟨_, ys, hD, _⟩ := h
    rw [hD]
    exact fun z => nomatch z
/-- maps: each item's data -/
theorem sel_map {α : Type} (l : List α) (f : α → PyData) : (l.map fun x => some (f x)).filterMap id = l.map f := by
  induction l with
  | nil => rfl
  | cons x l ih =>
    show f x :: (l.map fun x => some (f x)).filterMap id = _
    rw [ih]
    rfl
/-- over any walk -/
theorem lc_dW {J : It} {n : Nat} {G : Hp → Prop} {Y : Nat → Hp → V → Hp → Prop} (w : Walk J n G Y) {g : TG} {tt : TT} {te : TE} {vs : List Nat} {σ : L2.St} {H1 : Hp} {D : Addr} {Qd : Hp → Prop} {S : List Addr} (hS : Has S H1) (sel : List (Option PyData)) (nD : H1 D = none) (hlen : sel.length = n) (hz : n < sizeLine)
    (hG : ∀ H', Same H1 H' → G H')
    (hs : ∀ (i : Nat) (o : Option PyData) (H0 : Hp) (x : V) (H' : Hp), i < n → sel[i]? = some o → Same H1 H0 → Has (D :: S) H0 → Y i H0 x H' → ∀ Qt : Option V → Hp → Prop, (∀ y H'', Same H0 H'' → Out (D :: S) H'' o y → Qt y H'') →
      g x (wipe σ vs) H' fun σ2 H2 => wipe σ2 vs = wipe σ vs ∧ tt σ2 H2 fun b H3 => if b = true then te σ2 H3 fun y H4 => Qt (some y) H4 else Qt none H3)
    (hd : ∀ H', Same H1 H' → H' D ≠ none → Dt (rs S H') (.ref D) (.list (sel.filterMap id)) → Qd H') :
    ∃ W : Nat → Nat → Hp → Prop, (∃ m, W 0 m (upd H1 D (.lst []))) ∧ ∀ i m H, W i m H →
      (J.stop i H ∧ Qd H) ∨ (J.go i H ∧ ∃ Nx : Hp → Prop, (∀ H', Nx H' → ∃ m', m' < m ∧ W (i + 1) m' H') ∧ ∀ x H', J.yld i H x H' → g x (wipe σ vs) H' fun σ2 H2 => wipe σ2 vs = wipe σ vs ∧ tt σ2 H2 fun b H3 =>
        if b = true then te σ2 H3 fun y H4 => ∃ acc, H4 D = some (.lst acc) ∧ acc.length < sizeLine ∧ Nx (upd H4 D (.lst (acc ++ [y]))) else Nx H3) := by
  refine lc_it w (fun i H => accP S H1 D ((sel.take i).filterMap id) H) ⟨same_upd nD, [], upd_same, .nil⟩ (fun i H _ p => hG H p.1) ?_ ?_
  · rintro i x H H' hi h y
    have ho : sel[i]? = some (sel[i]'(by omega)) := List.getElem?_eq_getElem (by omega)
    obtain ⟨s, ys, hD, hy⟩ := id h
    exact hs i _ H x H' hi ho s ((hS.same s).cons hD) y (fun o H4 => match o with
      | some y => ∃ acc, H4 D = some (.lst acc) ∧ acc.length < sizeLine ∧ accP S H1 D ((sel.take (i + 1)).filterMap id) (upd H4 D (.lst (acc ++ [y])))
      | none => accP S H1 D ((sel.take (i + 1)).filterMap id) H4) fun y H4 s4 hO => acc_step nD ho (by omega) h s4 y hO
  · rintro H h
    rw [← hlen, List.take_length] at h
    refine hd H h.1 ?_ (acc_end hS nD h)
    obtain ⟨_, ys, hD, _⟩ := h
    rw [hD]
    exact fun z => nomatch z
theorem dt_pairs {K : PySem.W.Frag} {H : Hp} {a : Addr} {ps : List (Int × Int)} (h : Dt H (.ref a) (.list (ps.map pairD))) : PairsAt K H a ps := by
  cases h with
  | lst ha hx =>
    rename_i xs
    have key : ∀ (ps : List (Int × Int)) (xs : List V), DtA H xs (ps.map pairD) → ∃ as : List Addr, xs = as.map V.ref ∧ as.length = ps.length ∧ ∀ (i : Nat) (t : Addr) (p : Int × Int), as[i]? = some t → ps[i]? = some p → SqT K H t [.int p.1, .int p.2] := fun ps => by
      induction ps with
      | nil => intro xs h; cases h; exact ⟨[], rfl, rfl, fun i t p ht => by simp at ht⟩
      | cons p ps ih =>
        intro xs h
        cases h with
        | cons b c =>
          obtain ⟨as, rfl, hl, k⟩ := ih _ c
          obtain ⟨t, ys, rfl, ht, hy⟩ := (show Dt H _ (.tuple [.int p.1, .int p.2]) from b).tupE
          rw [DtA.intsE (ns := [p.1, p.2]) hy] at ht
          refine ⟨t :: as, rfl, by rw [List.length_cons, List.length_cons, hl], fun i u q hu hq => ?_⟩
          cases i with
          | zero =>
            rw [List.getElem?_cons_zero] at hu hq
            cases hu
            cases hq
            exact .inl (.inl ht)
          | succ i =>
            rw [List.getElem?_cons_succ] at hu hq
            exact k i u q hu hq
    obtain ⟨as, rfl, hl, k⟩ := key ps xs hx
    exact ⟨as, .inl (.inl ha), hl, k⟩
end My

namespace My
open PySem PySem.Spec PyProof.Rows L2 Pre
open Sem (wp)
/-! ### zip(xs, ys, strict=True) of lists and tuples of one length -/
/-- a strict zip object -/
abbrev SZip (h : Heap) (z TI TO : Addr) (f0 : Value) : Prop :=
  h.get? z = some { cls := .type "zip", dict := none, data := .fields #[f0, .bool false, .bool true, .ref TI, .ref TO], slots := #[] }
section
variable {prog : Program} {w : World} {A : Around} {E : Value → Shared → Prop} {s : Shared}
theorem draw_some {it : Addr} {fp : List Addr} {n i : Nat} {Pd : Nat → Value → Prop} {St : Nat → Heap → Prop} {Q : Option Value → Shared → Prop} (Dr : Draws prog w A it fp n Pd St) (lt : i < n) (st : St i s.heap)
    (go : ∀ x g' tk, Pd i x → St (i + 1) g' → Heap.SameBut it s.heap g' → Q (some x) { s with heap := g', toks := tk }) : wpAny (model prog w) A (Builtin.SmallTypes.nextOrEnd (.ref it)) Q E s := by
  unfold Builtin.SmallTypes.nextOrEnd
  exact wpAny_bind (wpAny_attempt (Dr.item i _ _ _ lt st fun x g' tk px st' sb => wpAny_pure (go x g' tk px st' sb)))
theorem draw_none {it : Addr} {fp : List Addr} {n : Nat} {Pd : Nat → Value → Prop} {St : Nat → Heap → Prop} {Q : Option Value → Shared → Prop} (Dr : Draws prog w A it fp n Pd St) (st : St n s.heap)
    (go : ∀ g', Heap.ExtBut it s.heap g' → Q none { s with heap := g' }) : wpAny (model prog w) A (Builtin.SmallTypes.nextOrEnd (.ref it)) Q E s := by
  unfold Builtin.SmallTypes.nextOrEnd
  refine wpAny_bind (wpAny_attempt (Dr.done _ _ _ st fun g' e ext he => ?_))
  obtain ⟨o, ho, hc⟩ := he
  exact wpAny_bind (wpAny_isInstance (T := "StopIteration") (b := true) ⟨o, ho, hc⟩ isSubtype_stop (wpAny_pure (go g' ext)))
theorem stop_raised {α : Type} {Q : α → Shared → Prop} (hh : A.handled = none) (go : ∀ g' e, (∀ c o, s.heap.get? c = some o → g'.get? c = some o) → (∃ o, g'.get? e = some o ∧ o.cls = .type "StopIteration") → E (.ref e) { s with heap := g' }) :
    wpAny (model prog w) A (Builtin.SmallTypes.stopIteration (α := α)) Q E s := by
  (show wpAny _ _ (newExc (.type "StopIteration") [] >>= _) _ _ _); refine wpAny_bind ?_; simp only [newExc, newTuple]
  refine wpAny_bind (wpAny_newObj_type (wpAny_bind (m := firstArgMember _ _) (wpAny_of_eq (a := Value.none) (by first | rfl | (simp only [firstArgMember]; rfl)) (wpAny_newObj_type ?_ (by size_fits)))) (by size_fits))
  simp only [raiseNew]; refine wpAny_bind (wpAny_handled ?_); rw [hh]; refine wpAny_bind (wpAny_pure (wpAny_throw ?_))
  exact go _ _ (fun c o e => Heap.get?_push_of_some _ (Heap.get?_push_of_some _ e)) ⟨_, Heap.get?_push_size _ rfl, rfl⟩
theorem zs_next (hh : A.handled = none) {z TI TO i1 i2 : Addr} {fp1 fp2 : List Addr} {n i : Nat} {Pa Pb : Nat → Value → Prop} {Sa Sb : Nat → Heap → Prop} {a b : Value} {Q : Value → Shared → Prop} (S : ZipSep2 z TI TO i1 i2 fp1 fp2)
    (Da : Draws prog w A i1 fp1 n Pa Sa) (Db : Draws prog w A i2 fp2 n Pb Sb) (hz : SZip s.heap z TI TO .none) (hI : IsTupOf2 s.heap TI (.ref i1) (.ref i2)) (hO : IsTupOf2 s.heap TO a b) (sa : Sa i s.heap) (sb : Sb i s.heap) (le : i ≤ n)
    (goes : i < n → ∀ x y g' tk, Pa i x → Pb i y → SZip g' z TI TO (rawInt s.heap.objs.size) → IsTupOf2 g' TO x y → Sa (i + 1) g' → Sb (i + 1) g' → IsTupOf2 g' s.heap.objs.size x y → g'.objs.size = s.heap.objs.size + 1 →
      (∀ c o, c ≠ z → c ≠ TO → c ≠ i1 → c ≠ i2 → s.heap.get? c = some o → g'.get? c = some o) → Q (.ref s.heap.objs.size) { s with heap := g', toks := tk })
    (ends : i = n → ∀ g' tk e, (∀ c o, c ≠ z → c ≠ TO → c ≠ i1 → c ≠ i2 → s.heap.get? c = some o → g'.get? c = some o) → (∃ o, g'.get? e = some o ∧ o.cls = .type "StopIteration") → E (.ref e) { s with heap := g', toks := tk }) :
    wpAny (model prog w) A (Builtin.«zip.__next__» ⟨[.ref z], []⟩) (fun fin s' => ∃ v, fin = .done (.ret v) ∧ Q v s') E s := by
  obtain ⟨hp, gs, dr, tk0, os⟩ := s
  (show wpAny _ _ (field (.ref z) 2 >>= _) _ _ _); refine wpAny_bind (wpAny_field hz rfl (x := .bool true) rfl ?_)
  (show wpAny _ _ (field (.ref z) 3 >>= _) _ _ _); refine wpAny_bind (wpAny_field hz rfl (x := .ref TI) rfl (wpAny_bind (wpAny_seqItems hI rfl ?_)))
  (show wpAny _ _ (Builtin.SmallTypes.ownedTupleIsFree (.ref z) >>= _) _ _ _); refine wpAny_bind ?_; unfold Builtin.SmallTypes.ownedTupleIsFree
  refine wpAny_bind (wpAny_field hz rfl (x := .none) rfl (wpAny_pure ?_)); simp only [if_true]; refine wpAny_bind (wpAny_rule (wpAny_bind (wpAny_field hz rfl (x := .ref TO) rfl ?_)))
  refine wpAny_bind (wpAny_setField_rec hz (by simp) fun g0 hz0 k0 => ?_)
  replace hz0 : SZip g0 z TI TO .ellipsis := hz0; replace k0 : Heap.SameBut z hp g0 := k0
  refine wpAny_bind ?_; simp only [List.zipIdx_cons, List.zipIdx_nil, List.forIn_cons, List.forIn_nil]; refine wpAny_bind (wpAny_bind (wpAny_onRaise ?_))
  (show wpAny _ _ (Builtin.SmallTypes.nextOrEnd (.ref i1)) _ _ ⟨g0, gs, dr, tk0, os⟩)
  rcases Nat.lt_or_ge i n with lt | ge
  · refine draw_some Da lt (Da.over sa k0 S.zf1) fun x p1 tk1 hx sn1 k1 => ?_
    have u1 : IsTupOf2 p1 TO a b := k1.extBut _ _ S.Ti1 (k0.extBut _ _ S.TOz hO)
    refine wpAny_bind (wpAny_seqItems (s := ⟨p1, gs, dr, tk1, os⟩) u1 rfl (wpAny_bind (updateSeq_IsTupOf2 (s := ⟨p1, gs, dr, tk1, os⟩) u1 fun g1 t1 m1 => wpAny_bind (wpAny_letGo (wpAny_pure ?_)))))
    replace t1 : IsTupOf2 g1 TO x b := t1; replace m1 : Heap.SameBut TO p1 g1 := m1
    refine wpAny_bind (wpAny_bind (wpAny_onRaise ?_)); (show wpAny _ _ (Builtin.SmallTypes.nextOrEnd (.ref i2)) _ _ ⟨g1, gs, dr, tk1, os⟩)
    refine draw_some Db lt (Db.over (Db.over (Db.over sb k0 S.zf2) k1 S.sep1_2) m1 S.Tf2) fun y p2 tk2 hy sn2 k2 => ?_
    replace k2 : Heap.SameBut i2 g1 p2 := k2
    have u2 : IsTupOf2 p2 TO x b := k2.extBut _ _ S.Ti2 t1
    refine wpAny_bind (wpAny_seqItems (s := ⟨p2, gs, dr, tk2, os⟩) u2 rfl (wpAny_bind (updateSeq_IsTupOf2 (s := ⟨p2, gs, dr, tk2, os⟩) u2 fun g2 t2 m2 => wpAny_bind (wpAny_letGo (wpAny_pure (wpAny_pure ?_))))))
    replace t2 : IsTupOf2 g2 TO x y := t2; replace m2 : Heap.SameBut TO p2 g2 := m2
    refine wpAny_bind (wpAny_seqItems (s := ⟨g2, gs, dr, tk2, os⟩) t2 rfl (wpAny_bind (wpAny_newTuple ?_)))
    have size2 : g2.objs.size = hp.objs.size := by rw [m2.1, k2.1, m1.1, k1.1, k0.1]
    have zz : SZip g2 z TI TO .ellipsis := m2.extBut _ _ S.TOz.symm (k2.extBut _ _ S.zi2 (m1.extBut _ _ S.TOz.symm (k1.extBut _ _ S.zi1 hz0)))
    have stay : ∀ c o, c ≠ z → c ≠ TO → c ≠ i1 → c ≠ i2 → hp.get? c = some o → g2.get? c = some o := fun c o cz cT c1 c2 e => m2.extBut _ _ cT (k2.extBut _ _ c2 (m1.extBut _ _ cT (k1.extBut _ _ c1 (k0.extBut _ _ cz e))))
    have na : Sa (i + 1) g2 := Da.over (Da.over (Da.over sn1 m1 S.Tf1) k2 S.sep2_1) m2 S.Tf1
    have nb : Sb (i + 1) g2 := Db.over sn2 m2 S.Tf2
    have zl : z < g2.objs.size := Heap.lt_size zz
    (show wpAny _ _ (Builtin.SmallTypes.ownedTupleHandOut (.ref z) (.ref g2.objs.size) >>= _) _ _ ⟨g2.push { cls := .type "tuple", data := .seq #[x, y] }, gs, dr, tk2, os⟩); refine wpAny_bind ?_; unfold Builtin.SmallTypes.ownedTupleHandOut
    have z3 : SZip (g2.push { cls := .type "tuple", data := .seq #[x, y] }) z TI TO .ellipsis := Heap.get?_push_of_some _ zz
    refine wpAny_bind (wpAny_setField_rec z3 (by simp) fun g4 z4 k4 => ?_)
    replace z4 : SZip g4 z TI TO (rawInt g2.objs.size) := z4
    refine wpAny_setField_rec z4 (by simp) fun g5 z5 k5 => ?_
    replace z5 : SZip g5 z TI TO (rawInt g2.objs.size) := z5; replace k4 : Heap.SameBut z (g2.push { cls := .type "tuple", data := .seq #[x, y] }) g4 := k4; replace k5 : Heap.SameBut z g4 g5 := k5
    have up5 : ∀ c o, c ≠ z → g2.get? c = some o → g5.get? c = some o := fun c o cz e => k5.extBut _ _ cz (k4.extBut _ _ cz (Heap.get?_push_of_some _ e))
    have t5 : IsTupOf2 g5 g2.objs.size x y := k5.extBut _ _ (Nat.ne_of_gt zl) (k4.extBut _ _ (Nat.ne_of_gt zl) (Heap.get?_push_size _ rfl))
    have size5 : g5.objs.size = g2.objs.size + 1 := by rw [k5.1, k4.1, Heap.size_push]
    rw [size2] at z5 t5 size5
    refine wpAny_pure ⟨_, rfl, ?_⟩; (show Q (.ref g2.objs.size) ⟨g5, gs, dr, tk2, os⟩); rw [size2]
    exact goes lt x y g5 tk2 hx hy z5 (up5 _ _ S.TOz t2) (Da.frame _ _ _ na fun c hc o e => up5 c o (fun q => S.zf1 (q ▸ hc)) e) (Db.frame _ _ _ nb fun c hc o e => up5 c o (fun q => S.zf2 (q ▸ hc)) e) t5 size5 fun c o cz cT c1 c2 e => up5 c o cz (stay c o cz cT c1 c2 e)
  · have ei : i = n := Nat.le_antisymm le ge
    subst ei
    refine draw_none Da (Da.over sa k0 S.zf1) fun g1 x1 => ?_
    replace x1 : Heap.ExtBut i1 g0 g1 := x1
    have z1 : SZip g1 z TI TO .ellipsis := x1 _ _ S.zi1 hz0
    refine wpAny_bind (wpAny_setField_rec (s := ⟨g1, gs, dr, tk0, os⟩) z1 (by simp) fun g2 z2 k2 => ?_)
    replace k2 : Heap.SameBut z g1 g2 := k2
    refine wpAny_bind ?_
    (show wpAny _ _ (forIn _ _ _ >>= _) _ _ ⟨g2, gs, dr, tk0, os⟩)
    simp only [List.drop_succ_cons, List.drop_zero, List.zipIdx_cons, List.zipIdx_nil, List.forIn_cons, List.forIn_nil]
    refine wpAny_bind (wpAny_bind (wpAny_bind (draw_none Db (s := ⟨g2, gs, dr, tk0, os⟩) (Db.frame _ _ _ sb fun c hc o e => ?_) fun g3 x3 => ?_)))
    · have cz : c ≠ z := fun q => S.zf2 (q ▸ hc)
      exact k2.extBut _ _ cz (x1 _ _ (fun q => S.sep1_2 (q ▸ hc)) (k0.extBut _ _ cz e))
    simp only [Option.isSome_none, Bool.false_eq_true, if_false]
    refine wpAny_pure (wpAny_pure (wpAny_bind (wpAny_rule (stop_raised (s := ⟨g3, gs, dr, tk0, os⟩) hh fun g4 e x4 he => ?_))))
    exact ends rfl g4 tk0 e (fun c o cz _ c1 c2 q => x4 _ _ (x3 _ _ c2 (k2.extBut _ _ cz (x1 _ _ c1 (k0.extBut _ _ cz q))))) he
theorem sz_type {z TI TO : Addr} {f0 : Value} (hz : SZip s.heap z TI TO f0) : s.TypeIs (.ref z) "zip" := ⟨_, hz, rfl⟩
theorem zs_pyNext (hh : A.handled = none) {z TI TO i1 i2 : Addr} {fp1 fp2 : List Addr} {n i : Nat} {Pa Pb : Nat → Value → Prop} {Sa Sb : Nat → Heap → Prop} {a b : Value} {Q : Option Value → Shared → Prop} (S : ZipSep2 z TI TO i1 i2 fp1 fp2)
    (Da : Draws prog w A.in1 i1 fp1 n Pa Sa) (Db : Draws prog w A.in1 i2 fp2 n Pb Sb) (hz : SZip s.heap z TI TO .none) (hI : IsTupOf2 s.heap TI (.ref i1) (.ref i2)) (hO : IsTupOf2 s.heap TO a b) (sa : Sa i s.heap) (sb : Sb i s.heap) (le : i ≤ n)
    (goes : i < n → ∀ x y g' tk, Pa i x → Pb i y → SZip g' z TI TO (rawInt s.heap.objs.size) → IsTupOf2 g' TO x y → Sa (i + 1) g' → Sb (i + 1) g' → IsTupOf2 g' s.heap.objs.size x y → g'.objs.size = s.heap.objs.size + 1 →
      (∀ c o, c ≠ z → c ≠ TO → c ≠ i1 → c ≠ i2 → s.heap.get? c = some o → g'.get? c = some o) → Q (some (.ref s.heap.objs.size)) { s with heap := g', toks := tk })
    (ends : i = n → ∀ g' tk, (∀ c o, c ≠ z → c ≠ TO → c ≠ i1 → c ≠ i2 → s.heap.get? c = some o → g'.get? c = some o) → Q none { s with heap := g', toks := tk }) :
    wpAny (model prog w) A (pyNext (.ref z)) Q E s := by
  unfold pyNext
  refine wpAny_bind (wpAny_attempt (wpAny_callSpecial?_slot (name := Str.ofString "__next__") (sz_type hz) F.slot_zip_next (wpAny_call_entry F.slot_zip_next (sz_type hz) F.entry_zip_next (zs_next (A := A.in1) (show A.in1.handled = none from hh) S Da Db hz hI hO sa sb le (fun lt x y g' tk p1 p2 p3 p4 p5 p6 p7 p8 p9 => wpAny_pure (goes lt x y g' tk p1 p2 p3 p4 p5 p6 p7 p8 p9)) fun e1 g' tk e k he => ?_) (F.args_zip_next_1 _))))
  obtain ⟨o, ho, hc⟩ := he
  exact wpAny_bind (wpAny_isInstance (T := "StopIteration") (b := true) ⟨o, ho, hc⟩ isSubtype_stop (wpAny_pure (ends e1 g' tk k)))
theorem zs_go {elts : List Expr} {k1} {pos : Pos} {z TI TO T : Addr} {Q : Unit → Shared → Prop} (hz : SZip s.heap z TI TO (rawInt T)) (go : ∀ g', SZip g' z TI TO .none → Heap.SameBut z s.heap g' → Q () { s with heap := g' }) :
    wpAny (model prog w) A (letOwnedTupleGo (.Tuple elts k1 pos) (.ref z) (.ref T)) Q E s := by
  unfold letOwnedTupleGo
  refine wpAny_bind (wpAny_load hz ?_)
  show wpAny _ _ (if (["enumerate", "zip", "dict_itemiterator", "dict_reverseitemiterator", "odict_iterator", "itertools.zip_longest", "itertools.pairwise"].contains "zip" && (#[rawInt T, .bool false, .bool true, .ref TI, .ref TO] : Array Value)[0]? == some (rawInt T)) = true then _ else _) Q E s
  rw [if_pos (by simp)]; refine wpAny_bind (wpAny_rule ?_); (show wpAny _ _ (setField (.ref z) 0 .none) Q E s)
  exact wpAny_setField_rec hz (by simp) fun g' z' k' => go g' z' k'
theorem zs_iter {z TI TO : Addr} {f0 : Value} {Q : Value → Shared → Prop} (hz : SZip s.heap z TI TO f0) (go : Q (.ref z) s) : wpAny (model prog w) A (pyIter (.ref z)) Q E s := by
  refine wpAny_pyIter_slot (sz_type hz) F.slot_zip_iter (wpAny_call_entry F.slot_zip_iter (sz_type hz) F.entry_zip_iter ?_ (F.args_zip_iter_1 _))
  (show wpAny _ _ (ret (.ref z)) _ _ s); exact wpAny_pure ⟨_, rfl, "zip", _, sz_type hz, F.slot_zip_next.lookup, go⟩
end
end My

namespace My
open PySem PySem.Spec PyProof.Rows L2 Pre
open Sem (wp)
theorem zs_tc (a b : Value) : checkTypeCall "zip" ⟨[a, b], [("strict", .bool true)]⟩ = pure () := by kernel_rfl
theorem zs_nc (a b : Value) : checkBuiltinCall "zip.__new__" ⟨[.type "zip", a, b], [("strict", .bool true)]⟩ = pure () := by kernel_rfl
theorem zs_ao (a b c : Value) : argsOk "object.__init__" ⟨[a, b, c], [("strict", .bool true)]⟩ := by
  unfold argsOk; rw [signature?_of (id := "object.__init__") (n := ['_', '_', 't', 'i', 'n', 'i', '_', '_']) (o := ['t', 'c', 'e', 'j', 'b', 'o']) (by kernel_rfl) PySem.F.owner_object]; kernel_rfl
section
variable {prog : Program} {w : World} {A : Around} {E : Value → Shared → Prop} {s : Shared}
theorem zs_init (v a b : Value) : Meets (Builtin.«object.__init__» ⟨[v, a, b], [("strict", .bool true)]⟩) (fun _ R s => s.TypeIs v "zip" ∧ R (.ok (.ret .none)) s) := by
  refine Meets.of_wp fun prog w A R s hs => ?_
  obtain ⟨hT, hq⟩ := hs; have hl := PySem.F.called_zip.init.lookup; have hm := PySem.F.called_zip.made
  repeat (any_goals (first | assumption | wp_step))
  exact ⟨_, rfl, hq⟩
theorem zs_call {a b : Value} {S : PySem.Spec} {Q : Value → Shared → Prop} (g : Meets (Builtin.«zip.__new__» ⟨[.type "zip", a, b], [("strict", .bool true)]⟩) S) (h : S A.in1 (wants (fun v s' => s'.TypeIs v "zip" ∧ Q v s') E) s) :
    wpAny (model prog w) A (call (.type "zip") [a, b] [("strict", .bool true)]) Q E s := by
  have ft := PySem.F.called_zip
  obtain ⟨c, tl, hmro⟩ := ft.mro
  have hmade := ft.made
  have hsub := ft.sub
  refine wpAny_call (codeAny_of_tree ?_)
  show wpAny _ _ (callAny (.type "zip") _) _ _ _
  refine wpAny_pure ⟨Code.quiet_builtin _ (by decide +kernel), codeAny_builtin PySem.F.entry_type_call ?_⟩
  rw [Around.under_plain (weight_type_call_type "zip" [a, b] [("strict", .bool true)]) (units_type_call_type "zip" [a, b] [("strict", .bool true)])]
  have h1 := ft.notType
  have h2 := ft.canCreate
  have htc := zs_tc a b
  repeat (any_goals (first | assumption | wp_step))
  refine codeAny_mono (codeAny_call_builtin ft.plain PySem.F.entry_zip_new (wpAny_of_eq (zs_nc a b) (g prog w A.in1 _ s h))) fun r s₁ hr => ?_
  cases r with
  | error e => exact hr
  | ok fl =>
    cases fl with
    | ret obj =>
      obtain ⟨hT, hq⟩ := hr
      have hli := ft.init.lookup
      have hbi := ft.init.bind obj
      repeat (any_goals (first | assumption | wp_step))
      refine codeAny_mono (codeAny_call_builtin ft.init.plain PySem.F.entry_object_init (ft.init.check _ _ _ _ _ _ _ _ hT (zs_ao obj a b) (zs_init obj a b prog w A.in1 _ s₁ (show (fun (_ : Around) (R : Except Value Flow → Shared → Prop) (s : Shared) => s.TypeIs obj "zip" ∧ R (.ok (.ret .none)) s) A.in1 (wants (fun r s₂ => r = .none ∧ Q obj s₂) E) s₁ from ⟨hT, rfl, hq⟩)))) fun r₂ s₂ hr₂ => ?_
      cases r₂ with
      | error e => exact hr₂
      | ok fl₂ =>
        cases fl₂ with
        | ret r =>
          obtain ⟨rfl, hq⟩ := hr₂
          repeat (any_goals (first | assumption | wp_step))
        | _ => exact hr₂.elim
    | _ => exact hr.elim
end
abbrev zq1 (h : Heap) (a : Addr) : Heap := h.push { cls := .type "tuple_iterator", data := .fields #[.ref a, .int 0 0] }
abbrev zq2 (h : Heap) (a b : Addr) : Heap := (zq1 h a).push { cls := .type "list_iterator", data := .fields #[.ref b, .int 0 0] }
abbrev zq3 (h : Heap) (a b : Addr) : Heap := (zq2 h a b).push { cls := .type "tuple", data := .seq #[.ref h.objs.size, .ref (zq1 h a).objs.size] }
abbrev zq4 (h : Heap) (a b : Addr) : Heap := (zq3 h a b).push { cls := .type "tuple", data := .seq #[.none, .none] }
abbrev zq5 (h : Heap) (a b : Addr) : Heap := (zq4 h a b).push { cls := .type "zip", data := .fields #[.none, .bool false, .bool true, .ref (zq2 h a b).objs.size, .ref (zq3 h a b).objs.size] }
theorem zs_new (a b : Addr) (xs ys : Array Value) :
    Meets (Builtin.«zip.__new__» ⟨[.type "zip", .ref a, .ref b], [("strict", .bool true)]⟩) (fun _ R s => s.heap.IsTuple a xs ∧ s.heap.IsList b ys ∧
      R (.ok (.ret (.ref (zq4 s.heap a b).objs.size))) { s with heap := zq5 s.heap a b }) :=
  .of_wp fun prog w A R s h => by
    obtain ⟨hp, g, d, tk, os⟩ := s; obtain ⟨ha, hb, h⟩ := h; have hsub := sub_zip
    have hA : Heap.IsTuple (Shared.heap ⟨hp, g, d, tk, os⟩) a xs := ha; have hB : Heap.IsList (Shared.heap ⟨hp.push { cls := .type "tuple_iterator", data := .fields #[.ref a, .int 0 0] }, g, d, tk, os⟩) b ys := Heap.IsList.push hb _
    wp_walk using wpAny_pyIter_tuple hA, wpAny_pyIter_list hB
    exact ⟨_, rfl, h⟩
end My

namespace My
open PySem PySem.Spec PyProof.Rows L2 Pre
open Sem (wp)
section
variable {prog : Program} {w : World} {A : Around} {E : Value → Shared → Prop} {s : Shared}
theorem zs_made {a b : Addr} {xs ys : Array Value} {Q : Value → Shared → Prop} (ha : s.heap.IsTuple a xs) (hb : s.heap.IsList b ys)
    (go : ∀ g', SZip g' (s.heap.objs.size + 4) (s.heap.objs.size + 2) (s.heap.objs.size + 3) .none → IsTupOf2 g' (s.heap.objs.size + 2) (.ref s.heap.objs.size) (.ref (s.heap.objs.size + 1)) → IsTupOf2 g' (s.heap.objs.size + 3) .none .none →
      g'.IsTupleIter s.heap.objs.size a 0 → g'.IsListIter (s.heap.objs.size + 1) b 0 → (∀ c o, s.heap.get? c = some o → g'.get? c = some o) → Q (.ref (s.heap.objs.size + 4)) { s with heap := g' }) :
    wpAny (model prog w) A (call (.type "zip") [.ref a, .ref b] [("strict", .bool true)]) Q E s := by
  refine zs_call (zs_new a b xs ys) ⟨ha, hb, ?_⟩
  have n1 : (zq1 s.heap a).objs.size = s.heap.objs.size + 1 := Heap.size_push ..
  have n2 : (zq2 s.heap a b).objs.size = s.heap.objs.size + 2 := by rw [Heap.size_push, n1]
  have n3 : (zq3 s.heap a b).objs.size = s.heap.objs.size + 3 := by rw [Heap.size_push, n2]
  have n4 : (zq4 s.heap a b).objs.size = s.heap.objs.size + 4 := by rw [Heap.size_push, n3]
  have p : ∀ {h : Heap} {o o' : Obj} {c : Addr}, h.get? c = some o → (h.push o').get? c = some o := fun e => Heap.get?_push_of_some _ e
  have q5 : (zq5 s.heap a b).get? (zq4 s.heap a b).objs.size = some _ := Heap.get?_push_size _ rfl
  have q4 : (zq5 s.heap a b).get? (zq3 s.heap a b).objs.size = some _ := p (Heap.get?_push_size _ rfl)
  have q3 : (zq5 s.heap a b).get? (zq2 s.heap a b).objs.size = some _ := p (p (Heap.get?_push_size _ rfl))
  have q2 : (zq5 s.heap a b).get? (zq1 s.heap a).objs.size = some _ := p (p (p (Heap.get?_push_size _ rfl)))
  have q1 : (zq5 s.heap a b).get? s.heap.objs.size = some _ := p (p (p (p (Heap.get?_push_size _ rfl))))
  show _ ∧ _; rw [n2, n3, n4] at q5; rw [n1, n2] at q3; rw [n3] at q4; rw [n1] at q2; rw [n4]
  exact ⟨⟨_, q5, rfl⟩, go _ q5 q3 q4 ⟨_, q1, rfl, rfl⟩ ⟨_, q2, rfl, rfl⟩ fun c o x => p (p (p (p (p x))))⟩
end
/-- the tuple at a and the list at b, of one length, side by side -/
def ItzS (K : PySem.W.Frag) (a b : Addr) : It :=
  ⟨fun i H => ∃ (xs ys : List V), SqT K H a xs ∧ SqL K H b ys ∧ xs.length = ys.length ∧ i < xs.length,
    fun i H v H' => ∃ T x y, v = .ref T ∧ H T = none ∧ H' = upd H T (.tup [x, y]) ∧ (∀ xs, SqT K H a xs → xs[i]? = some x) ∧ ∀ ys, SqL K H b ys → ys[i]? = some y,
    fun i H => ∃ xs ys : List V, SqT K H a xs ∧ SqL K H b ys ∧ xs.length = i ∧ ys.length = i⟩
theorem turn_zs {P : Program} {w : World} {K : PySem.W.Frag} {elts : List Expr} {kk : Nat} {tpos : Pos} {a b z TI TO i1 i2 : Addr} (D : ZipApart z TI TO i1 i2 a b) :
    Turn P w K (.Tuple elts kk tpos) (ItzS K a b) [z, TI, TO, i1, i2] z (fun i h => SZip h z TI TO .none ∧ IsTupOf2 h TI (.ref i1) (.ref i2) ∧ (∃ x y, IsTupOf2 h TO x y) ∧ h.IsTupleIter i1 a i ∧ h.IsListIter i2 b i) := by
  have Sp : ZipSep2 z TI TO i1 i2 [i1, a] [i2, b] := ⟨D.TIz, D.TOz, D.TITO, D.TIi1, by simp, by simp [D.i1z.symm, D.l1z.symm], by simp [D.TOi1, D.l1TO.symm], D.TIi2, by simp, by simp [D.i2z.symm, D.l2z.symm], by simp [D.TOi2, D.l2TO.symm], by simp [D.i12, D.l2i1.symm], by simp [D.i12.symm, D.l1i2.symm]⟩
  refine ⟨by simp, fun i h st c hc => ?_, fun i h h' st k => ?_, ?_, ?_, fun A i s Q E st h => zs_iter st.1 h⟩
  · obtain ⟨hz, hTI, ⟨x, y, hTO⟩, ⟨o1, e1, _, d1⟩, ⟨o2, e2, _, d2⟩⟩ := st
    have e' : c = z ∨ c = TI ∨ c = TO ∨ c = i1 ∨ c = i2 := by simpa using hc
    rcases e' with q | q | q | q | q <;> rw [q]
    · exact ⟨_, hz, fun v q => nomatch q⟩
    · exact ⟨_, hTI, fun v q => nomatch q⟩
    · exact ⟨_, hTO, fun v q => nomatch q⟩
    · exact ⟨o1, e1, fun v q => by rw [d1] at q; cases q⟩
    · exact ⟨o2, e2, fun v q => by rw [d2] at q; cases q⟩
  · obtain ⟨hz, hTI, ⟨x, y, hTO⟩, h1, h2⟩ := st
    have kz := k z (by simp); have kI := k TI (by simp); have kO := k TO (by simp)
    exact ⟨kz _ hz, kI _ hTI, ⟨x, y, kO _ hTO⟩, h1.at fun o q => k i1 (by simp) o q, h2.at fun o q => k i2 (by simp) o q⟩
  · intro X hP hw hK hc i pins s σ H E I hf st hg
    subst hP; subst hw; subst hK
    obtain ⟨hz, hTI, ⟨x0, y0, hTO⟩, h1, h2⟩ := st; obtain ⟨xs, ys, hqx, hqy, hl, hi⟩ := hg
    obtain ⟨its, rv, p, _⟩ := I.tuple hqx; obtain ⟨its2, rv2, p2, _⟩ := I.list hqy
    have l1 := rv.length; have l2 := rv2.length
    have hzl : z < s.heap.objs.size := Heap.lt_size hz
    have hh : X.A.handled = none := I.ok.hd hc
    have Da := Draws.tuple (prog := X.prog) (w := X.w) (A := X.A.in1) (show X.A.in1.handled = none from hh) i1 a D.l1i1 its.toArray
    have Db0 := Draws.list (prog := X.prog) (w := X.w) (A := X.A.in1) (show X.A.in1.handled = none from hh) i2 b D.l2i2 its2.toArray
    have esz : its2.toArray.size = its.toArray.size := by simp; omega
    have Db : Draws X.prog X.w X.A.in1 i2 [i2, b] its.toArray.size (fun j v => its2.toArray[j]? = some v) (fun j h => h.IsListIter i2 b j ∧ h.IsList b its2.toArray) := by rw [← esz]; exact Db0
    have hin : i < its.toArray.size := by simp; omega
    refine zs_pyNext (s := s) hh Sp Da Db hz hTI hTO ⟨h1, p⟩ ⟨h2, p2.isList⟩ (Nat.le_of_lt hin) (fun _ u u2 h' tk px py z' TO' sa' sb' hT hsz hk => ?_) (fun e => absurd e (Nat.ne_of_lt hin))
    have hu : its[i]? = some u := by simpa using px
    have hu2 : its2[i]? = some u2 := by simpa using py
    obtain ⟨x, hx⟩ : ∃ x, xs[i]? = some x := ⟨_, List.getElem?_eq_getElem hi⟩
    obtain ⟨y, hy⟩ : ∃ y, ys[i]? = some y := ⟨_, List.getElem?_eq_getElem (hl ▸ hi)⟩
    obtain ⟨u', hu', ru⟩ := rv.get hx; obtain ⟨u2', hu2', ru2⟩ := rv2.get hy
    rw [hu] at hu'; cases hu'; rw [hu2] at hu2'; cases hu2'
    refine ⟨_, rfl, zs_go (s := { s with heap := h', toks := tk }) z' fun h'' z'' sb => ?_⟩
    have hT2 : h''.get? s.heap.objs.size = some { cls := .type "tuple", data := .seq #[u, u2] } := (sb.2 _ (Nat.ne_of_gt hzl)).trans hT
    have new : ObjOk X.prog X.w (upd H s.heap.objs.size (.tup [x, y])) h'' s.heap.objs.size (.tup [x, y]) := ⟨by show 2 ≤ sizeLine; decide, [u, u2], .cons ru (.cons ru2 .nil), ⟨_, hT2, rfl, _, rfl⟩⟩
    have I1 : Inv X pins σ (upd H s.heap.objs.size (.tup [x, y])) { s with heap := h'', toks := tk } :=
      I.turnedNew (t' := tk) (ch := [z, TI, TO, i1, i2]) (fun c o hb q => (sb.2 c (fun q' => hb (by simp [q']))).trans (hk c o (fun q' => hb (by simp [q'])) (fun q' => hb (by simp [q'])) (fun q' => hb (by simp [q'])) (fun q' => hb (by simp [q'])) q)) hf (Nat.le_refl _) new
    refine ⟨.ref s.heap.objs.size, _, I1, rfl, ⟨_, x, y, rfl, I.hok.fresh (Nat.le_refl _), rfl, fun l hl => by rw [I.tuple_inj hl hqx]; exact hx, fun l hl => by rw [I.list_inj hl hqy]; exact hy⟩, ⟨z'', (sb.2 _ D.TIz).trans (hk _ _ D.TIz D.TITO D.TIi1 D.TIi2 hTI), ⟨u, u2, (sb.2 _ D.TOz).trans TO'⟩, sa'.1.at fun o q => (sb.2 _ D.i1z).trans q, sb'.1.at fun o q => (sb.2 _ D.i2z).trans q⟩, fun c hcm => ?_⟩
    have hlt : c < s.heap.objs.size := by
      have e' : c = z ∨ c = TI ∨ c = TO ∨ c = i1 ∨ c = i2 := by simpa using hcm
      rcases e' with q | q | q | q | q <;> rw [q]
      · exact hzl
      · exact Heap.lt_size hTI
      · exact Heap.lt_size hTO
      · obtain ⟨_, e1, _⟩ := h1; exact Heap.lt_size e1
      · obtain ⟨_, e2, _⟩ := h2; exact Heap.lt_size e2
    rw [upd_ne (Nat.ne_of_lt hlt)]; exact (hf c hcm).1
  · intro X hP hw hK hc i pins s σ H E I hf st hg
    subst hP; subst hw; subst hK
    obtain ⟨hz, hTI, ⟨x0, y0, hTO⟩, h1, h2⟩ := st; obtain ⟨xs, ys, hqx, hqy, hl, hl2⟩ := hg
    obtain ⟨its, rv, p, _⟩ := I.tuple hqx; obtain ⟨its2, rv2, p2, _⟩ := I.list hqy
    have l1 := rv.length; have l2 := rv2.length
    have hh : X.A.handled = none := I.ok.hd hc
    have Da := Draws.tuple (prog := X.prog) (w := X.w) (A := X.A.in1) (show X.A.in1.handled = none from hh) i1 a D.l1i1 its.toArray
    have Db0 := Draws.list (prog := X.prog) (w := X.w) (A := X.A.in1) (show X.A.in1.handled = none from hh) i2 b D.l2i2 its2.toArray
    have esz : its2.toArray.size = its.toArray.size := by simp; omega
    have Db : Draws X.prog X.w X.A.in1 i2 [i2, b] its.toArray.size (fun j v => its2.toArray[j]? = some v) (fun j h => h.IsListIter i2 b j ∧ h.IsList b its2.toArray) := by rw [← esz]; exact Db0
    have hin : i = its.toArray.size := by simp; omega
    refine zs_pyNext (s := s) hh Sp Da Db hz hTI hTO ⟨h1, p⟩ ⟨h2, p2.isList⟩ (Nat.le_of_eq hin) (fun lt => absurd hin (Nat.ne_of_lt lt)) (fun _ h' tk hk => ⟨rfl, I.turnedL (t' := tk) (ch := [z, TI, TO, i1, i2]) (fun c o hb q => hk c o (fun q' => hb (by simp [q'])) (fun q' => hb (by simp [q'])) (fun q' => hb (by simp [q'])) (fun q' => hb (by simp [q'])) q) hf⟩)
section
variable {M : Model} {A : Around} {E : Value → Shared → Prop} {s : Shared} {env : Env}
theorem tykw {pos : Pos} {T : String} {e : Expr} {rest : List Expr} {kws : List Keyword} {Q : Value → Shared → Prop}
    (h : wpAny M A (spliced (backTo pos (starEach (e :: rest) env))) (fun vs s1 => wpAny M A (evalAll ((backToKw pos (keywordEach kws env)).map (·.2))) (fun ws s2 => wpAny M A (call (.type T) vs (((backToKw pos (keywordEach kws env)).filterMap (·.1)).zip ws)) Q E s2) E s1) E s)
    (he : backTo pos (starEach (e :: rest) env) = (false, eval e env) :: backTo pos (starEach rest env) := by rfl) (hp : (backTo pos (starEach (e :: rest) env)).any (·.1) = false := by rfl)
    (ha : (backToKw pos (keywordEach kws env)).all (·.1.isSome) = true := by rfl) (hk : (backToKw pos (keywordEach kws env)).any (·.1.isNone) = false := by rfl) : wpAny M A (callWith pos (.type T) [] (backTo pos (starEach (e :: rest) env)) (backToKw pos (keywordEach kws env))) Q E s := by
  unfold callWith
  refine wpAny_bind (wpAny_holding (wpAny_mono (Q := fun a s1 => wpAny M A (call (.type T) ([] ++ a.pos) a.kw) Q E s1) ?_ (fun a s1 h1 => wpAny_bind (wpAny_standAt ?_)) fun _ _ z => z))
  · rw [he] at h ⊢; exact evalArgs_kwB ha h
  · simp only [hp, hk, Bool.or_false]; refine wpAny_bind (wpAny_pure ?_)
    exact wpAny_bind (wpAny_mono h1 (fun r s2 hr => wpAny_bind (wpAny_holding (wpAny_point (wpAny_pure hr)))) fun _ _ z => z)
end
def iZipS (K : PySem.W.Frag) (ta tk : TA) : TI := fun σ H R => ta σ H fun vs H1 => tk σ H1 fun zs H2 => zs = [.bl true] ∧ ∃ a b xs ys, vs = [.ref a, .ref b] ∧ SqT K H2 a xs ∧ SqL K H2 b ys ∧ R (ItzS K a b) H2
theorem pi_zs {X : Cx} {e e2 : Expr} {kws : List Keyword} {ta tk : TA} {p pos tpos : Pos} {elts : List Expr} {kk : Nat} (hg : Gl X "zip") (hm : X.mg "zip" = none) (ha : PA X [e, e2] ta) (hk : PK X kws tk)
    (he : backTo pos (starEach [e, e2] X.env) = (false, eval e X.env) :: backTo pos (starEach [e2] X.env) := by rfl) (hp : (backTo pos (starEach [e, e2] X.env)).any (·.1) = false := by rfl)
    (hal : (backToKw pos (keywordEach kws X.env)).all (·.1.isSome) = true := by rfl) (hkn : (backToKw pos (keywordEach kws X.env)).any (·.1.isNone) = false := by rfl) (hks : (backToKw pos (keywordEach kws X.env)).filterMap (·.1) = [("strict" : Str)] := by rfl) :
    PI X (.Tuple elts kk tpos) (.Call (.Name "zip" p) [e, e2] kws pos) (iZipS X.K ta tk) := by
  refine ⟨fun pins s σ H R I h => wpAny_Call_Name_kw (ld_blt I hg hm PyProof.Rows.boot_zip (tykw (thn (ha.run pos pins s σ H _ I h) fun us s1 ⟨vs, H1, I1, r1, q1⟩ => thn (hk.run pos pins s1 σ H1 _ I1 q1) fun ws s2 ⟨zs, H2, I2, r2, q2⟩ => ?_) he hp hal hkn))⟩
  rw [hks]; obtain ⟨ez, a, b, xs, ys, ex, hqx, hqy, q⟩ := q2
  subst ez; subst ex
  cases r2 with
  | cons rb rr => cases rr; cases (show _ = Value.bool true from rb); cases r1 with
    | cons r rr => cases rr with
      | cons r' rr =>
        cases rr; cases r; cases r'
        obtain ⟨its, rv, p1, _⟩ := I2.tuple hqx; obtain ⟨its2, rv2, p2, _⟩ := I2.list hqy
        refine zs_made p1 p2.isList fun g' hz hTI hTO h1 h2 hk' => zs_iter hz ?_
        have I3 : Inv X pins σ H2 { s2 with heap := g' } := I2.kept (t' := s2.toks) hk'
        obtain ⟨o1, ho1, _⟩ := id p1
        refine ⟨s2.heap.objs.size + 4, [s2.heap.objs.size + 4, s2.heap.objs.size + 2, s2.heap.objs.size + 3, s2.heap.objs.size, s2.heap.objs.size + 1], _, _, H2, rfl, I3, turn_zs (PySem.W.ktu_apart s2.heap.objs.size a b (Heap.lt_size ho1) p2.lt), ⟨hz, hTI, ⟨_, _, hTO⟩, h1, h2⟩, fun c hcm => ?_, q⟩
        have hle : s2.heap.objs.size ≤ c := by
          have e' : c = s2.heap.objs.size + 4 ∨ c = s2.heap.objs.size + 2 ∨ c = s2.heap.objs.size + 3 ∨ c = s2.heap.objs.size ∨ c = s2.heap.objs.size + 1 := by simpa using hcm
          rcases e' with z | z | z | z | z <;> rw [z] <;> first | exact Nat.le_add_right _ _ | exact Nat.le_refl _
        exact I2.fpOk hle (I2.hok.fresh hle)
theorem walk_zs {K : PySem.W.Frag} {a b : Addr} {xs ys : List V} (hl : xs.length = ys.length) : Walk (ItzS K a b) xs.length (fun H => SqT K H a xs ∧ SqL K H b ys) (YPair (fun i => xs[i]?) (fun i => ys[i]?)) :=
  ⟨fun i _ hi q => ⟨xs, ys, q.1, q.2, hl, hi⟩, fun _ q => ⟨xs, ys, q.1, q.2, rfl, hl.symm⟩, fun i H v H' _ q ⟨T, x, z, h1, h2, h3, h4, h5⟩ => ⟨T, x, z, h1, h2, h3, h4 xs q.1, h5 ys q.2⟩⟩
theorem k_piZS {X : Cx} (K : PySem.W.Frag) (h : X.K = K) {e e2 : Expr} {kws : List Keyword} {ta tk : TA} {p pos tpos : Pos} {elts : List Expr} {kk : Nat} (hg : Gl X "zip") (hm : X.mg "zip" = none) (ha : PA X [e, e2] ta) (hk : PK X kws tk)
    (he : backTo pos (starEach [e, e2] X.env) = (false, eval e X.env) :: backTo pos (starEach [e2] X.env) := by rfl) (hp : (backTo pos (starEach [e, e2] X.env)).any (·.1) = false := by rfl)
    (hal : (backToKw pos (keywordEach kws X.env)).all (·.1.isSome) = true := by rfl) (hkn : (backToKw pos (keywordEach kws X.env)).any (·.1.isNone) = false := by rfl) (hks : (backToKw pos (keywordEach kws X.env)).filterMap (·.1) = [("strict" : Str)] := by rfl) :
    PI X (.Tuple elts kk tpos) (.Call (.Name "zip" p) [e, e2] kws pos) (iZipS K ta tk) := by subst h; exact pi_zs hg hm ha hk he hp hal hkn hks
end My

namespace My
/-! ### steps of a mixer -/
inductive Step
  | turn (i : Nat)
  | swap (i j : Nat)
  | lift (t : Nat) (ws : List Int) (sh : Nat)
  deriving DecidableEq
def dotP : List Int → List Int → Int
  | w :: ws, x :: xs => w * x + dotP ws xs
  | _, _ => 0
def stepF (way : Int) : Step → List Int → List Int
  | .turn i, xs => xs.set i (0 - xs.getD i 0)
  | .swap i j, xs => (xs.set i (xs.getD j 0)).set j (xs.getD i 0)
  | .lift t ws sh, xs => xs.set t (xs.getD t 0 + way * (dotP ws xs / 2 ^ sh))
def Step.ok (n : Nat) : Step → Prop
  | .turn i => i < n
  | .swap i j => i < n ∧ j < n ∧ i ≠ j
  | .lift t ws sh => t < n ∧ ws.length = n ∧ ws.getD t 0 = 0 ∧ sh ≤ 15 ∧ ∀ w ∈ ws, -32768 ≤ w ∧ w ≤ 32768
theorem stepF_len (way : Int) (s : Step) (xs : List Int) : (stepF way s xs).length = xs.length := by
  cases s <;> simp [stepF]
theorem dot_set (v : Int) : ∀ (ws xs : List Int) (t : Nat), ws.getD t 0 = 0 → dotP ws (xs.set t v) = dotP ws xs
  | [], xs, t, _ => by cases xs <;> cases t <;> rfl
  | w :: ws, [], t, _ => by cases t <;> rfl
  | w :: ws, x :: xs, 0, h => by
    have hw : w = 0 := h
    show w * v + dotP ws xs = w * x + dotP ws xs
    rw [hw, Int.zero_mul, Int.zero_mul]
  | w :: ws, x :: xs, t + 1, h => by
    show w * x + dotP ws (xs.set t v) = w * x + dotP ws xs
    rw [dot_set v ws xs t h]
theorem getD_set {xs : List Int} {i j : Nat} {v : Int} (h : i < xs.length) : (xs.set i v).getD j 0 = if i = j then v else xs.getD j 0 := by
  rw [List.getD_eq_getElem?_getD, List.getElem?_set, List.getD_eq_getElem?_getD]
  by_cases c : i = j
  · rw [if_pos c, if_pos h, if_pos c]
    rfl
  · rw [if_neg c, if_neg c]
theorem ext_getD {xs ys : List Int} (hl : xs.length = ys.length) (h : ∀ i, i < xs.length → xs.getD i 0 = ys.getD i 0) : xs = ys := by
  apply List.ext_getElem hl
  intro i h1 h2
  have := h i h1
  rwa [List.getD_eq_getElem?_getD, List.getD_eq_getElem?_getD, List.getElem?_eq_getElem h1, List.getElem?_eq_getElem h2] at this
/-- one way and the other -/
theorem step_back (way : Int) {s : Step} {xs : List Int} (h : s.ok xs.length) : stepF (-way) s (stepF way s xs) = xs := by
  refine ext_getD (by rw [stepF_len, stepF_len]) fun k hk => ?_
  cases s with
  | turn i =>
    have hi : i < xs.length := h
    show ((xs.set i (0 - xs.getD i 0)).set i (0 - (xs.set i (0 - xs.getD i 0)).getD i 0)).getD k 0 = _
    rw [getD_set (by rw [List.length_set]; exact hi), getD_set hi, getD_set hi, if_pos rfl]
    by_cases c : i = k
    · rw [if_pos c, c]
      omega
    · rw [if_neg c, if_neg c]
  | swap i j =>
    obtain ⟨hi, hj, hij⟩ : i < xs.length ∧ j < xs.length ∧ i ≠ j := h
    have e : ∀ k, (stepF way (.swap i j) xs).getD k 0 = if j = k then xs.getD i 0 else if i = k then xs.getD j 0 else xs.getD k 0 := fun k => by
      show ((xs.set i (xs.getD j 0)).set j (xs.getD i 0)).getD k 0 = _
      rw [getD_set (by rw [List.length_set]; exact hj), getD_set hi]
    show (((stepF way (.swap i j) xs).set i ((stepF way (.swap i j) xs).getD j 0)).set j ((stepF way (.swap i j) xs).getD i 0)).getD k 0 = _
    rw [getD_set (by rw [List.length_set, stepF_len]; exact hj), getD_set (by rw [stepF_len]; exact hi)]
    by_cases c : j = k
    · rw [if_pos c, e i, if_neg (fun z => hij z.symm), if_pos rfl, c]
    · rw [if_neg c]
      by_cases d : i = k
      · rw [if_pos d, e j, if_pos rfl, d]
      · rw [if_neg d, e k, if_neg c, if_neg d]
  | lift t ws sh =>
    obtain ⟨ht, hl, hz, _, _⟩ : t < xs.length ∧ ws.length = xs.length ∧ ws.getD t 0 = 0 ∧ sh ≤ 15 ∧ _ := h
    show ((xs.set t (xs.getD t 0 + way * (dotP ws xs / 2 ^ sh))).set t ((xs.set t (xs.getD t 0 + way * (dotP ws xs / 2 ^ sh))).getD t 0 + -way * (dotP ws (xs.set t (xs.getD t 0 + way * (dotP ws xs / 2 ^ sh))) / 2 ^ sh))).getD k 0 = _
    rw [getD_set (by rw [List.length_set]; exact ht), getD_set ht, getD_set ht, if_pos rfl, dot_set _ _ _ _ hz, Int.neg_mul]
    by_cases c : t = k
    · rw [if_pos c, c]
      omega
    · rw [if_neg c, if_neg c]
def playF (ss : List Step) (xs : List Int) : List Int := ss.foldl (fun x s => stepF 1 s x) xs
def backF (ss : List Step) (xs : List Int) : List Int := ss.reverse.foldl (fun x s => stepF (-1) s x) xs
theorem play_len : ∀ (ss : List Step) (xs : List Int), (playF ss xs).length = xs.length
  | [], _ => rfl
  | s :: ss, xs => by
    show (playF ss (stepF 1 s xs)).length = _
    rw [play_len ss, stepF_len]
theorem back_cons (s : Step) (ss : List Step) (xs : List Int) : backF (s :: ss) xs = stepF (-1) s (backF ss xs) := by
  unfold backF
  rw [List.reverse_cons, List.foldl_append]
  rfl
theorem back_len : ∀ (ss : List Step) (xs : List Int), (backF ss xs).length = xs.length
  | [], _ => rfl
  | s :: ss, xs => by rw [back_cons, stepF_len, back_len ss]
theorem play_back {n : Nat} : ∀ {ss : List Step} {xs : List Int}, (∀ s ∈ ss, s.ok n) → xs.length = n → backF ss (playF ss xs) = xs
  | [], _, _, _ => rfl
  | s :: ss, xs, h, hx => by
    rw [back_cons]
    show stepF (-1) s (backF ss (playF ss (stepF 1 s xs))) = xs
    rw [play_back (fun t ht => h t (List.mem_cons_of_mem _ ht)) (by rw [stepF_len, hx])]
    exact step_back 1 (hx ▸ h s List.mem_cons_self)
theorem back_play {n : Nat} : ∀ {ss : List Step} {xs : List Int}, (∀ s ∈ ss, s.ok n) → xs.length = n → playF ss (backF ss xs) = xs
  | [], _, _, _ => rfl
  | s :: ss, xs, h, hx => by
    rw [back_cons]
    show playF ss (stepF 1 s (stepF (-1) s (backF ss xs))) = xs
    have e := step_back (-1) (s := s) (xs := backF ss xs) (by rw [back_len, hx]; exact h s List.mem_cons_self)
    rw [Int.neg_neg] at e
    rw [e, back_play (fun t ht => h t (List.mem_cons_of_mem _ ht)) hx]
end My

namespace My
open PySem PySem.Spec PyProof.Rows L2 Pre
/-! ### steps in a heap -/
def sT : V := .str ("turn" : String)
def sS : V := .str ("swap" : String)
def sL : V := .str ("lift" : String)
/-- a step as it is handed in; N holds of the list of a lift's weights -/
def StepV (N : Addr → Prop) (H : Hp) (v : V) : Step → Prop
  | .turn i => ∃ t, v = .ref t ∧ H t = some (.tup [sT, .int i])
  | .swap i j => ∃ t, v = .ref t ∧ H t = some (.tup [sS, .int i, .int j])
  | .lift a ws sh => ∃ t l, v = .ref t ∧ H t = some (.tup [sL, .int a, .ref l, .int sh]) ∧ H l = some (.lst (ws.map V.int)) ∧ N l
/-- a step as a mixer keeps it -/
def RowV (H : Hp) (v : V) : Step → Prop
  | .turn i => ∃ t, v = .ref t ∧ H t = some (.tup [sT, .int i])
  | .swap i j => ∃ t, v = .ref t ∧ H t = some (.tup [sS, .int i, .int j])
  | .lift a ws sh => ∃ t l, v = .ref t ∧ H t = some (.tup [sL, .int a, .ref l, .int sh]) ∧ H l = some (.tup (ws.map V.int))
def AllV (R : V → Step → Prop) : List V → List Step → Prop
  | [], [] => True
  | v :: vs, s :: ss => R v s ∧ AllV R vs ss
  | _, _ => False
theorem AllV.len {R : V → Step → Prop} : ∀ {vs : List V} {ss : List Step}, AllV R vs ss → vs.length = ss.length
  | [], [], _ => rfl
  | _ :: vs, _ :: ss, h => by rw [List.length_cons, List.length_cons, AllV.len h.2]
  | [], _ :: _, h => h.elim
  | _ :: _, [], h => h.elim
theorem AllV.get {R : V → Step → Prop} : ∀ {vs : List V} {ss : List Step} {i : Nat} {v : V}, AllV R vs ss → vs[i]? = some v → ∃ s, ss[i]? = some s ∧ R v s
  | [], _, _, _, _, k => by simp at k
  | _ :: _, [], _, _, h, _ => h.elim
  | _ :: _, s :: ss, 0, _, h, k => by
    rw [List.getElem?_cons_zero] at k
    cases k
    exact ⟨s, rfl, h.1⟩
  | _ :: vs, s :: ss, i + 1, _, h, k => by
    rw [List.getElem?_cons_succ] at k
    rw [List.getElem?_cons_succ]
    exact AllV.get h.2 k
theorem AllV.imp {R R' : V → Step → Prop} (f : ∀ v s, R v s → R' v s) : ∀ {vs : List V} {ss : List Step}, AllV R vs ss → AllV R' vs ss
  | [], [], _ => trivial
  | _ :: _, _ :: _, h => ⟨f _ _ h.1, AllV.imp f h.2⟩
  | [], _ :: _, h => h.elim
  | _ :: _, [], h => h.elim
theorem AllV.app {R : V → Step → Prop} : ∀ {vs us : List V} {ss ts : List Step}, AllV R vs ss → AllV R us ts → AllV R (vs ++ us) (ss ++ ts)
  | [], _, [], _, _, k => k
  | _ :: _, _, _ :: _, _, h, k => ⟨h.1, AllV.app h.2 k⟩
  | [], _, _ :: _, _, h, _ => h.elim
  | _ :: _, _, [], _, h, _ => h.elim
theorem AllV.rev {R : V → Step → Prop} : ∀ {vs : List V} {ss : List Step}, AllV R vs ss → AllV R vs.reverse ss.reverse
  | [], [], _ => trivial
  | v :: vs, s :: ss, h => by
    rw [List.reverse_cons, List.reverse_cons]
    exact AllV.app (AllV.rev h.2) ⟨h.1, trivial⟩
  | [], _ :: _, h => h.elim
  | _ :: _, [], h => h.elim
theorem StepV.mono {N N' : Addr → Prop} {H : Hp} {v : V} {s : Step} (f : ∀ l, N l → N' l) (h : StepV N H v s) : StepV N' H v s := by
  cases s with
  | turn i => exact h
  | swap i j => exact h
  | lift a ws sh =>
    obtain ⟨t, l, e, h1, h2, h3⟩ := h
    exact ⟨t, l, e, h1, h2, f _ h3⟩
theorem StepV.same {N : Addr → Prop} {H H' : Hp} {v : V} {s : Step} (k : Same H H') (h : StepV N H v s) : StepV N H' v s := by
  cases s with
  | turn i => obtain ⟨t, e, h1⟩ := h; exact ⟨t, e, k _ _ h1⟩
  | swap i j => obtain ⟨t, e, h1⟩ := h; exact ⟨t, e, k _ _ h1⟩
  | lift a ws sh =>
    obtain ⟨t, l, e, h1, h2, h3⟩ := h
    exact ⟨t, l, e, k _ _ h1, k _ _ h2, h3⟩
/-- what changes are things of M alone -/
def Lk (M : Addr → Prop) (H H' : Hp) : Prop := ∀ b o, ¬ M b → H b = some o → H' b = some o
/-- lists that were not there before -/
def Fl (H0 H : Hp) (b : Addr) : Prop := H0 b = none ∧ ∃ xs, H b = some (.lst xs)
theorem Lk.refl {M : Addr → Prop} {H : Hp} : Lk M H H := fun _ _ _ h => h
theorem Lk.trans {M : Addr → Prop} {H H1 H2 : Hp} (a : Lk M H H1) (b : Lk M H1 H2) : Lk M H H2 := fun c o n h => b c o n (a c o n h)
theorem Lk.of {M : Addr → Prop} {H H1 : Hp} (s : Same H H1) : Lk M H H1 := fun c o _ h => s c o h
theorem Lk.at_ {M : Addr → Prop} {H : Hp} {p : Addr} {o : HO} (m : M p) : Lk M H (upd H p o) := fun c u n h => by
  rw [upd_ne (fun z => n (by rw [z]; exact m))]
  exact h
theorem Lk.tup {H0 H H' : Hp} {M : Addr → Prop} (k : Lk M H H') (a : ∀ b, M b → ∃ xs, H b = some (.lst xs)) {t : Addr} {xs : List V} (h : H t = some (.tup xs)) : H' t = some (.tup xs) := k _ _ (fun m => by
  obtain ⟨ys, e⟩ := a t m
  rw [h] at e
  cases e) h
theorem Lk.same {M : Addr → Prop} {H H1 H' : Hp} (k : Lk M H1 H') (s : Same H H1) (n : ∀ b, M b → H b = none) : Same H H' := fun b o e => k b o (fun m => by rw [n b m] at e; cases e) (s b o e)
theorem StepV.lk {M N : Addr → Prop} {H H' : Hp} {v : V} {s : Step} (k : Lk M H H') (a : ∀ b, M b → ∃ xs, H b = some (.lst xs)) (n : ∀ l, N l → ¬ M l) (h : StepV N H v s) : StepV N H' v s := by
  cases s with
  | turn i => obtain ⟨t, e, h1⟩ := h; exact ⟨t, e, Lk.tup (H0 := H) k a h1⟩
  | swap i j => obtain ⟨t, e, h1⟩ := h; exact ⟨t, e, Lk.tup (H0 := H) k a h1⟩
  | lift b ws sh =>
    obtain ⟨t, l, e, h1, h2, h3⟩ := h
    exact ⟨t, l, e, Lk.tup (H0 := H) k a h1, k _ _ (n l h3) h2, h3⟩
theorem RowV.same {H H' : Hp} {v : V} {s : Step} (k : Same H H') (h : RowV H v s) : RowV H' v s := by
  cases s with
  | turn i => obtain ⟨t, e, h1⟩ := h; exact ⟨t, e, k _ _ h1⟩
  | swap i j => obtain ⟨t, e, h1⟩ := h; exact ⟨t, e, k _ _ h1⟩
  | lift a ws sh =>
    obtain ⟨t, l, e, h1, h2⟩ := h
    exact ⟨t, l, e, k _ _ h1, k _ _ h2⟩
theorem RowV.lk {M : Addr → Prop} {H H' : Hp} {v : V} {s : Step} (k : Lk M H H') (a : ∀ b, M b → ∃ xs, H b = some (.lst xs)) (h : RowV H v s) : RowV H' v s := by
  cases s with
  | turn i => obtain ⟨t, e, h1⟩ := h; exact ⟨t, e, Lk.tup (H0 := H) k a h1⟩
  | swap i j => obtain ⟨t, e, h1⟩ := h; exact ⟨t, e, Lk.tup (H0 := H) k a h1⟩
  | lift b ws sh =>
    obtain ⟨t, l, e, h1, h2⟩ := h
    exact ⟨t, l, e, Lk.tup (H0 := H) k a h1, Lk.tup (H0 := H) k a h2⟩
/-- a list of steps; N holds of the lists of weights -/
def StepsAt (N : Addr → Prop) (H : Hp) (p : Addr) (ss : List Step) : Prop := ∃ vs, H p = some (.lst vs) ∧ AllV (StepV N H) vs ss
/-- a mixer at a, its rows at r -/
def MixAt (C : Addr) (H : Hp) (a r : Addr) (n : Nat) (ss : List Step) : Prop := ∃ dx vs, H a = some (.ins C dx [("many", .int n), ("rows", .ref r)]) ∧ H r = some (.lst vs) ∧ AllV (RowV H) vs ss
theorem StepsAt.same {N : Addr → Prop} {H H' : Hp} {p : Addr} {ss : List Step} (h : StepsAt N H p ss) (k : Same H H') : StepsAt N H' p ss := by
  obtain ⟨vs, h1, h2⟩ := h
  exact ⟨vs, k _ _ h1, h2.imp fun v s => StepV.same k⟩
theorem StepsAt.mono {N N' : Addr → Prop} {H : Hp} {p : Addr} {ss : List Step} (h : StepsAt N H p ss) (f : ∀ l, N l → N' l) : StepsAt N' H p ss := by
  obtain ⟨vs, h1, h2⟩ := h
  exact ⟨vs, h1, h2.imp fun v s => StepV.mono f⟩
theorem StepsAt.lk {M N : Addr → Prop} {H H' : Hp} {p : Addr} {ss : List Step} (h : StepsAt N H p ss) (k : Lk M H H') (a : ∀ b, M b → ∃ xs, H b = some (.lst xs)) (n : ∀ l, N l → ¬ M l) (np : ¬ M p) : StepsAt N H' p ss := by
  obtain ⟨vs, h1, h2⟩ := h
  exact ⟨vs, k _ _ np h1, h2.imp fun v s => StepV.lk k a n⟩
theorem MixAt.same {C : Addr} {H H' : Hp} {a r : Addr} {n : Nat} {ss : List Step} (h : MixAt C H a r n ss) (k : Same H H') : MixAt C H' a r n ss := by
  obtain ⟨dx, vs, h1, h2, h3⟩ := h
  exact ⟨dx, vs, k _ _ h1, k _ _ h2, h3.imp fun v s => RowV.same k⟩
theorem MixAt.lk {C : Addr} {M : Addr → Prop} {H H' : Hp} {a r : Addr} {n : Nat} {ss : List Step} (h : MixAt C H a r n ss) (k : Lk M H H') (al : ∀ b, M b → ∃ xs, H b = some (.lst xs)) (nr : ¬ M r) : MixAt C H' a r n ss := by
  obtain ⟨dx, vs, h1, h2, h3⟩ := h
  exact ⟨dx, vs, k _ _ (fun m => by obtain ⟨xs, e⟩ := al a m; rw [h1] at e; cases e) h1, k _ _ nr h2, h3.imp fun v s => RowV.lk k al⟩
/-! ### steps as data -/
def stepD : Step → PyData
  | .turn i => .tuple [.str ("turn" : String), .int i]
  | .swap i j => .tuple [.str ("swap" : String), .int i, .int j]
  | .lift a ws sh => .tuple [.str ("lift" : String), .int a, .list (ws.map PyData.int), .int sh]
def rowT : Step → PyData
  | .turn i => .tuple [.str ("turn" : String), .int i]
  | .swap i j => .tuple [.str ("swap" : String), .int i, .int j]
  | .lift a ws sh => .tuple [.str ("lift" : String), .int a, .tuple (ws.map PyData.int), .int sh]
theorem StepV.dt {N : Addr → Prop} {H : Hp} {v : V} {s : Step} (h : StepV N H v s) : Dt H v (stepD s) := by
  cases s with
  | turn i => obtain ⟨t, rfl, h1⟩ := h; exact .tup h1 (.cons (.str _) (.cons (.int _) .nil))
  | swap i j => obtain ⟨t, rfl, h1⟩ := h; exact .tup h1 (.cons (.str _) (.cons (.int _) (.cons (.int _) .nil)))
  | lift a ws sh =>
    obtain ⟨t, l, rfl, h1, h2, _⟩ := h
    exact .tup h1 (.cons (.str _) (.cons (.int _) (.cons (.lst h2 (DtA.ints ws)) (.cons (.int _) .nil))))
theorem RowV.dt {H : Hp} {v : V} {s : Step} (h : RowV H v s) : Dt H v (rowT s) := by
  cases s with
  | turn i => obtain ⟨t, rfl, h1⟩ := h; exact .tup h1 (.cons (.str _) (.cons (.int _) .nil))
  | swap i j => obtain ⟨t, rfl, h1⟩ := h; exact .tup h1 (.cons (.str _) (.cons (.int _) (.cons (.int _) .nil)))
  | lift a ws sh =>
    obtain ⟨t, l, rfl, h1, h2⟩ := h
    exact .tup h1 (.cons (.str _) (.cons (.int _) (.cons (.tup h2 (DtA.ints ws)) (.cons (.int _) .nil))))
theorem AllV.dts {N : Addr → Prop} {H : Hp} : ∀ {vs : List V} {ss : List Step}, AllV (StepV N H) vs ss → DtA H vs (ss.map stepD)
  | [], [], _ => .nil
  | _ :: _, _ :: _, h => .cons h.1.dt (AllV.dts h.2)
  | [], _ :: _, h => h.elim
  | _ :: _, [], h => h.elim
theorem AllV.dtr {H : Hp} : ∀ {vs : List V} {ss : List Step}, AllV (RowV H) vs ss → DtA H vs (ss.map rowT)
  | [], [], _ => .nil
  | _ :: _, _ :: _, h => .cons h.1.dt (AllV.dtr h.2)
  | [], _ :: _, h => h.elim
  | _ :: _, [], h => h.elim
theorem stepD_lay (s : Step) : PyData.canLay0 (stepD s) = true := by
  cases s with
  | turn i => simp only [stepD, PyData.canLay0, PyData.canLayAll0, Bool.and_true]; decide +kernel
  | swap i j => simp only [stepD, PyData.canLay0, PyData.canLayAll0, Bool.and_true]; decide +kernel
  | lift a ws sh => simp only [stepD, PyData.canLay0, PyData.canLayAll0, lay_ints, Bool.and_true]; decide +kernel
theorem rowT_lay (s : Step) : PyData.canLay0 (rowT s) = true := by
  cases s with
  | turn i => simp only [rowT, PyData.canLay0, PyData.canLayAll0, Bool.and_true]; decide +kernel
  | swap i j => simp only [rowT, PyData.canLay0, PyData.canLayAll0, Bool.and_true]; decide +kernel
  | lift a ws sh => simp only [rowT, PyData.canLay0, PyData.canLayAll0, lay_ints, Bool.and_true]; decide +kernel
theorem stepD_deep (s : Step) : PyData.depth (stepD s) ≤ 2 := by
  cases s <;> simp [stepD, PyData.depth, PyData.depthAll, depth_ints]
theorem rowT_deep (s : Step) : PyData.depth (rowT s) ≤ 2 := by
  cases s <;> simp [rowT, PyData.depth, PyData.depthAll, depth_ints]
theorem all_lay {f : Step → PyData} (h : ∀ s, PyData.canLay0 (f s) = true) : ∀ ss : List Step, PyData.canLayAll0 (ss.map f) = true
  | [] => rfl
  | s :: ss => by
    show (PyData.canLay0 (f s) && PyData.canLayAll0 (ss.map f)) = true
    rw [h, all_lay h ss]
    rfl
theorem all_deep {f : Step → PyData} (h : ∀ s, PyData.depth (f s) ≤ 2) : ∀ ss : List Step, PyData.depthAll (ss.map f) ≤ 2
  | [] => by simp [PyData.depthAll]
  | s :: ss => by
    show PyData.depthAll (f s :: ss.map f) ≤ 2
    rw [PyData.depthAll]
    have := h s
    have := all_deep h ss
    omega
theorem steps_shaped (ss : List Step) : SeqAt.shaped (.list (ss.map stepD)) = true := by
  show (PyData.canLay0 (.list (ss.map stepD)) && decide (PyData.depth (.list (ss.map stepD)) ≤ 64)) = true
  rw [Bool.and_eq_true]
  have := all_deep stepD_deep ss
  exact ⟨by rw [PyData.canLay0]; exact all_lay stepD_lay ss, decide_eq_true (by rw [PyData.depth]; omega)⟩
def mixD (n : Nat) (ss : List Step) : PyData := .tuple [.int n, .list (ss.map rowT)]
theorem mix_lay (n : Nat) (ss : List Step) : PyData.canLay0 (mixD n ss) = true := by
  unfold mixD
  simp only [PyData.canLay0, PyData.canLayAll0, all_lay rowT_lay ss, Bool.and_true]
theorem mix_shaped (n : Nat) (ss : List Step) : SeqAt.shaped (mixD n ss) = true := by
  show (PyData.canLay0 (mixD n ss) && decide (PyData.depth (mixD n ss) ≤ 64)) = true
  rw [Bool.and_eq_true]
  have := all_deep rowT_deep ss
  refine ⟨mix_lay n ss, decide_eq_true ?_⟩
  unfold mixD
  simp only [PyData.depth, PyData.depthAll]
  omega
theorem eqv_len : ∀ {ds es : List PyData}, ds.length ≠ es.length → PyData.eqvAll ds es = false
  | [], [], h => absurd rfl h
  | [], _ :: _, _ => by simp [PyData.eqvAll]
  | _ :: _, [], _ => by simp [PyData.eqvAll]
  | d :: ds, e :: es, h => by
    rw [PyData.eqvAll, eqv_len (ds := ds) (es := es) (fun z => h (by rw [List.length_cons, List.length_cons, z])), Bool.and_false]
theorem mix_other (n : Nat) {ss ts : List Step} (h : ss.length ≠ ts.length) : PyData.eqv (mixD n ss) (mixD n ts) = false := by
  unfold mixD
  rw [PyData.eqv, PyData.eqvAll, PyData.eqvAll, PyData.eqv, PyData.eqv, eqv_len (by rw [List.length_map, List.length_map]; exact h), Bool.false_and, Bool.and_false]
end My

namespace My
open PySem PySem.Spec PyProof.Rows L2 Pre
local macro_rules | `(tactic| walk_at "go") => `(tactic| repeat (first | (with_reducible first | refine iteT ?_ | refine iteF ?_ | refine iteNtt ?_ | refine iteNff ?_ | refine iteET (by omega) ?_ | refine iteEF (by omega) ?_ | refine iteENT (by omega) ?_ | refine iteENF (by omega) ?_ | refine iteDT (by omega) ?_ | refine iteDF (by omega) ?_ | refine iteNT (by omega) ?_ | refine iteNF (by omega) ?_) | refine ⟨_, rfl, ?_⟩ | refine ⟨_, _, rfl, rfl, ?_⟩ | refine ⟨_, _, rfl, ?_⟩ | refine ⟨rfl, ?_⟩ | refine .inl ⟨_, rfl, ?_⟩ | refine .inr ⟨_, rfl, ?_⟩))
local macro_rules | `(tactic| walk_at "b") => `(tactic| try dsimp (config := { proj := false, iota := false, eta := false, zeta := false }) only)
section
variable {P : Program} {w : World} {K : PySem.W.Frag} {mg : Str → Option Value} {base : Heap}
def sp_law_purse (K : PySem.W.Frag) : Sp := fun vs H Q _ => ∃ (a : Addr) (ns : List Int) (i : Nat), vs = [.ref a, .int i] ∧ SqL K H a (ns.map V.int) ∧ ∀ H' g, Same H H' → H g = none → GenAt H' g (1000 * i) → Q (.ref g) H'
theorem G_law_purse (T : Top K mg) : FnOk P w K mg base CX0 1 T.f_law_purse T.fd_law_purse ["_law_script", "_law_at"] (sp_law_purse K) := by
  refine T.F_law_purse.ok sc_law_purse (fun vs H Q E h => by obtain ⟨a, ns, i, rfl, _⟩ := h; rfl) (fun cdv A outer s H vs Q E hr h => ?_)
  obtain ⟨a, ns, i, rfl, hS, q⟩ := h
  refine ⟨_, PSs.nox (pss_cons (ps_set (i := 2) sc_law_purse.nd rfl (by first | exact Or.inl rfl | exact Or.inr rfl) (pe_callTy call_int1 (by rfl) T.n_int (by decide +kernel) (pa_cons (pe_ifExp (pt_cmpR op_lt (pv 1) (pe_callB (k_len K rfl) (by rfl) T.n_len (by decide +kernel) (pa_cons (pv 0) pa_nil)) (nomark _)) (pe_ix (k_ixL K rfl) (pv 0) (pv 1) (fun _ _ => rfl)) (pe_op op_mod (pe_callB (k_sum K rfl rfl) (by rfl) T.n_sum (by decide +kernel) (pa_cons (pe_slice (k_slL K rfl) (pv 0) po_none (po_some pe_int)) pa_nil)) pe_int)) pa_nil)))
  (pss_one (ps_ret (pe_lst (pa_cons (pe_op op_mul (pe_callTy call_int1 (by rfl) T.n_int (by decide +kernel) (pa_cons (pe_cmpR op_ge (pv 2) (pe_op op_powW pe_int pe_int) (nomark _)) pa_nil)) (pe_op op_mod (pv 2) (pe_op op_powW (pe_op op_powW pe_int pe_int) pe_int))) (pa_cons (pe_op op_mod (pv 2) pe_int) (pa_cons (pe_op op_mul pe_int (pv 1)) pa_nil))))))), ?_⟩
  refine ⟨_, rfl, _, rfl, a, _, rfl, .inl hS, _, _, rfl, rfl, _, rfl, ite2 (fun e => ?_) (fun e => ?_)⟩
  · have e1 : (i : Int) < (((ns.map V.int).length : Nat) : Int) := of_decide_eq_true e
    rw [List.length_map] at e1
    have hi : i < ns.length := by omega
    have s1 : Same H H := Same.refl _
    refine ⟨_, rfl, _, rfl, a, _, _, .int ns[i], rfl, rfl, hS, atI_nat (by rw [List.getElem?_map, List.getElem?_eq_getElem hi]; rfl), ?_⟩
    refine .inl ⟨_, rfl, ?_⟩
    walk_at "go"
    refine ⟨⟨by decide, by decide +kernel⟩, ?_⟩
    walk_at "go"
    refine ⟨⟨by decide, by decide +kernel⟩, ?_⟩
    walk_at "go"
    refine ⟨⟨by decide, by decide +kernel⟩, ?_⟩
    walk_at "go"
    refine ⟨(by show (0 : Int) < _; decide +kernel), ?_⟩
    refine ⟨_, _, rfl, rfl, .inl ⟨by split <;> decide, by split <;> decide⟩, ?_⟩
    walk_at "go"
    refine ⟨(by show (0 : Int) < _; decide), ?_⟩
    walk_at "go"
    refine ⟨.inl ⟨by decide, by decide⟩, (show 3 ≤ sizeLine by decide), fun g ng => ?_⟩
    exact q _ g (s1.trans (same_upd ng)) (s1.free ng) ⟨_, _, _, upd_same, by omega, by omega⟩
  · refine ⟨_, rfl, _, rfl, a, _, rfl, hS, fun p np => ?_⟩
    have ec : ∃ ms : List Int, cutV (ns.map V.int) none (some 1) = ms.map V.int := by
      unfold cutV
      exact ⟨(ns.drop (HT.sIx (ns.map V.int).length 0 none)).take (HT.sIx (ns.map V.int).length (ns.map V.int).length (some 1) - HT.sIx (ns.map V.int).length 0 none), by rw [List.map_take, List.map_drop]⟩
    obtain ⟨ms, em⟩ := ec
    have s1 : Same H (upd H p (.lst (cutV (ns.map V.int) none (some 1)))) := same_upd np
    refine ⟨p, ms, rfl, .inl (.inl (by rw [upd_same, em])), _, _, rfl, rfl, (by show (0 : Int) < 1000003; decide), ?_⟩
    refine .inl ⟨_, rfl, ?_⟩
    walk_at "go"
    refine ⟨⟨by decide, by decide +kernel⟩, ?_⟩
    walk_at "go"
    refine ⟨⟨by decide, by decide +kernel⟩, ?_⟩
    walk_at "go"
    refine ⟨⟨by decide, by decide +kernel⟩, ?_⟩
    walk_at "go"
    refine ⟨(by show (0 : Int) < _; decide +kernel), ?_⟩
    refine ⟨_, _, rfl, rfl, .inl ⟨by split <;> decide, by split <;> decide⟩, ?_⟩
    walk_at "go"
    refine ⟨(by show (0 : Int) < _; decide), ?_⟩
    walk_at "go"
    refine ⟨.inl ⟨by decide, by decide⟩, (show 3 ≤ sizeLine by decide), fun g ng => ?_⟩
    exact q _ g (s1.trans (same_upd ng)) (s1.free ng) ⟨_, _, _, upd_same, by omega, by omega⟩
def sp_law_draw : Sp := fun vs H Q _ => ∃ (g : Addr) (b : Int) (n : Nat), vs = [.ref g, .int b] ∧ GenAt H g n ∧ n ≤ 10 ^ 12 ∧ 0 < b ∧ b < 2 ^ 2900 ∧ ∀ (d : Int) H', 0 ≤ d → d < b → GenAt H' g (n + 100) → But g H H' → Q (.int d) H'
theorem G_law_draw (T : Top K mg) : FnOk P w K mg base CX0 1 T.f_law_draw T.fd_law_draw ["_law_purse_here", "_law_many"] sp_law_draw := by
  refine T.F_law_draw.ok sc_law_draw (fun vs H Q E h => by obtain ⟨g, b, n, rfl, _⟩ := h; rfl) (fun cdv A outer s H vs Q E hr h => ?_)
  obtain ⟨g, b, n, rfl, ⟨x, y, z, hg, z0, z1⟩, hn, b0, b1, q⟩ := h
  refine ⟨_, PSs.nox (pss_cons (ps_if (pt_cmpR op_gt (pe_ix (k_ixL K rfl) (pv 0) pe_int (fun _ _ => rfl)) pe_int (nomark _))
    (pss_cons (ps_set (i := 3) sc_law_draw.nd rfl (by first | exact Or.inl rfl | exact Or.inr rfl) (pe_op op_mod (pe_ix (k_ixL K rfl) (pv 0) pe_int (fun _ _ => rfl)) (pv 1)))
  (pss_cons (ps_asg (pe_op op_fdivW (pe_ix (k_ixL K rfl) (pv 0) pe_int (fun _ _ => rfl)) (pv 1)) (pg_sub (pv 0) pe_int set_list))
  (pss_one (ps_ret (pv 3)))))
    pss_nil)
  (pss_cons (ps_asg (pe_op op_add (pe_ix (k_ixL K rfl) (pv 0) pe_int (fun _ _ => rfl)) pe_int) (pg_sub (pv 0) pe_int set_list))
  (pss_cons (ps_set (i := 2) sc_law_draw.nd rfl (by first | exact Or.inl rfl | exact Or.inr rfl) (pe_op op_mod (pe_op op_add (pe_op op_add (pe_op op_mul (pe_ix (k_ixL K rfl) (pv 0) pe_int (fun _ _ => rfl)) pe_int) (pe_op op_mul (pe_ix (k_ixL K rfl) (pv 0) pe_int (fun _ _ => rfl)) pe_int)) pe_int) pe_int))
  (pss_cons (ps_set (i := 2) sc_law_draw.nd rfl (by first | exact Or.inl rfl | exact Or.inr rfl) (pe_op op_mod (pe_op op_add (pe_op op_mul (pv 2) (pv 2)) (pe_ix (k_ixL K rfl) (pv 0) pe_int (fun _ _ => rfl))) pe_int))
  (pss_cons (ps_set (i := 2) sc_law_draw.nd rfl (by first | exact Or.inl rfl | exact Or.inr rfl) (pe_op op_mod (pe_op op_add (pe_op op_mul (pv 2) (pv 2)) pe_int) pe_int))
  (pss_one (ps_ret (pe_op op_mod (pe_op op_fdivW (pv 2) pe_int) (pv 1))))))))), ?_⟩
  have a0 : ∀ x y z : Int, atI [V.int x, .int y, .int z] 0 = some (.int x) := fun _ _ _ => rfl
  have a1 : ∀ x y z : Int, atI [V.int x, .int y, .int z] 1 = some (.int y) := fun _ _ _ => rfl
  have a2 : ∀ x y z : Int, atI [V.int x, .int y, .int z] 2 = some (.int z) := fun _ _ _ => rfl
  have hS : SqL K H g [.int x, .int y, .int z] := .inl (.inl hg)
  have nb : b.natAbs < 2 ^ 2900 := by
    have e : ((b.natAbs : Nat) : Int) < ((2 ^ 2900 : Nat) : Int) := by
      rw [Int.natCast_pow]
      omega
    exact Int.ofNat_lt.mp e
  refine ⟨_, rfl, g, _, 0, _, rfl, rfl, hS, a0 x y z, _, _, rfl, rfl, _, rfl, ite2 (fun e => ?_) (fun e => ?_)⟩
  · refine ⟨_, rfl, g, _, 0, _, rfl, rfl, hS, a0 x y z, _, rfl, _, _, rfl, rfl, b0, ?_⟩
    refine ⟨_, rfl, g, _, 0, _, rfl, rfl, hS, a0 x y z, _, rfl, _, _, rfl, rfl, wide_div b0 nb (by decide) (by decide), _, rfl, g, _, 0, 0, rfl, rfl, hg, rfl, _, rfl, ?_⟩
    exact q _ _ (Int.emod_nonneg _ (by omega)) (Int.emod_lt_of_pos _ b0) ⟨_, _, _, upd_same, z0, by omega⟩ (But.upd But.refl)
  · refine ⟨_, rfl, g, _, 2, _, rfl, rfl, hS, a2 x y z, _, _, rfl, rfl, _, rfl, g, _, 2, 2, rfl, rfl, hg, rfl, ?_⟩
    have hg2 : upd H g (.lst [V.int x, .int y, .int (z + 1)]) g = some (.lst [V.int x, .int y, .int (z + 1)]) := upd_same
    have b2 : But g H (upd H g (.lst [V.int x, .int y, .int (z + 1)])) := But.upd But.refl
    rw [show ([V.int x, V.int y, V.int z].set 2 (V.int (z + 1))) = [V.int x, .int y, .int (z + 1)] from rfl]
    generalize upd H g (.lst [V.int x, .int y, .int (z + 1)]) = H2 at *
    have hS2 : SqL K H2 g [.int x, .int y, .int (z + 1)] := .inl (.inl hg2)
    walk_at "go"
    refine ⟨g, _, 1, _, rfl, rfl, hS2, a1 _ _ _, ?_⟩
    walk_at "go"
    refine ⟨.inr ⟨by decide, by decide⟩, ?_⟩
    walk_at "go"
    refine ⟨g, _, 2, _, rfl, rfl, hS2, a2 _ _ _, ?_⟩
    walk_at "go"
    refine ⟨.inr ⟨by decide, by decide⟩, ?_⟩
    walk_at "go"
    refine ⟨(by show (0 : Int) < _; decide), ?_⟩
    walk_at "go"
    refine ⟨cmul_mod _ _ _ (by decide) (by decide), ?_⟩
    walk_at "go"
    refine ⟨g, _, 2, _, rfl, rfl, hS2, a2 _ _ _, ?_⟩
    walk_at "go"
    refine ⟨(by show (0 : Int) < _; decide), ?_⟩
    walk_at "go"
    refine ⟨cmul_mod _ _ _ (by decide) (by decide), ?_⟩
    walk_at "go"
    refine ⟨(by show (0 : Int) < _; decide), ?_⟩
    walk_at "go"
    refine ⟨⟨by decide, by decide⟩, ?_⟩
    walk_at "go"
    refine ⟨b0, ?_⟩
    exact q _ _ (Int.emod_nonneg _ (by omega)) (Int.emod_lt_of_pos _ b0) ⟨_, _, _, hg2, by omega, by omega⟩ b2
end
end My

namespace My
open PySem PySem.Spec PyProof.Rows L2 Pre
theorem ty_list {K : PySem.W.Frag} {H : Hp} {a : Addr} {xs : List V} (h : H a = some (.lst xs)) : TyX K H (.ref a) (.type "list") := .base (.lst h)
theorem ty_tup {K : PySem.W.Frag} {H : Hp} {a : Addr} {xs : List V} (h : H a = some (.tup xs)) : TyX K H (.ref a) (.type "tuple") := .base (.tup h)
theorem fm_non0 {α β : Type} (l : List α) : (l.map fun _ => (none : Option β)).filterMap id = [] := by
  induction l with
  | nil => rfl
  | cons n r ih => simp
local macro_rules | `(tactic| walk_at "go") => `(tactic| repeat (first | (with_reducible first | refine iteT ?_ | refine iteF ?_ | refine iteNtt ?_ | refine iteNff ?_ | refine iteET (by omega) ?_ | refine iteEF (by omega) ?_ | refine iteENT (by omega) ?_ | refine iteENF (by omega) ?_ | refine iteDT (by omega) ?_ | refine iteDF (by omega) ?_ | refine iteNT (by omega) ?_ | refine iteNF (by omega) ?_) | refine ⟨_, rfl, ?_⟩ | refine ⟨_, _, rfl, rfl, ?_⟩ | refine ⟨_, _, rfl, ?_⟩ | refine ⟨rfl, ?_⟩ | refine .inl ⟨_, rfl, ?_⟩ | refine .inr ⟨_, rfl, ?_⟩))
local macro_rules | `(tactic| walk_at "b") => `(tactic| try dsimp (config := { proj := false, iota := false, eta := false, zeta := false }) only)
section
variable {P : Program} {w : World} {K : PySem.W.Frag} {mg : Str → Option Value} {base : Heap}
def sp_are_wholes : Sp := fun vs H Q _ => ∃ (a : Addr) (ns : List Int), vs = [.ref a] ∧ H a = some (.lst (ns.map V.int)) ∧ ns.length ≤ 1000 ∧ ∀ H', Same H H' → Q (.bl true) H'
theorem G_are_wholes (T : Top K mg) : FnOk P w K mg base CX0 2 T.f_are_wholes T.fd_are_wholes ["value"] sp_are_wholes := by
  refine T.F_are_wholes.ok sc_are_wholes (fun vs H Q E h => by obtain ⟨a, ns, rfl, _⟩ := h; rfl) (fun cdv A outer s H vs Q E hr h => ?_)
  obtain ⟨a, ns, rfl, hA, hn, q⟩ := h
  refine ⟨_, PSs.nox (pss_one (ps_ret (pe_and (pe_callB (k_isi K rfl) (by rfl) T.n_isinstance (by decide +kernel) (pa_cons (pv 0) (pa_cons (pe_bltn (v := .ty "list") (by rfl) T.n_list (by decide +kernel) rfl) pa_nil))) (pe_one (pe_cmpR (k_eqD K rfl hr.units) (pe_lc (own := [("item", 1)]) (g := gName 1) (by rfl) sc_are_wholes.nd (k_piL K rfl (pv 0)) (blkOk_by (own := [("item", 1)]) (N := N_are_wholes) (sc := defScope s_are_wholes) (by decide +kernel)) (fun _ _ _ _ _ => (pg_name (i := 1) sc_are_wholes.nd rfl (by first | exact Or.inl rfl | exact Or.inr rfl))) (fun _ _ _ _ _ => (pts_one (pt_not (pt_val (pe_call (G_is_whole T) (hr.mono (by decide)) (by rfl) T.g_is_whole T.F_is_whole.kp T.b_is_whole .nil pass0 (pa_cons (pv 1) pa_nil)))))) (fun _ _ _ _ _ => (pv 1))) (pe_lst pa_nil) (nomark _)))))), ?_⟩
  have hS : SqL K H a (ns.map V.int) := .inl (.inl hA)
  refine ⟨_, rfl, _, _, _, _, true, rfl, .ty _, ty_list hA, kit_ty (by decide +kernel), true, rfl, iteT ?_⟩
  refine ⟨_, rfl, a, rfl, ⟨_, hS⟩, fun D nD => ?_⟩
  refine lc_selL (K := K) (xs := ns.map V.int) (ns.map fun _ => none) nD hS (by rw [List.length_map, List.length_map]) (by rw [List.length_map]; exact small1000 hn) (fun x => rfl) ?_ ?_
  · intro i x o H' hx ho s Qt qt
    obtain ⟨n, hn, rfl⟩ := int_at hx
    rw [List.getElem?_map, hn] at ho
    cases ho
    refine ⟨_, rfl, n, rfl, true, rfl, ?_⟩
    exact qt _ (Same.refl _)
  · intro H' s hD
    rw [fm_non0] at hD
    refine ⟨Nat.zero_le _, fun p np => ?_⟩
    refine eq_lst (ns := []) (.inl (.inl (same_upd np _ _ hD))) (.inl (.inl upd_same)) ?_
    exact q _ (s.trans (same_upd np))
def sp_is_lift : Sp := fun vs H Q _ => ∃ (v : V) (n : Nat) (s : Step), vs = [v, .int n] ∧ StepV (fun _ => True) H v s ∧ s.ok n ∧ n ≤ 4 ∧ ∀ H', Same H H' → Q (.bl (match s with | .lift .. => true | _ => false)) H'
theorem G_is_lift (T : Top K mg) : FnOk P w K mg base CX0 3 T.f_is_lift T.fd_is_lift ["value", "wide"] sp_is_lift := by
  refine T.F_is_lift.ok sc_is_lift (fun vs H Q E h => by obtain ⟨v, n, s, rfl, _⟩ := h; rfl) (fun cdv A outer s H vs Q E hr h => ?_)
  obtain ⟨v, n, s, rfl, hV, hO, hn, q⟩ := h
  refine ⟨_, PSs.nox (pss_cons (ps_if (PW.pt (pw_or (pt_not (pt_val (pe_callB (k_isi K rfl) (by rfl) T.n_isinstance (by decide +kernel) (pa_cons (pv 0) (pa_cons (pe_bltn (v := .ty "tuple") (by rfl) T.n_tuple (by decide +kernel) rfl) pa_nil))))) (pw_or (pt_cmpR op_ne (pe_callB (k_len K rfl) (by rfl) T.n_len (by decide +kernel) (pa_cons (pv 0) pa_nil)) pe_int (nomark _)) (pw_or1 (pt_cmpR op_ne (pe_ix (k_ixT K rfl) (pv 0) pe_int (fun _ _ => rfl)) pe_str (nomark _))))))
    (pss_one (ps_ret pe_bl))
    pss_nil)
  (pss_cons (ps_if (PW.pt (pw_or (pt_not (pt_val (pe_call (G_is_between T) (hr.mono (by decide)) (by rfl) T.g_is_between T.F_is_between.kp T.b_is_between .nil pass0 (pa_cons (pe_ix (k_ixT K rfl) (pv 0) pe_int (fun _ _ => rfl)) (pa_cons pe_int (pa_cons (pe_op op_sub (pv 1) pe_int) pa_nil)))))) (pw_or1 (pt_not (pt_val (pe_call (G_is_between T) (hr.mono (by decide)) (by rfl) T.g_is_between T.F_is_between.kp T.b_is_between .nil pass0 (pa_cons (pe_ix (k_ixT K rfl) (pv 0) pe_int (fun _ _ => rfl)) (pa_cons pe_int (pa_cons pe_non pa_nil)))))))))
    (pss_one (ps_ret pe_bl))
    pss_nil)
  (pss_one (ps_ret (pe_and (pe_call (G_are_wholes T) (hr.mono (by decide)) (by rfl) T.g_are_wholes T.F_are_wholes.kp T.b_are_wholes .nil pass0 (pa_cons (pe_ix (k_ixT K rfl) (pv 0) pe_int (fun _ _ => rfl)) pa_nil)) (pe_and (pe_cmpR op_eq (pe_callB (k_len K rfl) (by rfl) T.n_len (by decide +kernel) (pa_cons (pe_ix (k_ixT K rfl) (pv 0) pe_int (fun _ _ => rfl)) pa_nil)) (pv 1) (nomark _)) (pe_one (pe_cmpR op_eq (pe_ix (k_ixL K rfl) (pe_ix (k_ixT K rfl) (pv 0) pe_int (fun _ _ => rfl)) (pe_ix (k_ixT K rfl) (pv 0) pe_int (fun _ _ => rfl)) (fun _ _ => rfl)) pe_int (nomark _))))))))), ?_⟩
  cases s with
  | turn i =>
    obtain ⟨t, rfl, ht⟩ := hV
    refine ⟨_, rfl, _, _, _, _, true, rfl, .ty _, ty_tup ht, kit_ty (by decide +kernel), true, rfl, ?_⟩
    walk_at "go"
    refine ⟨t, _, rfl, .inr (.inl (.inl ht)), ?_⟩
    walk_at "go"
    walk_at "b"
    refine iteENT (by show ¬ ((2 : Int) = 4); decide) ?_
    walk_at "go"
    exact q _ (Same.refl _)
  | swap i j =>
    obtain ⟨t, rfl, ht⟩ := hV
    refine ⟨_, rfl, _, _, _, _, true, rfl, .ty _, ty_tup ht, kit_ty (by decide +kernel), true, rfl, ?_⟩
    walk_at "go"
    refine ⟨t, _, rfl, .inr (.inl (.inl ht)), ?_⟩
    walk_at "go"
    walk_at "b"
    refine iteENT (by show ¬ ((3 : Int) = 4); decide) ?_
    walk_at "go"
    exact q _ (Same.refl _)
  | lift b ws sh =>
    obtain ⟨t, l, rfl, ht, hl, _⟩ := hV
    have hT : SqT K H t [sL, .int b, .ref l, .int sh] := .inl (.inl ht)
    refine ⟨_, rfl, _, _, _, _, true, rfl, .ty _, ty_tup ht, kit_ty (by decide +kernel), true, rfl, ?_⟩
    walk_at "go"
    refine ⟨t, _, rfl, .inr hT, ?_⟩
    walk_at "go"
    obtain ⟨hb, hwl, hw0, hs15, hws⟩ := hO
    have x0 : atI [sL, V.int b, .ref l, .int sh] 0 = some sL := rfl
    have x1 : atI [sL, V.int b, .ref l, .int sh] 1 = some (.int b) := rfl
    have x2 : atI [sL, V.int b, .ref l, .int sh] 2 = some (.ref l) := rfl
    have x3 : atI [sL, V.int b, .ref l, .int sh] 3 = some (.int sh) := rfl
    refine ⟨t, _, _, _, rfl, rfl, hT, x0, ?_⟩
    walk_at "go"
    refine ⟨t, _, _, _, rfl, rfl, hT, x1, ?_⟩
    walk_at "go"
    refine ⟨b, 0, some ((n : Int) - 1), rfl, ?_⟩
    rw [decide_eq_true ⟨by omega, fun j h => by cases h; omega⟩]
    refine ⟨true, rfl, ?_⟩
    walk_at "go"
    refine ⟨t, _, _, _, rfl, rfl, hT, x3, ?_⟩
    walk_at "go"
    refine ⟨sh, 0, none, rfl, ?_⟩
    rw [decide_eq_true ⟨by omega, fun j h => nomatch h⟩]
    refine ⟨true, rfl, ?_⟩
    walk_at "go"
    refine ⟨t, _, _, _, rfl, rfl, hT, x2, ?_⟩
    walk_at "go"
    refine ⟨l, ws, rfl, hl, by omega, fun H1 s1 => ?_⟩
    have hT1 := Same.tup s1 hT
    have hl1 := s1 _ _ hl
    refine ⟨true, rfl, iteT ?_⟩
    walk_at "go"
    refine ⟨t, _, _, _, rfl, rfl, hT1, x2, ?_⟩
    walk_at "go"
    refine ⟨l, _, rfl, .inl (.inl (.inl hl1)), ?_⟩
    rw [List.length_map, hwl]
    walk_at "go"
    have hz : (ws.map V.int)[b]? = some (.int 0) := by
      rw [List.getElem?_map, List.getElem?_eq_getElem (show b < ws.length by omega)]
      rw [List.getD_eq_getElem?_getD, List.getElem?_eq_getElem (show b < ws.length by omega)] at hw0
      exact congrArg (fun z => some (V.int z)) hw0
    refine ⟨t, _, _, _, rfl, rfl, hT1, x2, ?_⟩
    walk_at "go"
    refine ⟨t, _, _, _, rfl, rfl, hT1, x1, ?_⟩
    walk_at "go"
    refine ⟨l, _, _, _, rfl, rfl, .inl (.inl hl1), atI_nat hz, ?_⟩
    walk_at "go"
    exact q _ s1
def sp_is_step : Sp := fun vs H Q _ => ∃ (v : V) (n : Nat) (s : Step), vs = [v, .int n] ∧ StepV (fun _ => True) H v s ∧ s.ok n ∧ n ≤ 4 ∧ ∀ H', Same H H' → Q (.bl true) H'
theorem G_is_step (T : Top K mg) : FnOk P w K mg base CX0 4 T.f_is_step T.fd_is_step ["value", "wide"] sp_is_step := by
  refine T.F_is_step.ok sc_is_step (fun vs H Q E h => by obtain ⟨v, n, s, rfl, _⟩ := h; rfl) (fun cdv A outer s H vs Q E hr h => ?_)
  obtain ⟨v, n, s, rfl, hV, hO, hn, q⟩ := h
  refine ⟨_, PSs.nox (pss_cons (ps_if (pt_val (pe_call (G_is_lift T) (hr.mono (by decide)) (by rfl) T.g_is_lift T.F_is_lift.kp T.b_is_lift .nil pass0 (pa_cons (pv 0) (pa_cons (pv 1) pa_nil))))
    (pss_one (ps_ret pe_bl))
    pss_nil)
  (pss_cons (ps_if (PW.pt (pw_or (pt_not (pt_val (pe_callB (k_isi K rfl) (by rfl) T.n_isinstance (by decide +kernel) (pa_cons (pv 0) (pa_cons (pe_bltn (v := .ty "tuple") (by rfl) T.n_tuple (by decide +kernel) rfl) pa_nil))))) (pw_or (pt_cmpR op_lt (pe_callB (k_len K rfl) (by rfl) T.n_len (by decide +kernel) (pa_cons (pv 0) pa_nil)) pe_int (nomark _)) (pw_or1 (pt_cmpR (k_notIn K rfl) (pe_ix (k_ixT K rfl) (pv 0) pe_int (fun _ _ => rfl)) (pe_tup (pa_cons pe_str (pa_cons pe_str pa_nil))) (by rfl))))))
    (pss_one (ps_ret pe_bl))
    pss_nil)
  (pss_cons (ps_if (pt_cmpR (k_neD K rfl hr.units) (pe_lc (own := [("at", 2)]) (g := gName 2) (by rfl) sc_is_step.nd (k_piT K rfl (pe_slice (k_slT K rfl) (pv 0) (po_some pe_int) po_none)) (blkOk_by (own := [("at", 2)]) (N := N_is_step) (sc := defScope s_is_step) (by decide +kernel)) (fun _ _ _ _ _ => (pg_name (i := 2) sc_is_step.nd rfl (by first | exact Or.inl rfl | exact Or.inr rfl))) (fun _ _ _ _ _ => (pts_one (pt_not (pt_val (pe_call (G_is_between T) (hr.mono (by decide)) (by rfl) T.g_is_between T.F_is_between.kp T.b_is_between .nil pass0 (pa_cons (pv 2) (pa_cons pe_int (pa_cons (pe_op op_sub (pv 1) pe_int) pa_nil)))))))) (fun _ _ _ _ _ => (pv 2))) (pe_lst pa_nil) (nomark _))
    (pss_one (ps_ret pe_bl))
    pss_nil)
  (pss_cons (ps_if (pt_cmpR op_eq (pe_ix (k_ixT K rfl) (pv 0) pe_int (fun _ _ => rfl)) pe_str (nomark _))
    (pss_one (ps_ret (pe_cmpR op_eq (pe_callB (k_len K rfl) (by rfl) T.n_len (by decide +kernel) (pa_cons (pv 0) pa_nil)) pe_int (nomark _))))
    pss_nil)
  (pss_one (ps_ret (pe_and (pe_cmpR op_eq (pe_callB (k_len K rfl) (by rfl) T.n_len (by decide +kernel) (pa_cons (pv 0) pa_nil)) pe_int (nomark _)) (pe_one (pe_cmpR op_ne (pe_ix (k_ixT K rfl) (pv 0) pe_int (fun _ _ => rfl)) (pe_ix (k_ixT K rfl) (pv 0) pe_int (fun _ _ => rfl)) (nomark _)))))))))), ?_⟩
  refine ⟨_, rfl, _, rfl, v, n, s, rfl, hV, hO, hn, fun H1 s1 => ?_⟩
  cases s with
  | lift b ws sh =>
    refine ⟨true, rfl, ?_⟩
    walk_at "go"
    exact q _ s1
  | turn i =>
    obtain ⟨t, rfl, ht⟩ := hV
    have ht1 := s1 _ _ ht
    have hT : SqT K H1 t [sT, .int i] := .inl (.inl ht1)
    have x0 : atI [sT, V.int i] 0 = some sT := rfl
    have x1 : atI [sT, V.int i] 1 = some (.int i) := rfl
    have hi : i < n := hO
    refine ⟨false, rfl, ?_⟩
    walk_at "go"
    refine ⟨_, _, _, _, true, rfl, .ty _, ty_tup ht1, kit_ty (by decide +kernel), true, rfl, ?_⟩
    walk_at "go"
    refine ⟨t, _, rfl, .inr hT, ?_⟩
    walk_at "go"
    refine ⟨t, _, _, _, rfl, rfl, hT, x0, ?_⟩
    refine ⟨(show 2 ≤ sizeLine by decide), fun p2 np2 => ?_⟩
    obtain ⟨H2, e2, s2, h2⟩ := fresh (.tup [sT, sS]) np2
    rw [show upd H1 p2 (HO.tup [V.str (Str.ofString "turn"), V.str (Str.ofString "swap")]) = H2 from e2]
    refine ⟨p2, _, rfl, .inr (.inl (.inl h2)), rfl, rfl, ?_⟩
    rw [show (!inV sT [sT, sS]) = false by decide +kernel]
    walk_at "go"
    have hT2 := Same.tup s2 hT
    refine ⟨t, _, rfl, hT2, (show ¬ (HT.sIx 2 0 (some 1) = 0 ∧ HT.sIx 2 2 none = 2) by decide), fun p3 np3 => ?_⟩
    obtain ⟨H3, e3, s3, h3⟩ := fresh (.tup [V.int (i : Int)]) np3
    rw [show upd H2 p3 (.tup (cutV [sT, .int i] (some 1) none)) = H3 from e3]
    walk_at "go"
    refine ⟨⟨_, .inl (.inl h3)⟩, fun D nD => ?_⟩
    refine lc_dW (walk_tup (K := K) (a := p3) (xs := [V.int (i : Int)])) (S := []) Has.nil [none] nD rfl (small1000 (show 1 ≤ 1000 by decide)) (fun H' s => .inl (.inl (s _ _ h3))) ?_ ?_
    · rintro k o H0 x H'' hk ho s0 hH ⟨rfl, hx⟩ Qt qt
      obtain ⟨a, ha, rfl⟩ : ∃ a : Nat, a < n ∧ x = .int (a : Int) := by
        match k, hx with
        | 0, hx => cases hx; exact ⟨i, hi, rfl⟩
        | k + 1, hx => simp at hx
      have eo : o = none := by
        match k, ho with
        | 0, ho => cases ho; rfl
        | k + 1, ho => simp at ho
      subst eo
      refine ⟨rfl, ?_⟩
      walk_at "go"
      refine ⟨a, 0, some ((n : Int) - 1), rfl, ?_⟩
      rw [decide_eq_true ⟨by omega, fun j h => by cases h; omega⟩]
      refine ⟨true, rfl, ?_⟩
      walk_at "go"
      exact qt none _ (Same.refl _) trivial
    intro H4 s4 _ dD
    rw [show ([none] : List (Option PyData)).filterMap id = ([] : List Int).map PyData.int from rfl, rs_nil] at dD
    obtain ⟨_, e, hD⟩ := Dt.intsE (ns := []) dD
    cases e
    walk_at "go"
    refine ⟨Nat.zero_le _, fun p4 np4 => ?_⟩
    obtain ⟨H5, e5, s5, h5⟩ := fresh (.lst []) np4
    rw [e5]
    refine ne_lst (ns := []) (.inl (.inl (s5 _ _ hD))) (.inl (.inl h5)) ?_
    have s25 := s3.trans (s4.trans s5)
    have hT5 := Same.tup s25 hT2
    have s05 := s1.trans (s2.trans s25)
    walk_at "go"
    refine ⟨t, _, _, _, rfl, rfl, hT5, x0, ?_⟩
    refine ⟨rfl, _, rfl, iteDT rfl ?_⟩
    walk_at "go"
    refine ⟨t, _, rfl, .inr hT5, ?_⟩
    exact ⟨rfl, q _ s05⟩
  | swap i j =>
    obtain ⟨t, rfl, ht⟩ := hV
    have ht1 := s1 _ _ ht
    have hT : SqT K H1 t [sS, .int i, .int j] := .inl (.inl ht1)
    have x0 : atI [sS, V.int i, .int j] 0 = some sS := rfl
    have x1 : atI [sS, V.int i, .int j] 1 = some (.int i) := rfl
    have x2 : atI [sS, V.int i, .int j] 2 = some (.int j) := rfl
    obtain ⟨hi, hj, hij⟩ := hO
    refine ⟨false, rfl, ?_⟩
    walk_at "go"
    refine ⟨_, _, _, _, true, rfl, .ty _, ty_tup ht1, kit_ty (by decide +kernel), true, rfl, ?_⟩
    walk_at "go"
    refine ⟨t, _, rfl, .inr hT, ?_⟩
    walk_at "go"
    refine ⟨t, _, _, _, rfl, rfl, hT, x0, ?_⟩
    refine ⟨(show 2 ≤ sizeLine by decide), fun p2 np2 => ?_⟩
    obtain ⟨H2, e2, s2, h2⟩ := fresh (.tup [sT, sS]) np2
    rw [show upd H1 p2 (HO.tup [V.str (Str.ofString "turn"), V.str (Str.ofString "swap")]) = H2 from e2]
    refine ⟨p2, _, rfl, .inr (.inl (.inl h2)), rfl, rfl, ?_⟩
    rw [show (!inV sS [sT, sS]) = false by decide +kernel]
    walk_at "go"
    have hT2 := Same.tup s2 hT
    refine ⟨t, _, rfl, hT2, (show ¬ (HT.sIx 3 0 (some 1) = 0 ∧ HT.sIx 3 3 none = 3) by decide), fun p3 np3 => ?_⟩
    obtain ⟨H3, e3, s3, h3⟩ := fresh (.tup [V.int (i : Int), V.int (j : Int)]) np3
    rw [show upd H2 p3 (.tup (cutV [sS, .int i, .int j] (some 1) none)) = H3 from e3]
    walk_at "go"
    refine ⟨⟨_, .inl (.inl h3)⟩, fun D nD => ?_⟩
    refine lc_dW (walk_tup (K := K) (a := p3) (xs := [V.int (i : Int), V.int (j : Int)])) (S := []) Has.nil [none, none] nD rfl (small1000 (show 2 ≤ 1000 by decide)) (fun H' s => .inl (.inl (s _ _ h3))) ?_ ?_
    · rintro k o H0 x H'' hk ho s0 hH ⟨rfl, hx⟩ Qt qt
      obtain ⟨a, ha, rfl⟩ : ∃ a : Nat, a < n ∧ x = .int (a : Int) := by
        match k, hx with
        | 0, hx => cases hx; exact ⟨i, hi, rfl⟩
        | 1, hx => cases hx; exact ⟨j, hj, rfl⟩
        | k + 2, hx => simp at hx
      have eo : o = none := by
        match k, ho with
        | 0, ho => cases ho; rfl
        | 1, ho => cases ho; rfl
        | k + 2, ho => simp at ho
      subst eo
      refine ⟨rfl, ?_⟩
      walk_at "go"
      refine ⟨a, 0, some ((n : Int) - 1), rfl, ?_⟩
      rw [decide_eq_true ⟨by omega, fun j h => by cases h; omega⟩]
      refine ⟨true, rfl, ?_⟩
      walk_at "go"
      exact qt none _ (Same.refl _) trivial
    intro H4 s4 _ dD
    rw [show ([none, none] : List (Option PyData)).filterMap id = ([] : List Int).map PyData.int from rfl, rs_nil] at dD
    obtain ⟨_, e, hD⟩ := Dt.intsE (ns := []) dD
    cases e
    walk_at "go"
    refine ⟨Nat.zero_le _, fun p4 np4 => ?_⟩
    obtain ⟨H5, e5, s5, h5⟩ := fresh (.lst []) np4
    rw [e5]
    refine ne_lst (ns := []) (.inl (.inl (s5 _ _ hD))) (.inl (.inl h5)) ?_
    have s25 := s3.trans (s4.trans s5)
    have hT5 := Same.tup s25 hT2
    have s05 := s1.trans (s2.trans s25)
    walk_at "go"
    refine ⟨t, _, _, _, rfl, rfl, hT5, x0, ?_⟩
    refine ⟨rfl, _, rfl, iteDF (by decide) ?_⟩
    walk_at "go"
    refine ⟨t, _, rfl, .inr hT5, ?_⟩
    refine ⟨rfl, _, rfl, iteDT rfl ?_⟩
    walk_at "go"
    refine ⟨t, _, _, _, rfl, rfl, hT5, x1, ?_⟩
    walk_at "go"
    refine ⟨t, _, _, _, rfl, rfl, hT5, x2, ?_⟩
    have z := q _ s05
    rw [show true = (!decide (V.int (i : Int) = V.int (j : Int))) by rw [decide_eq_false (fun z => hij (by have := V.int.inj z; omega))]; rfl] at z
    exact ⟨rfl, z⟩
end
end My

namespace My
open PySem PySem.Spec PyProof.Rows L2 Pre
theorem take_snoc {α : Type} {l : List α} {i : Nat} {x : α} (h : l[i]? = some x) : l.take (i + 1) = l.take i ++ [x] := by
  rw [List.take_add_one, h]
  rfl
theorem tyx_insC {K : PySem.W.Frag} {H : Hp} {a C dx : Addr} {fs : List (Str × V)} (c : C8.InsC K C) (h : H a = some (.ins C dx fs)) : TyX K H (.ref a) (.ref C) := .base (.ins h c.cl c.ha c.hn c.htk c.hm)
/-- a comprehension that makes steps or rows of the items of a list -/
theorem lc_stp {K : PySem.W.Frag} {a : Addr} {xs : List V} {j : Nat} {te : TE} {vs : List Nat} {σ : L2.St} {H1 : Hp} {D : Addr} {Qd : Hp → Prop} {ss : List Step} (R : Hp → V → Step → Prop) (hR : ∀ {H H' : Hp}, (∃ ys, H D = some (.lst ys)) → (∀ b o, b ≠ D → H b = some o → H' b = some o) → ∀ v s, R H v s → R H' v s)
    (nD : H1 D = none) (hA : SqL K H1 a xs) (hl : xs.length = ss.length) (hz : xs.length < sizeLine)
    (hw : ∀ x, wipe ((wipe σ vs).set j (some x)) vs = wipe σ vs)
    (hs : ∀ (i : Nat) (x : V) (s : Step) (H' : Hp), xs[i]? = some x → ss[i]? = some s → Same H1 H' → (∃ ys, H' D = some (.lst ys)) → ∀ Qt : V → Hp → Prop, (∀ y H'', Same H' H'' → R H'' y s → Qt y H'') → te ((wipe σ vs).set j (some x)) H' Qt)
    (hd : ∀ H' ys, Same H1 H' → H' D = some (.lst ys) → AllV (R H') ys ss → Qd H') :
    ∃ W : Nat → Nat → Hp → Prop, (∃ m, W 0 m (upd H1 D (.lst []))) ∧ ∀ i m H, W i m H →
      ((Itl K a).stop i H ∧ Qd H) ∨ ((Itl K a).go i H ∧ ∃ Nx : Hp → Prop, (∀ H', Nx H' → ∃ m', m' < m ∧ W (i + 1) m' H') ∧ ∀ x H', (Itl K a).yld i H x H' → gName j x (wipe σ vs) H' fun σ2 H2 => wipe σ2 vs = wipe σ vs ∧ tYes σ2 H2 fun b H3 =>
        if b = true then te σ2 H3 fun y H4 => ∃ acc, H4 D = some (.lst acc) ∧ acc.length < sizeLine ∧ Nx (upd H4 D (.lst (acc ++ [y]))) else Nx H3) := by
  refine lc_list (K := K) (a := a) (xs := xs) (fun i H => Same H1 H ∧ ∃ ys, H D = some (.lst ys) ∧ AllV (R H) ys (ss.take i)) ⟨same_upd nD, [], upd_same, trivial⟩ (fun i H _ p => p.1.seq hA) ?_ ?_
  · rintro i x H hx ⟨s1, ys, hD, hy⟩
    refine ⟨hw _, ?_⟩
    have hi := (List.getElem?_eq_some_iff.mp hx).1
    have hsi : ss[i]? = some (ss[i]'(by omega)) := List.getElem?_eq_getElem (by omega)
    unfold tYes
    dsimp only
    rw [if_pos (show true = true from rfl)]
    refine hs i x _ H hx hsi s1 ⟨ys, hD⟩ _ fun y H2 s2 r => ?_
    have hD2 := s2 _ _ hD
    have hyl := hy.len
    rw [List.length_take] at hyl
    refine ⟨ys, hD2, by omega, same_over nD (s1.trans s2), ys ++ [y], upd_same, ?_⟩
    rw [take_snoc hsi]
    have k : ∀ b o, b ≠ D → H2 b = some o → upd H2 D (.lst (ys ++ [y])) b = some o := fun b o nb h => by rw [upd_ne nb]; exact h
    exact (hy.imp fun v s h => hR ⟨_, hD2⟩ k v s (hR ⟨_, hD⟩ (fun b o _ h => s2 b o h) v s h)).app ⟨hR ⟨_, hD2⟩ k _ _ r, trivial⟩
  · rintro H ⟨s1, ys, hD, hy⟩
    rw [hl, List.take_length] at hy
    exact hd H ys s1 hD hy
theorem row_off {D : Addr} {H H' : Hp} (h : ∃ ys, H D = some (.lst ys)) (k : ∀ b o, b ≠ D → H b = some o → H' b = some o) (v : V) (s : Step) (r : RowV H v s) : RowV H' v s :=
  RowV.lk (M := fun b => b = D) (fun b o n e => k b o n e) (fun b e => by rw [e]; exact h) r
theorem step_off {D : Addr} {H0 H H' : Hp} (h : ∃ ys, H D = some (.lst ys)) (k : ∀ b o, b ≠ D → H b = some o → H' b = some o) (v : V) (s : Step) (r : StepV (fun l => l ≠ D ∧ H0 l = none) H v s) : StepV (fun l => l ≠ D ∧ H0 l = none) H' v s :=
  StepV.lk (M := fun b => b = D) (fun b o n e => k b o n e) (fun b e => by rw [e]; exact h) (fun l n e => n.1 e) r
local macro_rules | `(tactic| walk_at "go") => `(tactic| repeat (first | (with_reducible first | refine iteT ?_ | refine iteF ?_ | refine iteNtt ?_ | refine iteNff ?_ | refine iteET (by omega) ?_ | refine iteEF (by omega) ?_ | refine iteENT (by omega) ?_ | refine iteENF (by omega) ?_ | refine iteDT (by omega) ?_ | refine iteDF (by omega) ?_ | refine iteNT (by omega) ?_ | refine iteNF (by omega) ?_) | refine ⟨_, rfl, ?_⟩ | refine ⟨_, _, rfl, rfl, ?_⟩ | refine ⟨_, _, rfl, ?_⟩ | refine ⟨rfl, ?_⟩ | refine .inl ⟨_, rfl, ?_⟩ | refine .inr ⟨_, rfl, ?_⟩))
local macro_rules | `(tactic| walk_at "b") => `(tactic| try dsimp (config := { proj := false, iota := false, eta := false, zeta := false }) only)
section
variable {P : Program} {w : World} {K : PySem.W.Frag} {mg : Str → Option Value} {base : Heap}
def sp_check_number : Sp := fun vs H Q _ => ∃ (i lo : Int) (hi : Option Int), vs = [.int i, .int lo, (match hi with | some j => .int j | none => .non)] ∧ lo ≤ i ∧ (∀ j, hi = some j → i ≤ j) ∧ Q .non H
theorem G_check_number (T : Top K mg) : FnOk P w K mg base CX0 3 T.f_check_number T.fd_check_number ["number", "low", "high"] sp_check_number := by
  refine T.F_check_number.ok sc_check_number (fun vs H Q E h => by obtain ⟨i, lo, hi, rfl, _⟩ := h; rfl) (fun cdv A outer s H vs Q E hr h => ?_)
  obtain ⟨i, lo, hi, rfl, h0, h1, q⟩ := h
  refine ⟨_, PSs.nox (pss_one (ps_if (pt_not (pt_val (pe_call (G_is_between T) (hr.mono (by decide)) (by rfl) T.g_is_between T.F_is_between.kp T.b_is_between .nil pass0 (pa_cons (pv 0) (pa_cons (pv 1) (pa_cons (pv 2) pa_nil))))))
    (pss_one ps_never)
    pss_nil)), ?_⟩
  refine ⟨_, rfl, _, rfl, _, rfl, i, lo, hi, rfl, _, rfl, ?_⟩
  rw [decide_eq_true ⟨h0, h1⟩]
  exact iteF q
def sp_closed : Sp := fun vs H Q _ => ∃ (v : V) (s : Step), vs = [v] ∧ StepV (fun _ => True) H v s ∧ ∀ H' v', Same H H' → RowV H' v' s → Q v' H'
theorem G_closed (T : Top K mg) : FnOk P w K mg base CX0 1 T.f_closed T.fd_closed ["step"] sp_closed := by
  refine T.F_closed.ok sc_closed (fun vs H Q E h => by obtain ⟨v, s, rfl, _⟩ := h; rfl) (fun cdv A outer s H vs Q E hr h => ?_)
  obtain ⟨v, s, rfl, hV, q⟩ := h
  refine ⟨_, PSs.nox (pss_one (ps_ret (pe_ifExp (pt_cmpR op_eq (pe_ix (k_ixT K rfl) (pv 0) pe_int (fun _ _ => rfl)) pe_str (nomark _)) (pe_tup (pa_cons (pe_ix (k_ixT K rfl) (pv 0) pe_int (fun _ _ => rfl)) (pa_cons (pe_ix (k_ixT K rfl) (pv 0) pe_int (fun _ _ => rfl)) (pa_cons (pe_callTy (k_tupleOf K rfl) (by rfl) T.n_tuple (by decide +kernel) (pa_cons (pe_ix (k_ixT K rfl) (pv 0) pe_int (fun _ _ => rfl)) pa_nil)) (pa_cons (pe_ix (k_ixT K rfl) (pv 0) pe_int (fun _ _ => rfl)) pa_nil))))) (pv 0)))), ?_⟩
  cases s with
  | turn i =>
    obtain ⟨t, rfl, ht⟩ := hV
    have hT : SqT K H t [sT, .int i] := .inl (.inl ht)
    refine ⟨_, rfl, t, _, _, _, rfl, rfl, hT, rfl, rfl, _, rfl, iteDF (by decide) ?_⟩
    exact ⟨_, rfl, q _ _ (Same.refl _) ⟨t, rfl, ht⟩⟩
  | swap i j =>
    obtain ⟨t, rfl, ht⟩ := hV
    have hT : SqT K H t [sS, .int i, .int j] := .inl (.inl ht)
    refine ⟨_, rfl, t, _, _, _, rfl, rfl, hT, rfl, rfl, _, rfl, iteDF (by decide) ?_⟩
    exact ⟨_, rfl, q _ _ (Same.refl _) ⟨t, rfl, ht⟩⟩
  | lift b ws sh =>
    obtain ⟨t, l, rfl, ht, hl, _⟩ := hV
    have hT : SqT K H t [sL, .int b, .ref l, .int sh] := .inl (.inl ht)
    refine ⟨_, rfl, t, _, _, _, rfl, rfl, hT, rfl, rfl, _, rfl, iteDT rfl ?_⟩
    refine ⟨_, rfl, t, _, _, _, rfl, rfl, hT, rfl, ?_⟩
    refine ⟨_, rfl, t, _, _, _, rfl, rfl, hT, rfl, ?_⟩
    refine ⟨_, rfl, t, _, _, _, rfl, rfl, hT, rfl, ?_⟩
    refine ⟨l, _, rfl, .inl ⟨.inl (.inl hl), fun p np => ?_⟩⟩
    obtain ⟨H1, e1, s1, h1⟩ := fresh (.tup (ws.map V.int)) np
    rw [e1]
    refine ⟨_, rfl, t, _, _, _, rfl, rfl, Same.tup s1 hT, rfl, (show 4 ≤ sizeLine by decide), fun p2 np2 => ?_⟩
    obtain ⟨H2, e2, s2, h2⟩ := fresh (.tup [sL, V.int b, .ref p, .int sh]) np2
    rw [e2]
    exact q _ _ (s1.trans s2) ⟨p2, p, rfl, h2, s2 _ _ h1⟩
def sp_opened : Sp := fun vs H Q _ => ∃ (v : V) (s : Step), vs = [v] ∧ RowV H v s ∧ ∀ H' v', Same H H' → StepV (Fl H H') H' v' s → Q v' H'
theorem G_opened (T : Top K mg) : FnOk P w K mg base CX0 1 T.f_opened T.fd_opened ["row"] sp_opened := by
  refine T.F_opened.ok sc_opened (fun vs H Q E h => by obtain ⟨v, s, rfl, _⟩ := h; rfl) (fun cdv A outer s H vs Q E hr h => ?_)
  obtain ⟨v, s, rfl, hV, q⟩ := h
  refine ⟨_, PSs.nox (pss_one (ps_ret (pe_ifExp (pt_cmpR op_eq (pe_ix (k_ixT K rfl) (pv 0) pe_int (fun _ _ => rfl)) pe_str (nomark _)) (pe_tup (pa_cons (pe_ix (k_ixT K rfl) (pv 0) pe_int (fun _ _ => rfl)) (pa_cons (pe_ix (k_ixT K rfl) (pv 0) pe_int (fun _ _ => rfl)) (pa_cons (pe_callTy (k_listOf K rfl) (by rfl) T.n_list (by decide +kernel) (pa_cons (pe_ix (k_ixT K rfl) (pv 0) pe_int (fun _ _ => rfl)) pa_nil)) (pa_cons (pe_ix (k_ixT K rfl) (pv 0) pe_int (fun _ _ => rfl)) pa_nil))))) (pv 0)))), ?_⟩
  cases s with
  | turn i =>
    obtain ⟨t, rfl, ht⟩ := hV
    have hT : SqT K H t [sT, .int i] := .inl (.inl ht)
    refine ⟨_, rfl, t, _, _, _, rfl, rfl, hT, rfl, rfl, _, rfl, iteDF (by decide) ?_⟩
    exact ⟨_, rfl, q _ _ (Same.refl _) ⟨t, rfl, ht⟩⟩
  | swap i j =>
    obtain ⟨t, rfl, ht⟩ := hV
    have hT : SqT K H t [sS, .int i, .int j] := .inl (.inl ht)
    refine ⟨_, rfl, t, _, _, _, rfl, rfl, hT, rfl, rfl, _, rfl, iteDF (by decide) ?_⟩
    exact ⟨_, rfl, q _ _ (Same.refl _) ⟨t, rfl, ht⟩⟩
  | lift b ws sh =>
    obtain ⟨t, l, rfl, ht, hl⟩ := hV
    have hT : SqT K H t [sL, .int b, .ref l, .int sh] := .inl (.inl ht)
    refine ⟨_, rfl, t, _, _, _, rfl, rfl, hT, rfl, rfl, _, rfl, iteDT rfl ?_⟩
    refine ⟨_, rfl, t, _, _, _, rfl, rfl, hT, rfl, ?_⟩
    refine ⟨_, rfl, t, _, _, _, rfl, rfl, hT, rfl, ?_⟩
    refine ⟨_, rfl, t, _, _, _, rfl, rfl, hT, rfl, ?_⟩
    refine ⟨l, _, rfl, .inr (.inl (.inl hl)), fun p np => ?_⟩
    obtain ⟨H1, e1, s1, h1⟩ := fresh (.lst (ws.map V.int)) np
    rw [e1]
    refine ⟨_, rfl, t, _, _, _, rfl, rfl, Same.tup s1 hT, rfl, (show 4 ≤ sizeLine by decide), fun p2 np2 => ?_⟩
    obtain ⟨H2, e2, s2, h2⟩ := fresh (.tup [sL, V.int b, .ref p, .int sh]) np2
    rw [e2]
    exact q _ _ (s1.trans s2) ⟨p2, p, rfl, h2, s2 _ _ h1, np, _, s2 _ _ h1⟩
def sp_Mixer___init__ (C : Addr) (K : PySem.W.Frag) : Sp := fun vs H Q _ => ∃ (x dx p : Addr) (n : Nat) (ss : List Step), vs = [.ref x, .int n, .ref p] ∧ H x = some (.ins C dx []) ∧ 1 ≤ n ∧ n ≤ 4 ∧ StepsAt (fun _ => True) H p ss ∧ (∀ s ∈ ss, s.ok n) ∧ ss.length ≤ 100 ∧
  ∀ H' r, (∀ b o, b ≠ x → H b = some o → H' b = some o) → H r = none → MixAt C H' x r n ss → Q .non H'
theorem G_Mixer___init__ (T : Top K mg) : FnOk P w K mg base CX0 5 T.f_Mixer___init__ T.fd_Mixer___init__ ["self", "wide", "steps"] (sp_Mixer___init__ T.C_Mixer K) := by
  refine T.F_Mixer___init__.ok sc_Mixer___init__ (fun vs H Q E h => by obtain ⟨x, dx, p, n, ss, rfl, _⟩ := h; rfl) (fun cdv A outer s H vs Q E hr h => ?_)
  obtain ⟨x, dx, p, n, ss, rfl, hx, hn1, hn4, hS, hO, hl, q⟩ := h
  refine ⟨_, PSs.nox (pss_cons (ps_expr (pe_call (G_check_number T) (hr.mono (by decide)) (by rfl) T.g_check_number T.F_check_number.kp T.b_check_number .nil pass0 (pa_cons (pv 1) (pa_cons pe_int (pa_cons (pe_glob (v := .int 4) rfl T.m_MOST_WAYS ⟨_, rfl⟩) pa_nil)))))
  (pss_cons (ps_if (pt_not (pt_val (pe_callB (k_isi K rfl) (by rfl) T.n_isinstance (by decide +kernel) (pa_cons (pv 2) (pa_cons (pe_bltn (v := .ty "list") (by rfl) T.n_list (by decide +kernel) rfl) pa_nil)))))
    (pss_one ps_never)
    pss_nil)
  (pss_cons (ps_for PassesOwn.never rfl (k_piL K rfl (pv 2)) (pg_name (i := 3) sc_Mixer___init__.nd rfl (by first | exact Or.inl rfl | exact Or.inr rfl))
    (pss_one (ps_if (pt_not (pt_val (pe_call (G_is_step T) (hr.mono (by decide)) (by rfl) T.g_is_step T.F_is_step.kp T.b_is_step .nil pass0 (pa_cons (pv 3) (pa_cons (pv 1) pa_nil)))))
    (pss_one ps_never)
    pss_nil)))
  (pss_cons (ps_fld (pv 0) (pv 1) rfl)
  (pss_one (ps_fld (pv 0) (pe_lc (own := [("item", 3)]) (g := gName 3) (tt := tYes) (by rfl) sc_Mixer___init__.nd (k_piL K rfl (pv 2)) (blkOk_by (own := [("item", 3)]) (N := N_Mixer___init__) (sc := defScope s_Mixer___init__) (by decide +kernel)) (fun _ _ _ _ _ => (pg_name (i := 3) sc_Mixer___init__.nd rfl (by first | exact Or.inl rfl | exact Or.inr rfl))) (fun _ _ _ _ _ => pts_nil) (fun _ _ _ _ _ => (pe_call (G_closed T) (hr.mono (by decide)) (by rfl) T.g_closed T.F_closed.kp T.b_closed .nil pass0 (pa_cons (pv 3) pa_nil)))) rfl)))))), ?_⟩
  obtain ⟨vs, hp, hv⟩ := hS
  have hvl := hv.len
  refine ⟨_, rfl, n, 1, some 4, rfl, by omega, (fun j h => by cases h; omega), ?_⟩
  refine ⟨_, rfl, _, _, _, _, true, rfl, .ty _, ty_list hp, kit_ty (by decide +kernel), true, rfl, iteF ?_⟩
  refine ⟨_, rfl, p, rfl, ⟨_, .inl (.inl hp)⟩, for_list (K := K) (a := p) (xs := vs) (fun i σ H1 => ∃ v3 : Option V, σ = [some (.ref x), some (.int n), some (.ref p), v3] ∧ Same H H1) ⟨none, rfl, Same.refl _⟩ (fun i σ H1 _ ⟨_, _, s⟩ => .inl (.inl (s _ _ hp))) ?_ ?_⟩
  · rintro i v σ H1 hi ⟨v3, rfl, s1⟩
    obtain ⟨s, hs, hvs⟩ := hv.get hi
    walk_at "go"
    refine ⟨v, n, s, rfl, hvs.same s1, hO s (List.mem_of_getElem? hs), hn4, fun H2 s2 => ?_⟩
    walk_at "go"
    exact s1.trans s2
  rintro σ H1 ⟨v3, rfl, s1⟩
  walk_at "go"
  refine ⟨x, T.C_Mixer, dx, [], rfl, s1 _ _ hx, T.cl_Mixer, T.na_Mixer_many, by decide, ?_⟩
  obtain ⟨H2, e2⟩ : ∃ H2, upd H1 x (.ins T.C_Mixer dx (putF (Str.ofString "many") (V.int n) [])) = H2 := ⟨_, rfl⟩
  rw [e2]
  have k12 : ∀ b o, b ≠ x → H b = some o → H2 b = some o := fun b o nb h => by rw [← e2, upd_ne nb]; exact s1 b o h
  have hx2 : H2 x = some (.ins T.C_Mixer dx [("many", V.int n)]) := by rw [← e2, upd_same]; rfl
  have px : p ≠ x := fun z => by rw [z, hx] at hp; cases hp
  have hp2 := k12 _ _ px hp
  have hv2 : AllV (StepV (fun _ => True) H2) vs ss := hv.imp fun v s h => by
    cases s with
    | turn i => obtain ⟨t, e, h1⟩ := h; exact ⟨t, e, k12 _ _ (fun z => by rw [z, hx] at h1; cases h1) h1⟩
    | swap i j => obtain ⟨t, e, h1⟩ := h; exact ⟨t, e, k12 _ _ (fun z => by rw [z, hx] at h1; cases h1) h1⟩
    | lift b ws sh =>
      obtain ⟨t, l, e, h1, h2, _⟩ := h
      exact ⟨t, l, e, k12 _ _ (fun z => by rw [z, hx] at h1; cases h1) h1, k12 _ _ (fun z => by rw [z, hx] at h2; cases h2) h2, trivial⟩
  refine ⟨_, rfl, p, rfl, ⟨_, .inl (.inl hp2)⟩, fun D nD => ?_⟩
  refine lc_stp (K := K) (xs := vs) (ss := ss) (fun H => RowV H) row_off nD (.inl (.inl hp2)) hvl (small1000 (by omega)) (fun x => rfl) ?_ ?_
  · intro i y s H' hy hs s' _ Qt qt
    obtain ⟨s2, hs2, hys⟩ := hv2.get hy
    rw [hs] at hs2
    cases hs2
    walk_at "go"
    exact ⟨y, s, rfl, hys.same s', fun H3 v' s3 r => qt v' H3 s3 r⟩
  intro H3 ys s3 hD hys
  walk_at "go"
  refine ⟨x, T.C_Mixer, dx, _, rfl, s3 _ _ hx2, T.cl_Mixer, T.na_Mixer_rows, (by show 1 < 1000; decide), ?_⟩
  have nDH : H D = none := by
    cases e : H D with
    | none => rfl
    | some o =>
      exfalso
      by_cases z : D = x
      · rw [z, hx2] at nD; cases nD
      · rw [k12 D o z e] at nD; cases nD
  have Dx : D ≠ x := fun z => by rw [z, hx2] at nD; cases nD
  refine q _ D (fun b o nb hb => ?_) nDH ⟨dx, ys, ?_, ?_, ?_⟩
  · rw [upd_ne nb]
    exact s3 _ _ (k12 b o nb hb)
  · rw [upd_same]
    rfl
  · rw [upd_ne Dx]
    exact hD
  · have hx3 := s3 _ _ hx2
    have off : ∀ {t : Addr} {xs : List V}, H3 t = some (.tup xs) → t ≠ x := fun h z => by rw [z, hx3] at h; cases h
    refine hys.imp fun v s h => ?_
    cases s with
    | turn i => obtain ⟨t, e, h1⟩ := h; exact ⟨t, e, by rw [upd_ne (off h1)]; exact h1⟩
    | swap i j => obtain ⟨t, e, h1⟩ := h; exact ⟨t, e, by rw [upd_ne (off h1)]; exact h1⟩
    | lift b ws sh =>
      obtain ⟨t, l, e, h1, h2⟩ := h
      exact ⟨t, l, e, by rw [upd_ne (off h1)]; exact h1, by rw [upd_ne (off h2)]; exact h2⟩
def sp_Mixer_wide (C : Addr) : Sp := fun vs H Q _ => ∃ (a r : Addr) (n : Nat) (ss : List Step), vs = [.ref a] ∧ MixAt C H a r n ss ∧ Q (.int n) H
theorem G_Mixer_wide (T : Top K mg) : FnOk P w K mg base CX0 1 T.f_Mixer_wide T.fd_Mixer_wide ["self"] (sp_Mixer_wide T.C_Mixer) := by
  refine T.F_Mixer_wide.ok sc_Mixer_wide (fun vs H Q E h => by obtain ⟨a, r, n, ss, rfl, _⟩ := h; rfl) (fun cdv A outer s H vs Q E hr h => ?_)
  obtain ⟨a, r, n, ss, rfl, hM, q⟩ := h
  refine ⟨_, PSs.nox (pss_one (ps_ret (pe_fld (pv 0) rfl))), ?_⟩
  obtain ⟨dx, vs, ha, hr0, hv⟩ := hM
  exact ⟨_, rfl, a, T.C_Mixer, dx, _, _, rfl, ha, T.cl_Mixer, T.na_Mixer_many, rfl, q⟩
def sp_Mixer_steps (C : Addr) (K : PySem.W.Frag) : Sp := fun vs H Q _ => ∃ (a r : Addr) (n : Nat) (ss : List Step), vs = [.ref a] ∧ MixAt C H a r n ss ∧ ss.length ≤ 100 ∧ ∀ H' p, Same H H' → H p = none → StepsAt (Fl H H') H' p ss → Q (.ref p) H'
theorem G_Mixer_steps (T : Top K mg) : FnOk P w K mg base CX0 2 T.f_Mixer_steps T.fd_Mixer_steps ["self"] (sp_Mixer_steps T.C_Mixer K) := by
  refine T.F_Mixer_steps.ok sc_Mixer_steps (fun vs H Q E h => by obtain ⟨a, r, n, ss, rfl, _⟩ := h; rfl) (fun cdv A outer s H vs Q E hr h => ?_)
  obtain ⟨a, r, n, ss, rfl, hM, hl, q⟩ := h
  refine ⟨_, PSs.nox (pss_one (ps_ret (pe_lc (own := [("row", 1)]) (g := gName 1) (tt := tYes) (by rfl) sc_Mixer_steps.nd (k_piL K rfl (pe_fld (pv 0) rfl)) (blkOk_by (own := [("row", 1)]) (N := N_Mixer_steps) (sc := defScope s_Mixer_steps) (by decide +kernel)) (fun _ _ _ _ _ => (pg_name (i := 1) sc_Mixer_steps.nd rfl (by first | exact Or.inl rfl | exact Or.inr rfl))) (fun _ _ _ _ _ => pts_nil) (fun _ _ _ _ _ => (pe_call (G_opened T) (hr.mono (by decide)) (by rfl) T.g_opened T.F_opened.kp T.b_opened .nil pass0 (pa_cons (pv 1) pa_nil)))))), ?_⟩
  obtain ⟨dx, vs, ha, hr0, hv⟩ := hM
  have hvl := hv.len
  refine ⟨_, rfl, a, T.C_Mixer, dx, _, _, rfl, ha, T.cl_Mixer, T.na_Mixer_rows, rfl, r, rfl, ⟨_, .inl (.inl hr0)⟩, fun D nD => ?_⟩
  refine lc_stp (K := K) (xs := vs) (ss := ss) (fun H1 => StepV (fun l => l ≠ D ∧ H l = none) H1) step_off nD (.inl (.inl hr0)) hvl (small1000 (by omega)) (fun x => rfl) ?_ ?_
  · intro i y s H' hy hs s' ⟨zs, hD⟩ Qt qt
    obtain ⟨s2, hs2, hys⟩ := hv.get hy
    rw [hs] at hs2
    cases hs2
    walk_at "go"
    refine ⟨y, s, rfl, hys.same s', fun H3 v' s3 k => ?_⟩
    exact qt v' H3 s3 (k.mono fun l hf => ⟨fun z => (by rw [z] at hf; rw [hf.1] at hD; cases hD), s'.free hf.1⟩)
  intro H3 ys s3 hD hys
  refine q _ D s3 nD ⟨ys, hD, hys.imp fun v s h => ?_⟩
  cases s with
  | turn i => exact h
  | swap i j => exact h
  | lift b ws sh =>
    obtain ⟨t, l, e, h1, h2, h3⟩ := h
    exact ⟨t, l, e, h1, h2, h3.2, _, h2⟩
def sp_Mixer___eq__ (C : Addr) : Sp := fun vs H Q _ => ∃ (a b r : Addr) (n : Nat) (ss : List Step), vs = [.ref a, .ref b] ∧ MixAt C H a r n ss ∧
  ((∃ r2 m ts, MixAt C H b r2 m ts ∧ ∀ H', Same H H' → Q (.bl (PyData.eqv (mixD n ss) (mixD m ts))) H') ∨ (∃ xs, H b = some (.lst xs) ∧ Q (.bl false) H))
theorem G_Mixer___eq__ (T : Top K mg) : FnOk P w K mg base CX0 1 T.f_Mixer___eq__ T.fd_Mixer___eq__ ["self", "other"] (sp_Mixer___eq__ T.C_Mixer) := by
  refine T.F_Mixer___eq__.ok sc_Mixer___eq__ (fun vs H Q E h => by obtain ⟨a, b, r, n, ss, rfl, _⟩ := h; rfl) (fun cdv A outer s H vs Q E hr h => ?_)
  obtain ⟨a, b, r, n, ss, rfl, hM, q⟩ := h
  refine ⟨_, PSs.nox (pss_cons (ps_if (pt_not (pt_val (pe_callB (k_isi K rfl) (by rfl) T.n_isinstance (by decide +kernel) (pa_cons (pv 1) (pa_cons (pe_glob (v := .ref T.C_Mixer) rfl T.gc_Mixer rfl) pa_nil)))))
    (pss_one (ps_ret pe_bl))
    pss_nil)
  (pss_one (ps_ret (pe_cmpR (k_eqD K rfl hr.units) (pe_tup (pa_cons (pe_fld (pv 0) rfl) (pa_cons (pe_fld (pv 0) rfl) pa_nil))) (pe_tup (pa_cons (pe_fld (pv 1) rfl) (pa_cons (pe_fld (pv 1) rfl) pa_nil))) (nomark _))))), ?_⟩
  rcases q with ⟨r2, m, ts, hM2, q⟩ | ⟨xs, hB, q⟩
  · obtain ⟨dx, vs, ha, hr0, hv⟩ := hM
    obtain ⟨dy, us, hb, hr2, hu⟩ := hM2
    refine ⟨_, rfl, _, _, _, _, true, rfl, .own _, tyx_insC T.ic_Mixer hb, T.ic_Mixer.me, true, rfl, ?_⟩
    walk_at "go"
    refine ⟨a, T.C_Mixer, dx, _, _, rfl, ha, T.cl_Mixer, T.na_Mixer_many, rfl, ?_⟩
    walk_at "go"
    refine ⟨a, T.C_Mixer, dx, _, _, rfl, ha, T.cl_Mixer, T.na_Mixer_rows, rfl, (show 2 ≤ sizeLine by decide), fun p np => ?_⟩
    obtain ⟨H1, e1, s1, h1⟩ := fresh (.tup [V.int n, V.ref r]) np
    rw [e1]
    walk_at "go"
    refine ⟨b, T.C_Mixer, dy, _, _, rfl, s1 _ _ hb, T.cl_Mixer, T.na_Mixer_many, rfl, ?_⟩
    walk_at "go"
    refine ⟨b, T.C_Mixer, dy, _, _, rfl, s1 _ _ hb, T.cl_Mixer, T.na_Mixer_rows, rfl, (show 2 ≤ sizeLine by decide), fun p2 np2 => ?_⟩
    obtain ⟨H2, e2, s2, h2⟩ := fresh (.tup [V.int m, V.ref r2]) np2
    rw [e2]
    have s02 := s1.trans s2
    have d1 : Dt H2 (.ref p) (mixD n ss) := .tup (s2 _ _ h1) (.cons (.int _) (.cons (.lst (s02 _ _ hr0) (AllV.dtr (hv.imp fun v s => RowV.same s02))) .nil))
    have d2 : Dt H2 (.ref p2) (mixD m ts) := .tup h2 (.cons (.int _) (.cons (.lst (s02 _ _ hr2) (AllV.dtr (hu.imp fun v s => RowV.same s02))) .nil))
    exact d_eq d1 d2 (mix_shaped n ss) (mix_shaped m ts) (q _ s02)
  · refine ⟨_, rfl, _, _, _, _, false, rfl, .own _, ty_list hB, T.ec_Mixer.ki, false, rfl, ?_⟩
    walk_at "go"
    exact q
def sp_check_mixer (C : Addr) : Sp := fun vs H Q _ => ∃ (a r : Addr) (n : Nat) (ss : List Step), vs = [.ref a] ∧ MixAt C H a r n ss ∧ Q .non H
theorem G_check_mixer (T : Top K mg) : FnOk P w K mg base CX0 1 T.f_check_mixer T.fd_check_mixer ["mixer"] (sp_check_mixer T.C_Mixer) := by
  refine T.F_check_mixer.ok sc_check_mixer (fun vs H Q E h => by obtain ⟨a, r, n, ss, rfl, _⟩ := h; rfl) (fun cdv A outer s H vs Q E hr h => ?_)
  obtain ⟨a, r, n, ss, rfl, hM, q⟩ := h
  refine ⟨_, PSs.nox (pss_one (ps_if (pt_not (pt_val (pe_callB (k_isi K rfl) (by rfl) T.n_isinstance (by decide +kernel) (pa_cons (pv 0) (pa_cons (pe_glob (v := .ref T.C_Mixer) rfl T.gc_Mixer rfl) pa_nil)))))
    (pss_one ps_never)
    pss_nil)), ?_⟩
  obtain ⟨dx, vs, ha, hr0, hv⟩ := hM
  refine ⟨_, rfl, _, _, _, _, true, rfl, .own _, tyx_insC T.ic_Mixer ha, T.ic_Mixer.me, true, rfl, iteF ?_⟩
  exact q
def sp_check_moment (C : Addr) : Sp := fun vs H Q _ => ∃ (a r p : Addr) (n : Nat) (ss : List Step) (xs : List Int), vs = [.ref a, .ref p] ∧ MixAt C H a r n ss ∧ n ≤ 4 ∧ H p = some (.lst (xs.map V.int)) ∧ xs.length = n ∧ ∀ H', Same H H' → Q .non H'
theorem G_check_moment (T : Top K mg) : FnOk P w K mg base CX0 3 T.f_check_moment T.fd_check_moment ["mixer", "samples"] (sp_check_moment T.C_Mixer) := by
  refine T.F_check_moment.ok sc_check_moment (fun vs H Q E h => by obtain ⟨a, r, p, n, ss, xs, rfl, _⟩ := h; rfl) (fun cdv A outer s H vs Q E hr h => ?_)
  obtain ⟨a, r, p, n, ss, xs, rfl, hM, hn, hp, hx, q⟩ := h
  refine ⟨_, PSs.nox (pss_one (ps_if (PW.pt (pw_or (pt_not (pt_val (pe_call (G_are_wholes T) (hr.mono (by decide)) (by rfl) T.g_are_wholes T.F_are_wholes.kp T.b_are_wholes .nil pass0 (pa_cons (pv 1) pa_nil)))) (pw_or1 (pt_cmpR op_ne (pe_callB (k_len K rfl) (by rfl) T.n_len (by decide +kernel) (pa_cons (pv 1) pa_nil)) (pe_fld (pv 0) rfl) (nomark _)))))
    (pss_one ps_never)
    pss_nil)), ?_⟩
  refine ⟨_, rfl, p, xs, rfl, hp, by omega, fun H1 s1 => ?_⟩
  obtain ⟨dx, vs, ha, hr0, hv⟩ := hM.same s1
  walk_at "go"
  refine ⟨p, _, rfl, .inl (.inl (.inl (s1 _ _ hp))), ?_⟩
  rw [List.length_map, hx]
  walk_at "go"
  refine ⟨a, T.C_Mixer, dx, _, _, rfl, ha, T.cl_Mixer, T.na_Mixer_many, rfl, rfl, _, rfl, iteENF rfl ?_⟩
  exact q _ s1
end
end My

namespace My
open PySem PySem.Spec PyProof.Rows L2 Pre
theorem dot_zip : ∀ ws xs : List Int, (List.zipWith (fun a b => a * b) ws xs).sum = dotP ws xs
  | [], xs => by cases xs <;> rfl
  | _ :: _, [] => rfl
  | w :: ws, x :: xs => by
    show w * x + (List.zipWith (fun a b => a * b) ws xs).sum = w * x + dotP ws xs
    rw [dot_zip ws xs]
theorem at_getD {xs : List Int} {i : Nat} (h : i < xs.length) : atI (xs.map V.int) (i : Int) = some (.int (xs.getD i 0)) := atI_nat (by
  rw [List.getElem?_map, List.getElem?_eq_getElem h, List.getD_eq_getElem?_getD, List.getElem?_eq_getElem h]
  rfl)
theorem ix_ok {xs : List V} {i : Nat} (h : i < xs.length) : ixN xs.length (i : Int) = some i := by
  unfold ixN
  rw [if_pos (by omega), Int.toNat_natCast, if_pos (Int.ofNat_lt.mpr h)]
theorem play_take {ss : List Step} {i : Nat} {s : Step} (h : ss[i]? = some s) (xs : List Int) : playF (ss.take (i + 1)) xs = stepF 1 s (playF (ss.take i) xs) := by
  unfold playF
  rw [take_snoc h, List.foldl_append]
  rfl
theorem back_take {ss : List Step} {i : Nat} {s : Step} (h : ss.reverse[i]? = some s) (xs : List Int) : (ss.reverse.take (i + 1)).foldl (fun x s => stepF (-1) s x) xs = stepF (-1) s ((ss.reverse.take i).foldl (fun x s => stepF (-1) s x) xs) := by
  rw [take_snoc h, List.foldl_append]
  rfl
theorem fold_len (way : Int) : ∀ (ss : List Step) (xs : List Int), (ss.foldl (fun x s => stepF way s x) xs).length = xs.length
  | [], _ => rfl
  | s :: ss, xs => by rw [List.foldl_cons, fold_len way ss, stepF_len]
local macro_rules | `(tactic| walk_at "go") => `(tactic| repeat (first | (with_reducible first | refine iteT ?_ | refine iteF ?_ | refine iteNtt ?_ | refine iteNff ?_ | refine iteET (by omega) ?_ | refine iteEF (by omega) ?_ | refine iteENT (by omega) ?_ | refine iteENF (by omega) ?_ | refine iteDT (by omega) ?_ | refine iteDF (by omega) ?_ | refine iteNT (by omega) ?_ | refine iteNF (by omega) ?_) | refine ⟨_, rfl, ?_⟩ | refine ⟨_, _, rfl, rfl, ?_⟩ | refine ⟨_, _, rfl, ?_⟩ | refine ⟨rfl, ?_⟩ | refine .inl ⟨_, rfl, ?_⟩ | refine .inr ⟨_, rfl, ?_⟩))
local macro_rules | `(tactic| walk_at "b") => `(tactic| try dsimp (config := { proj := false, iota := false, eta := false, zeta := false }) only)
section
variable {P : Program} {w : World} {K : PySem.W.Frag} {mg : Str → Option Value} {base : Heap}
def sp_summed (K : PySem.W.Frag) : Sp := fun vs H Q _ => ∃ (a b : Addr) (ws xs : List Int), vs = [.ref a, .ref b] ∧ SqT K H a (ws.map V.int) ∧ SqL K H b (xs.map V.int) ∧ ws.length = xs.length ∧ ws.length ≤ 100 ∧ (∀ w ∈ ws, -32768 ≤ w ∧ w ≤ 32768) ∧ ∀ H', Same H H' → Q (.int (dotP ws xs)) H'
theorem G_summed (T : Top K mg) : FnOk P w K mg base CX0 1 T.f_summed T.fd_summed ["weights", "numbers"] (sp_summed K) := by
  refine T.F_summed.ok sc_summed (fun vs H Q E h => by obtain ⟨a, b, ws, xs, rfl, _⟩ := h; rfl) (fun cdv A outer s H vs Q E hr h => ?_)
  obtain ⟨a, b, ws, xs, rfl, hA, hB, hl, hz, hw, q⟩ := h
  refine ⟨_, PSs.nox (pss_one (ps_ret (pe_callB (k_sum K rfl rfl) (by rfl) T.n_sum (by decide +kernel) (pa_cons (pe_lc (own := [("weight", 2), ("number", 3)]) (g := gTup K 2 (gCons (gName 2) (gCons (gName 3) (gNil)))) (tt := tYes) (by rfl) sc_summed.nd (k_piZS K rfl (by rfl) T.n_zip (pa_cons (pv 0) (pa_cons (pv 1) pa_nil)) (pk_cons pe_bl pk_nil)) (blkOk_by (own := [("weight", 2), ("number", 3)]) (N := N_summed) (sc := defScope s_summed) (by decide +kernel)) (fun _ _ _ _ _ => (k_pgT K rfl (by rfl) (pgs_cons (pg_name (i := 2) sc_summed.nd rfl (by first | exact Or.inl rfl | exact Or.inr rfl)) (pgs_cons (pg_name (i := 3) sc_summed.nd rfl (by first | exact Or.inl rfl | exact Or.inr rfl)) pgs_nil)))) (fun _ _ _ _ _ => pts_nil) (fun _ _ _ _ _ => (pe_op op_mul (pv 2) (pv 3)))) pa_nil)))), ?_⟩
  walk_at "go"
  refine ⟨a, b, _, _, rfl, hA, hB, fun D nD => ?_⟩
  have hzl : (List.zipWith (fun a b => a * b) ws xs).length = ws.length := by rw [List.length_zipWith, hl, Nat.min_self]
  refine lc_dW (walk_zs (K := K) (a := a) (b := b) (xs := ws.map V.int) (ys := xs.map V.int) (by rw [List.length_map, List.length_map, hl])) (S := []) Has.nil ((List.zipWith (fun a b => a * b) ws xs).map fun x => some (PyData.int x)) nD (by rw [List.length_map, hzl, List.length_map]) (by rw [List.length_map]; exact small1000 (by omega)) (fun H' s => ⟨Same.tup s hA, s.seq hB⟩) ?_ ?_
  · rintro j o H0 x H'' hj ho s0 hH ⟨T1, x1, y1, rfl, nT, rfl, e1, e2⟩ Qt qt
    have st := same_upd (o := .tup [x1, y1]) nT
    obtain ⟨n1, en1, rfl⟩ := int_at e1
    obtain ⟨n2, en2, rfl⟩ := int_at e2
    have eo : o = some (PyData.int (n1 * n2)) := by
      rw [List.getElem?_map, List.getElem?_zipWith, en1, en2] at ho
      exact (Option.some.inj ho).symm
    subst eo
    refine ⟨T1, _, rfl, .inl (.inl upd_same), rfl, ?_⟩
    generalize upd H0 T1 (.tup [V.int n1, V.int n2]) = H8 at st
    refine ⟨_, _, rfl, _, _, rfl, rfl, ⟨rfl, ?_⟩⟩
    walk_at "go"
    have hb := hw n1 (List.mem_of_getElem? en1)
    refine ⟨.inl ⟨by omega, by omega⟩, ?_⟩
    exact qt _ _ st (.int _)
  · intro H7 s7 _ dD
    have el : ((List.zipWith (fun a b => a * b) ws xs).map fun x => some (PyData.int x)).filterMap id = (List.zipWith (fun a b => a * b) ws xs).map PyData.int := sel_map _ _
    rw [el, rs_nil] at dD
    obtain ⟨_, e, hD⟩ := Dt.intsE (ns := List.zipWith (fun a b => a * b) ws xs) dD
    cases e
    refine ⟨D, _, rfl, .inl (.inl hD), ?_⟩
    rw [dot_zip]
    exact q _ s7
def sp_stepped (K : PySem.W.Frag) : Sp := fun vs H Q _ => ∃ (v : V) (p : Addr) (way : Int) (s : Step) (xs : List Int), vs = [v, .ref p, .int way] ∧ RowV H v s ∧ H p = some (.lst (xs.map V.int)) ∧ s.ok xs.length ∧ xs.length ≤ 4 ∧ -1 ≤ way ∧ way ≤ 1 ∧
  ∀ H' p', Same H H' → H p' = none → H' p' = some (.lst ((stepF way s xs).map V.int)) → Q (.ref p') H'
theorem G_stepped (T : Top K mg) : FnOk P w K mg base CX0 2 T.f_stepped T.fd_stepped ["row", "numbers", "way"] (sp_stepped K) := by
  refine T.F_stepped.ok sc_stepped (fun vs H Q E h => by obtain ⟨v, p, way, s, xs, rfl, _⟩ := h; rfl) (fun cdv A outer s H vs Q E hr h => ?_)
  obtain ⟨v, p, way, s, xs, rfl, hV, hp, hO, hx, hw1, hw2, q⟩ := h
  refine ⟨_, PSs.nox (pss_cons (ps_set (i := 3) sc_stepped.nd rfl (by first | exact Or.inl rfl | exact Or.inr rfl) (pe_callTy (k_listOf K rfl) (by rfl) T.n_list (by decide +kernel) (pa_cons (pv 1) pa_nil)))
  (pss_cons (ps_if (pt_cmpR op_eq (pe_ix (k_ixT K rfl) (pv 0) pe_int (fun _ _ => rfl)) pe_str (nomark _))
    (pss_one (ps_asg (pe_op op_add (pe_ix (k_ixL K rfl) (pv 3) (pe_ix (k_ixT K rfl) (pv 0) pe_int (fun _ _ => rfl)) (fun _ _ => rfl)) (pe_op op_mul (pv 2) (pe_op op_shr (pe_call (G_summed T) (hr.mono (by decide)) (by rfl) T.g_summed T.F_summed.kp T.b_summed .nil pass0 (pa_cons (pe_ix (k_ixT K rfl) (pv 0) pe_int (fun _ _ => rfl)) (pa_cons (pv 3) pa_nil))) (pe_ix (k_ixT K rfl) (pv 0) pe_int (fun _ _ => rfl))))) (pg_sub (pv 3) (pe_ix (k_ixT K rfl) (pv 0) pe_int (fun _ _ => rfl)) set_list)))
    (pss_one (ps_if (pt_cmpR op_eq (pe_ix (k_ixT K rfl) (pv 0) pe_int (fun _ _ => rfl)) pe_str (nomark _))
    (pss_one (ps_asg (pe_op op_sub pe_int (pe_ix (k_ixL K rfl) (pv 3) (pe_ix (k_ixT K rfl) (pv 0) pe_int (fun _ _ => rfl)) (fun _ _ => rfl))) (pg_sub (pv 3) (pe_ix (k_ixT K rfl) (pv 0) pe_int (fun _ _ => rfl)) set_list)))
    (pss_one (ps_asg (pe_tup (pa_cons (pe_ix (k_ixL K rfl) (pv 3) (pe_ix (k_ixT K rfl) (pv 0) pe_int (fun _ _ => rfl)) (fun _ _ => rfl)) (pa_cons (pe_ix (k_ixL K rfl) (pv 3) (pe_ix (k_ixT K rfl) (pv 0) pe_int (fun _ _ => rfl)) (fun _ _ => rfl)) pa_nil))) (k_pgT K rfl (by rfl) (pgs_cons (pg_sub (pv 3) (pe_ix (k_ixT K rfl) (pv 0) pe_int (fun _ _ => rfl)) set_list) (pgs_cons (pg_sub (pv 3) (pe_ix (k_ixT K rfl) (pv 0) pe_int (fun _ _ => rfl)) set_list) pgs_nil))))))))
  (pss_one (ps_ret (pv 3))))), ?_⟩
  refine ⟨_, rfl, p, _, rfl, .inl (.inl (.inl hp)), fun l nl => ?_⟩
  obtain ⟨H1, e1, s1, h1⟩ := fresh (.lst (xs.map V.int)) nl
  rw [e1]
  have fin : ∀ {H2 : Hp} {ys : List Int}, Same H1 H2 → stepF way s xs = ys → Q (.ref l) (upd H2 l (.lst (ys.map V.int))) := fun s2 e => q _ l (same_over nl (s1.trans s2)) nl (by rw [upd_same, e])
  cases s with
  | turn i =>
    obtain ⟨t, rfl, ht⟩ := hV
    have hi : i < xs.length := hO
    have hT : SqT K H1 t [sT, .int i] := .inl (.inl (s1 _ _ ht))
    walk_at "go"
    refine ⟨t, _, _, _, rfl, rfl, hT, rfl, rfl, _, rfl, iteDF (by decide) ?_⟩
    walk_at "go"
    refine ⟨t, _, _, _, rfl, rfl, hT, rfl, rfl, _, rfl, iteDT rfl ?_⟩
    walk_at "go"
    refine ⟨t, _, _, _, rfl, rfl, hT, rfl, ?_⟩
    refine ⟨l, _, _, _, rfl, rfl, .inl (.inl h1), at_getD hi, ?_⟩
    walk_at "go"
    refine ⟨t, _, _, _, rfl, rfl, hT, rfl, ?_⟩
    refine ⟨l, _, _, i, rfl, rfl, h1, ix_ok (by rw [List.length_map]; exact hi), ?_⟩
    have z := fin (ys := xs.set i (0 - xs.getD i 0)) (Same.refl H1) rfl
    rw [List.map_set] at z
    exact ⟨_, rfl, z⟩
  | swap i j =>
    obtain ⟨t, rfl, ht⟩ := hV
    have hT : SqT K H1 t [sS, .int i, .int j] := .inl (.inl (s1 _ _ ht))
    walk_at "go"
    refine ⟨t, _, _, _, rfl, rfl, hT, rfl, rfl, _, rfl, iteDF (by decide) ?_⟩
    walk_at "go"
    refine ⟨t, _, _, _, rfl, rfl, hT, rfl, rfl, _, rfl, iteDF (by decide) ?_⟩
    walk_at "go"
    obtain ⟨hi, hj, hij⟩ := hO
    refine ⟨t, _, _, _, rfl, rfl, hT, rfl, ?_⟩
    refine ⟨l, _, _, _, rfl, rfl, .inl (.inl h1), at_getD hj, ?_⟩
    walk_at "go"
    refine ⟨t, _, _, _, rfl, rfl, hT, rfl, ?_⟩
    refine ⟨l, _, _, _, rfl, rfl, .inl (.inl h1), at_getD hi, ?_⟩
    refine ⟨(show 2 ≤ sizeLine by decide), fun tp ntp => ?_⟩
    obtain ⟨H2, e2, s2, h2⟩ := fresh (.tup [V.int (xs.getD j 0), V.int (xs.getD i 0)]) ntp
    rw [e2]
    have hT2 := Same.tup s2 hT
    have h12 := s2 _ _ h1
    refine ⟨tp, _, rfl, .inl (.inl h2), rfl, ?_⟩
    walk_at "go"
    refine ⟨t, _, _, _, rfl, rfl, hT2, rfl, ?_⟩
    refine ⟨l, _, _, i, rfl, rfl, h12, ix_ok (by rw [List.length_map]; exact hi), ?_⟩
    walk_at "go"
    have ht2 := s2 _ _ (s1 _ _ ht)
    have tl : t ≠ l := fun z => by rw [z, h12] at ht2; cases ht2
    refine ⟨t, _, _, _, rfl, rfl, .inl (.inl (by rw [upd_ne tl]; exact ht2)), rfl, ?_⟩
    refine ⟨l, _, _, j, rfl, rfl, upd_same, ix_ok (by rw [List.length_set, List.length_map]; exact hj), rfl, _, rfl, ?_⟩
    refine q _ l (same_over nl (same_over nl (s1.trans s2))) nl ?_
    rw [upd_same]
    show _ = some (HO.lst (((xs.set i (xs.getD j 0)).set j (xs.getD i 0)).map V.int))
    rw [List.map_set, List.map_set]
  | lift b ws sh =>
    obtain ⟨t, lw, rfl, ht, hlw⟩ := hV
    have hT : SqT K H1 t [sL, .int b, .ref lw, .int sh] := .inl (.inl (s1 _ _ ht))
    walk_at "go"
    refine ⟨t, _, _, _, rfl, rfl, hT, rfl, rfl, _, rfl, iteDT rfl ?_⟩
    walk_at "go"
    obtain ⟨hb, hwl, hw0, hs15, hws⟩ := hO
    refine ⟨t, _, _, _, rfl, rfl, hT, rfl, ?_⟩
    refine ⟨l, _, _, _, rfl, rfl, .inl (.inl h1), at_getD hb, ?_⟩
    walk_at "go"
    refine ⟨t, _, _, _, rfl, rfl, hT, rfl, ?_⟩
    walk_at "go"
    refine ⟨lw, l, ws, xs, rfl, .inl (.inl (s1 _ _ hlw)), .inl (.inl h1), hwl, by omega, hws, fun H2 s2 => ?_⟩
    have hT2 := Same.tup s2 hT
    have h12 := s2 _ _ h1
    walk_at "go"
    refine ⟨t, _, _, _, rfl, rfl, hT2, rfl, ?_⟩
    refine ⟨_, _, rfl, rfl, Int.natCast_nonneg _, _, _, rfl, rfl, .inl ⟨by omega, by omega⟩, _, _, rfl, rfl, ?_⟩
    walk_at "go"
    refine ⟨t, _, _, _, rfl, rfl, hT2, rfl, ?_⟩
    refine ⟨l, _, _, b, rfl, rfl, h12, ix_ok (by rw [List.length_map]; exact hb), ?_⟩
    have z := fin (ys := xs.set b (xs.getD b 0 + way * (dotP ws xs / 2 ^ sh))) s2 rfl
    rw [List.map_set] at z
    exact ⟨_, rfl, z⟩
def sp_played (K : PySem.W.Frag) : Sp := fun vs H Q _ => ∃ (r p : Addr) (us : List V) (ss : List Step) (xs : List Int), vs = [.ref r, .ref p] ∧ H r = some (.lst us) ∧ AllV (RowV H) us ss ∧ H p = some (.lst (xs.map V.int)) ∧ (∀ s ∈ ss, s.ok xs.length) ∧ xs.length ≤ 4 ∧
  ∀ H' p', Same H H' → H' p' = some (.lst ((playF ss xs).map V.int)) → Q (.ref p') H'
theorem G_played (T : Top K mg) : FnOk P w K mg base CX0 3 T.f_played T.fd_played ["rows", "numbers"] (sp_played K) := by
  refine T.F_played.ok sc_played (fun vs H Q E h => by obtain ⟨r, p, us, ss, xs, rfl, _⟩ := h; rfl) (fun cdv A outer s H vs Q E hr h => ?_)
  obtain ⟨r, p, us, ss, xs, rfl, hr0, hv, hp, hO, hx, q⟩ := h
  refine ⟨_, PSs.nox (pss_cons (ps_set (i := 2) sc_played.nd rfl (by first | exact Or.inl rfl | exact Or.inr rfl) (pv 1))
  (pss_cons (ps_for PassesOwn.never rfl (k_piL K rfl (pv 0)) (pg_name (i := 3) sc_played.nd rfl (by first | exact Or.inl rfl | exact Or.inr rfl))
    (pss_one (ps_set (i := 2) sc_played.nd rfl (by first | exact Or.inl rfl | exact Or.inr rfl) (pe_call (G_stepped T) (hr.mono (by decide)) (by rfl) T.g_stepped T.F_stepped.kp T.b0_stepped T.v0_stepped pass0 (pa_cons (pv 3) (pa_cons (pv 2) pa_nil))))))
  (pss_one (ps_ret (pv 2))))), ?_⟩
  walk_at "go"
  refine ⟨⟨_, .inl (.inl hr0)⟩, for_list (K := K) (a := r) (xs := us) (fun i σ H1 => ∃ (v3 : Option V) (p' : Addr), σ = [some (.ref r), some (.ref p), some (.ref p'), v3] ∧ Same H H1 ∧ H1 p' = some (.lst ((playF (ss.take i) xs).map V.int))) ⟨none, p, rfl, Same.refl _, hp⟩ (fun i σ H1 _ ⟨_, _, _, s, _⟩ => .inl (.inl (s _ _ hr0))) ?_ ?_⟩
  · rintro i v σ H1 hi ⟨v3, p', rfl, s1, h1⟩
    obtain ⟨s, hs, hvs⟩ := hv.get hi
    have pl := play_len (ss.take i) xs
    walk_at "go"
    refine ⟨v, p', 1, s, playF (ss.take i) xs, rfl, hvs.same s1, h1, by rw [pl]; exact hO s (List.mem_of_getElem? hs), by omega, by decide, by decide, fun H2 p2 s2 np2 h2 => ?_⟩
    rw [← play_take hs] at h2
    exact ⟨_, _, rfl, s1.trans s2, h2⟩
  · rintro σ H1 ⟨v3, p', rfl, s1, h1⟩
    rw [hv.len, List.take_length] at h1
    exact ⟨_, rfl, q _ p' s1 h1⟩
def sp_mixed (C : Addr) : Sp := fun vs H Q _ => ∃ (a r p : Addr) (n : Nat) (ss : List Step) (xs : List Int), vs = [.ref a, .ref p] ∧ MixAt C H a r n ss ∧ n ≤ 4 ∧ H p = some (.lst (xs.map V.int)) ∧ xs.length = n ∧ (∀ s ∈ ss, s.ok n) ∧
  ∀ H' p', Same H H' → H p' = none → H' p' = some (.lst ((playF ss xs).map V.int)) → Q (.ref p') H'
theorem G_mixed (T : Top K mg) : FnOk P w K mg base CX0 4 T.f_mixed T.fd_mixed ["mixer", "samples"] (sp_mixed T.C_Mixer) := by
  refine T.F_mixed.ok sc_mixed (fun vs H Q E h => by obtain ⟨a, r, p, n, ss, xs, rfl, _⟩ := h; rfl) (fun cdv A outer s H vs Q E hr h => ?_)
  obtain ⟨a, r, p, n, ss, xs, rfl, hM, hn, hp, hx, hO, q⟩ := h
  refine ⟨_, PSs.nox (pss_cons (ps_expr (pe_call (G_check_mixer T) (hr.mono (by decide)) (by rfl) T.g_check_mixer T.F_check_mixer.kp T.b_check_mixer .nil pass0 (pa_cons (pv 0) pa_nil)))
  (pss_cons (ps_expr (pe_call (G_check_moment T) (hr.mono (by decide)) (by rfl) T.g_check_moment T.F_check_moment.kp T.b_check_moment .nil pass0 (pa_cons (pv 0) (pa_cons (pv 1) pa_nil))))
  (pss_one (ps_ret (pe_callTy (k_listOf K rfl) (by rfl) T.n_list (by decide +kernel) (pa_cons (pe_call (G_played T) (hr.mono (by decide)) (by rfl) T.g_played T.F_played.kp T.b_played .nil pass0 (pa_cons (pe_fld (pv 0) rfl) (pa_cons (pv 1) pa_nil))) pa_nil)))))), ?_⟩
  refine ⟨_, rfl, a, r, n, ss, rfl, hM, ?_⟩
  refine ⟨_, rfl, _, rfl, a, r, p, n, ss, xs, rfl, hM, hn, hp, hx, fun H1 s1 => ?_⟩
  have hp1 := s1 _ _ hp
  obtain ⟨dx, us, ha, hr0, hv⟩ := hM.same s1
  walk_at "go"
  refine ⟨a, T.C_Mixer, dx, _, _, rfl, ha, T.cl_Mixer, T.na_Mixer_rows, rfl, ?_⟩
  walk_at "go"
  refine ⟨r, p, us, ss, xs, rfl, hr0, hv, hp1, by rw [hx]; exact hO, by omega, fun H2 p2 s2 h2 => ?_⟩
  refine ⟨p2, _, rfl, .inl (.inl (.inl h2)), fun p3 np3 => ?_⟩
  exact q _ p3 (s1.trans (s2.trans (same_upd np3))) (s1.free (s2.free np3)) upd_same
def sp_unmixed (C : Addr) (K : PySem.W.Frag) : Sp := fun vs H Q _ => ∃ (a r p : Addr) (n : Nat) (ss : List Step) (xs : List Int), vs = [.ref a, .ref p] ∧ MixAt C H a r n ss ∧ n ≤ 4 ∧ H p = some (.lst (xs.map V.int)) ∧ xs.length = n ∧ (∀ s ∈ ss, s.ok n) ∧ ss.length ≤ 100 ∧
  ∀ H' p', Same H H' → H p' = none → H' p' = some (.lst ((backF ss xs).map V.int)) → Q (.ref p') H'
theorem G_unmixed (T : Top K mg) : FnOk P w K mg base CX0 4 T.f_unmixed T.fd_unmixed ["mixer", "samples"] (sp_unmixed T.C_Mixer K) := by
  refine T.F_unmixed.ok sc_unmixed (fun vs H Q E h => by obtain ⟨a, r, p, n, ss, xs, rfl, _⟩ := h; rfl) (fun cdv A outer s H vs Q E hr h => ?_)
  obtain ⟨a, r, p, n, ss, xs, rfl, hM, hn, hp, hx, hO, hl, q⟩ := h
  refine ⟨_, PSs.nox (pss_cons (ps_expr (pe_call (G_check_mixer T) (hr.mono (by decide)) (by rfl) T.g_check_mixer T.F_check_mixer.kp T.b_check_mixer .nil pass0 (pa_cons (pv 0) pa_nil)))
  (pss_cons (ps_expr (pe_call (G_check_moment T) (hr.mono (by decide)) (by rfl) T.g_check_moment T.F_check_moment.kp T.b_check_moment .nil pass0 (pa_cons (pv 0) (pa_cons (pv 1) pa_nil))))
  (pss_cons (ps_set (i := 2) sc_unmixed.nd rfl (by first | exact Or.inl rfl | exact Or.inr rfl) (pe_callTy (k_listOf K rfl) (by rfl) T.n_list (by decide +kernel) (pa_cons (pv 1) pa_nil)))
  (pss_cons (ps_for PassesOwn.never rfl (k_piL K rfl (pe_revL (pe_fld (pv 0) rfl))) (pg_name (i := 3) sc_unmixed.nd rfl (by first | exact Or.inl rfl | exact Or.inr rfl))
    (pss_one (ps_set (i := 2) sc_unmixed.nd rfl (by first | exact Or.inl rfl | exact Or.inr rfl) (pe_call (G_stepped T) (hr.mono (by decide)) (by rfl) T.g_stepped T.F_stepped.kp T.b_stepped .nil pass0 (pa_cons (pv 3) (pa_cons (pv 2) (pa_cons (pe_un un_neg pe_int) pa_nil)))))))
  (pss_one (ps_ret (pv 2))))))), ?_⟩
  refine ⟨_, rfl, a, r, n, ss, rfl, hM, ?_⟩
  refine ⟨_, rfl, _, rfl, a, r, p, n, ss, xs, rfl, hM, hn, hp, hx, fun H1 s1 => ?_⟩
  have hp1 := s1 _ _ hp
  obtain ⟨dx, us, ha, hr0, hv⟩ := hM.same s1
  walk_at "go"
  refine ⟨p, _, rfl, .inl (.inl (.inl hp1)), fun p2 np2 => ?_⟩
  obtain ⟨H2, e2, s2, h2⟩ := fresh (.lst (xs.map V.int)) np2
  rw [e2]
  walk_at "go"
  refine ⟨a, T.C_Mixer, dx, _, _, rfl, s2 _ _ ha, T.cl_Mixer, T.na_Mixer_rows, rfl, ?_⟩
  refine ⟨r, us, rfl, .inl (.inl (s2 _ _ hr0)), fun p3 np3 => ?_⟩
  obtain ⟨H3, e3, s3, h3⟩ := fresh (.lst us.reverse) np3
  rw [e3]
  have s03 := s1.trans (s2.trans s3)
  have hv3 : AllV (RowV H3) us.reverse ss.reverse := (hv.imp fun v s => RowV.same (s2.trans s3)).rev
  have np2H := s1.free np2
  refine ⟨p3, rfl, ⟨_, .inl (.inl h3)⟩, for_list (K := K) (a := p3) (xs := us.reverse) (fun i σ H4 => ∃ (v3 : Option V) (p' : Addr), σ = [some (.ref a), some (.ref p), some (.ref p'), v3] ∧ Same H3 H4 ∧ H p' = none ∧ H4 p' = some (.lst (((ss.reverse.take i).foldl (fun x s => stepF (-1) s x) xs).map V.int))) ⟨_, p2, rfl, Same.refl _, np2H, s3 _ _ h2⟩ (fun i σ H1 _ ⟨_, _, _, s, _⟩ => .inl (.inl (s _ _ h3))) ?_ ?_⟩
  · rintro i v σ H4 hi ⟨v3, p', rfl, s4, n4, h4⟩
    obtain ⟨s, hs, hvs⟩ := hv3.get hi
    have pl := fold_len (-1) (ss.reverse.take i) xs
    walk_at "go"
    refine ⟨v, p', -1, s, _, rfl, hvs.same s4, h4, by rw [pl, hx]; exact hO s (List.mem_reverse.mp (List.mem_of_getElem? hs)), by omega, by decide, by decide, fun H5 p5 s5 np5 h5 => ?_⟩
    rw [← back_take hs] at h5
    exact ⟨_, p5, rfl, s4.trans s5, (s03.trans s4).free np5, h5⟩
  · rintro σ H4 ⟨v3, p', rfl, s4, n4, h4⟩
    rw [hv3.len, List.take_length] at h4
    exact ⟨_, rfl, q _ p' (s03.trans s4) n4 h4⟩
end
end My

namespace My
open PySem PySem.Spec PyProof.Rows L2 Pre
theorem dot_range : ∀ ws xs : List Int, ws.length = xs.length → ((List.range xs.length).map fun i => ws.getD i 0 * xs.getD i 0).sum = dotP ws xs
  | [], [], _ => rfl
  | [], _ :: _, h => by simp at h
  | _ :: _, [], h => by simp at h
  | w :: ws, x :: xs, h => by
    rw [List.length_cons, List.range_succ_eq_map, List.map_cons, List.sum_cons, List.map_map]
    show w * x + _ = w * x + dotP ws xs
    rw [← dot_range ws xs (by simpa using h)]
    rfl
local macro_rules | `(tactic| walk_at "go") => `(tactic| repeat (first | (with_reducible first | refine iteT ?_ | refine iteF ?_ | refine iteNtt ?_ | refine iteNff ?_ | refine iteET (by omega) ?_ | refine iteEF (by omega) ?_ | refine iteENT (by omega) ?_ | refine iteENF (by omega) ?_ | refine iteDT (by omega) ?_ | refine iteDF (by omega) ?_ | refine iteNT (by omega) ?_ | refine iteNF (by omega) ?_) | refine ⟨_, rfl, ?_⟩ | refine ⟨_, _, rfl, rfl, ?_⟩ | refine ⟨_, _, rfl, ?_⟩ | refine ⟨rfl, ?_⟩ | refine .inl ⟨_, rfl, ?_⟩ | refine .inr ⟨_, rfl, ?_⟩))
local macro_rules | `(tactic| walk_at "b") => `(tactic| try dsimp (config := { proj := false, iota := false, eta := false, zeta := false }) only)
section
variable {P : Program} {w : World} {K : PySem.W.Frag} {mg : Str → Option Value} {base : Heap}
def sp_law_whole : Sp := fun vs H Q _ => ∃ i : Int, vs = [.int i] ∧ Q (.bl true) H
theorem G_law_whole (T : Top K mg) : FnOk P w K mg base CX0 1 T.f_law_whole T.fd_law_whole ["_law_value"] sp_law_whole := by
  refine T.F_law_whole.ok sc_law_whole (fun vs H Q E h => by obtain ⟨i, rfl, _⟩ := h; rfl) (fun cdv A outer s H vs Q E hr h => ?_)
  obtain ⟨i, rfl, q⟩ := h
  refine ⟨_, PSs.nox (pss_one (ps_ret (pe_and (pe_callB (k_isi K rfl) (by rfl) T.n_isinstance (by decide +kernel) (pa_cons (pv 0) (pa_cons (pe_bltn (v := .ty "int") (by rfl) T.n_int (by decide +kernel) rfl) pa_nil))) (pe_one (pe_not (pe_callB (k_isi K rfl) (by rfl) T.n_isinstance (by decide +kernel) (pa_cons (pv 0) (pa_cons (pe_bltn (v := .ty "bool") (by rfl) T.n_bool (by decide +kernel) rfl) pa_nil)))))))), ?_⟩
  refine ⟨_, rfl, _, _, _, _, true, rfl, .ty _, .base (.int i), kit_ty (by decide +kernel), true, rfl, iteT ?_⟩
  exact ⟨_, rfl, _, _, _, _, false, rfl, .ty _, .base (.int i), kit_ty (by decide +kernel), false, rfl, q⟩
/-- value a whole number, low one, high None or one -/
def sp_law_numbers_right : Sp := fun vs H Q _ => ∃ (a : Addr) (ns : List Int) (n : Nat), vs = [.ref a, .int n] ∧ H a = some (.lst (ns.map V.int)) ∧ ns.length = n ∧ n ≤ 4 ∧ ∀ H', Same H H' → Q (.bl true) H'
theorem G_law_numbers_right (T : Top K mg) : FnOk P w K mg base CX0 2 T.f_law_numbers_right T.fd_law_numbers_right ["_law_row", "_law_broad"] sp_law_numbers_right := by
  refine T.F_law_numbers_right.ok sc_law_numbers_right (fun vs H Q E h => by obtain ⟨a, ns, n, rfl, _⟩ := h; rfl) (fun cdv A outer s H vs Q E hr h => ?_)
  obtain ⟨a, ns, n, rfl, hA, hn, hn4, q⟩ := h
  refine ⟨_, PSs.nox (pss_one (ps_ret (pe_and (pe_callB (k_isi K rfl) (by rfl) T.n_isinstance (by decide +kernel) (pa_cons (pv 0) (pa_cons (pe_bltn (v := .ty "list") (by rfl) T.n_list (by decide +kernel) rfl) pa_nil))) (pe_and (pe_cmpR op_eq (pe_callB (k_len K rfl) (by rfl) T.n_len (by decide +kernel) (pa_cons (pv 0) pa_nil)) (pv 1) (nomark _)) (pe_one (pe_cmpR (k_eqD K rfl hr.units) (pe_lc (own := [("_law_one", 2)]) (g := gName 2) (by rfl) sc_law_numbers_right.nd (k_piL K rfl (pv 0)) (blkOk_by (own := [("_law_one", 2)]) (N := N_law_numbers_right) (sc := defScope s_law_numbers_right) (by decide +kernel)) (fun _ _ _ _ _ => (pg_name (i := 2) sc_law_numbers_right.nd rfl (by first | exact Or.inl rfl | exact Or.inr rfl))) (fun _ _ _ _ _ => (pts_one (pt_not (pt_val (pe_call (G_law_whole T) (hr.mono (by decide)) (by rfl) T.g_law_whole T.F_law_whole.kp T.b_law_whole .nil pass0 (pa_cons (pv 2) pa_nil)))))) (fun _ _ _ _ _ => (pv 2))) (pe_lst pa_nil) (nomark _))))))), ?_⟩
  have hS : SqL K H a (ns.map V.int) := .inl (.inl hA)
  refine ⟨_, rfl, _, _, _, _, true, rfl, .ty _, ty_list hA, kit_ty (by decide +kernel), true, rfl, iteT ?_⟩
  walk_at "go"
  refine ⟨a, _, rfl, .inl hS, ?_⟩
  rw [List.length_map, hn]
  walk_at "go"
  refine ⟨⟨_, hS⟩, fun D nD => ?_⟩
  refine lc_selL (K := K) (xs := ns.map V.int) (ns.map fun _ => none) nD hS (by rw [List.length_map, List.length_map]) (by rw [List.length_map]; exact small1000 (by omega)) (fun x => rfl) ?_ ?_
  · intro i x o H' hx ho s Qt qt
    obtain ⟨n, hn, rfl⟩ := int_at hx
    rw [List.getElem?_map, hn] at ho
    cases ho
    refine ⟨_, rfl, n, rfl, true, rfl, ?_⟩
    exact qt _ (Same.refl _)
  · intro H' s hD
    rw [fm_non0] at hD
    walk_at "go"
    refine ⟨Nat.zero_le _, fun p np => ?_⟩
    refine eq_lst (ns := []) (.inl (.inl (same_upd np _ _ hD))) (.inl (.inl upd_same)) ?_
    exact q _ (s.trans (same_upd np))
def sp_law_stepped : Sp := fun vs H Q _ => ∃ (N : Addr → Prop) (v : V) (p : Addr) (way : Int) (s : Step) (xs : List Int), vs = [v, .ref p, .int way] ∧ StepV N H v s ∧ H p = some (.lst (xs.map V.int)) ∧ s.ok xs.length ∧ xs.length ≤ 4 ∧ -1 ≤ way ∧ way ≤ 1 ∧
  ∀ H' p', Same H H' → H p' = none → H' p' = some (.lst ((stepF way s xs).map V.int)) → Q (.ref p') H'
theorem G_law_stepped (T : Top K mg) : FnOk P w K mg base CX0 1 T.f_law_stepped T.fd_law_stepped ["_law_step", "_law_row", "_law_way"] sp_law_stepped := by
  refine T.F_law_stepped.ok sc_law_stepped (fun vs H Q E h => by obtain ⟨N, v, p, way, s, xs, rfl, _⟩ := h; rfl) (fun cdv A outer s H vs Q E hr h => ?_)
  obtain ⟨N, v, p, way, s, xs, rfl, hV, hp, hO, hx, hw1, hw2, q⟩ := h
  refine ⟨_, PSs.nox (pss_cons (ps_set (i := 3) sc_law_stepped.nd rfl (by first | exact Or.inl rfl | exact Or.inr rfl) (pe_callTy (k_listOf K rfl) (by rfl) T.n_list (by decide +kernel) (pa_cons (pv 1) pa_nil)))
  (pss_cons (ps_if (pt_cmpR op_eq (pe_ix (k_ixT K rfl) (pv 0) pe_int (fun _ _ => rfl)) pe_str (nomark _))
    (pss_cons (ps_set (i := 4) sc_law_stepped.nd rfl (by first | exact Or.inl rfl | exact Or.inr rfl) (pe_callB (k_sum K rfl rfl) (by rfl) T.n_sum (by decide +kernel) (pa_cons (pe_lc (own := [("_law_at", 5)]) (g := gName 5) (tt := tYes) (by rfl) sc_law_stepped.nd (pi_range1 (by rfl) T.n_range (pa_cons (pe_callB (k_len K rfl) (by rfl) T.n_len (by decide +kernel) (pa_cons (pv 1) pa_nil)) pa_nil)) (blkOk_by (own := [("_law_at", 5)]) (N := N_law_stepped) (sc := defScope s_law_stepped) (by decide +kernel)) (fun _ _ _ _ _ => (pg_name (i := 5) sc_law_stepped.nd rfl (by first | exact Or.inl rfl | exact Or.inr rfl))) (fun _ _ _ _ _ => pts_nil) (fun _ _ _ _ _ => (pe_op op_mul (pe_ix (k_ixL K rfl) (pe_ix (k_ixT K rfl) (pv 0) pe_int (fun _ _ => rfl)) (pv 5) (fun _ _ => rfl)) (pe_ix (k_ixL K rfl) (pv 1) (pv 5) (fun _ _ => rfl))))) pa_nil)))
  (pss_one (ps_asg (pe_op op_add (pe_ix (k_ixL K rfl) (pv 3) (pe_ix (k_ixT K rfl) (pv 0) pe_int (fun _ _ => rfl)) (fun _ _ => rfl)) (pe_op op_mul (pv 2) (pe_op op_fdivW (pv 4) (pe_op op_shl pe_int (pe_ix (k_ixT K rfl) (pv 0) pe_int (fun _ _ => rfl)))))) (pg_sub (pv 3) (pe_ix (k_ixT K rfl) (pv 0) pe_int (fun _ _ => rfl)) set_list))))
    (pss_one (ps_if (pt_cmpR op_eq (pe_ix (k_ixT K rfl) (pv 0) pe_int (fun _ _ => rfl)) pe_str (nomark _))
    (pss_one (ps_asg (pe_op op_sub pe_int (pe_ix (k_ixL K rfl) (pv 3) (pe_ix (k_ixT K rfl) (pv 0) pe_int (fun _ _ => rfl)) (fun _ _ => rfl))) (pg_sub (pv 3) (pe_ix (k_ixT K rfl) (pv 0) pe_int (fun _ _ => rfl)) set_list)))
    (pss_cons (ps_asg (pe_ix (k_ixL K rfl) (pv 1) (pe_ix (k_ixT K rfl) (pv 0) pe_int (fun _ _ => rfl)) (fun _ _ => rfl)) (pg_sub (pv 3) (pe_ix (k_ixT K rfl) (pv 0) pe_int (fun _ _ => rfl)) set_list))
  (pss_one (ps_asg (pe_ix (k_ixL K rfl) (pv 1) (pe_ix (k_ixT K rfl) (pv 0) pe_int (fun _ _ => rfl)) (fun _ _ => rfl)) (pg_sub (pv 3) (pe_ix (k_ixT K rfl) (pv 0) pe_int (fun _ _ => rfl)) set_list)))))))
  (pss_one (ps_ret (pv 3))))), ?_⟩
  refine ⟨_, rfl, p, _, rfl, .inl (.inl (.inl hp)), fun l nl => ?_⟩
  obtain ⟨H1, e1, s1, h1⟩ := fresh (.lst (xs.map V.int)) nl
  rw [e1]
  have hp1 := s1 _ _ hp
  have pl : p ≠ l := fun z => by rw [z, nl] at hp; cases hp
  have fin : ∀ {H2 : Hp} {ys : List Int}, Same H1 H2 → stepF way s xs = ys → Q (.ref l) (upd H2 l (.lst (ys.map V.int))) := fun s2 e => q _ l (same_over nl (s1.trans s2)) nl (by rw [upd_same, e])
  cases s with
  | turn i =>
    obtain ⟨t, rfl, ht⟩ := hV
    have hi : i < xs.length := hO
    have hT : SqT K H1 t [sT, .int i] := .inl (.inl (s1 _ _ ht))
    walk_at "go"
    refine ⟨t, _, _, _, rfl, rfl, hT, rfl, rfl, _, rfl, iteDF (by decide) ?_⟩
    walk_at "go"
    refine ⟨t, _, _, _, rfl, rfl, hT, rfl, rfl, _, rfl, iteDT rfl ?_⟩
    walk_at "go"
    refine ⟨t, _, _, _, rfl, rfl, hT, rfl, ?_⟩
    refine ⟨l, _, _, _, rfl, rfl, .inl (.inl h1), at_getD hi, ?_⟩
    walk_at "go"
    refine ⟨t, _, _, _, rfl, rfl, hT, rfl, ?_⟩
    refine ⟨l, _, _, i, rfl, rfl, h1, ix_ok (by rw [List.length_map]; exact hi), ?_⟩
    have z := fin (ys := xs.set i (0 - xs.getD i 0)) (Same.refl H1) rfl
    rw [List.map_set] at z
    exact ⟨_, rfl, z⟩
  | swap i j =>
    obtain ⟨t, rfl, ht⟩ := hV
    have hT : SqT K H1 t [sS, .int i, .int j] := .inl (.inl (s1 _ _ ht))
    obtain ⟨hi, hj, hij⟩ := hO
    walk_at "go"
    refine ⟨t, _, _, _, rfl, rfl, hT, rfl, rfl, _, rfl, iteDF (by decide) ?_⟩
    walk_at "go"
    refine ⟨t, _, _, _, rfl, rfl, hT, rfl, rfl, _, rfl, iteDF (by decide) ?_⟩
    walk_at "go"
    refine ⟨t, _, _, _, rfl, rfl, hT, rfl, ?_⟩
    refine ⟨p, _, _, _, rfl, rfl, .inl (.inl hp1), at_getD hj, ?_⟩
    walk_at "go"
    refine ⟨t, _, _, _, rfl, rfl, hT, rfl, ?_⟩
    refine ⟨l, _, _, i, rfl, rfl, h1, ix_ok (by rw [List.length_map]; exact hi), ?_⟩
    have ht2 := s1 _ _ ht
    have tl : t ≠ l := fun z => by rw [z, h1] at ht2; cases ht2
    have hT2 : SqT K (upd H1 l (.lst ((xs.map V.int).set i (.int (xs.getD j 0))))) t [sS, .int i, .int j] := .inl (.inl (by rw [upd_ne tl]; exact ht2))
    have hp2 : upd H1 l (.lst ((xs.map V.int).set i (.int (xs.getD j 0)))) p = some (.lst (xs.map V.int)) := by rw [upd_ne pl]; exact hp1
    walk_at "go"
    refine ⟨t, _, _, _, rfl, rfl, hT2, rfl, ?_⟩
    refine ⟨p, _, _, _, rfl, rfl, .inl (.inl hp2), at_getD hi, ?_⟩
    walk_at "go"
    refine ⟨t, _, _, _, rfl, rfl, hT2, rfl, ?_⟩
    refine ⟨l, _, _, j, rfl, rfl, upd_same, ix_ok (by rw [List.length_set, List.length_map]; exact hj), _, rfl, ?_⟩
    refine q _ l (same_over nl (same_over nl s1)) nl ?_
    rw [upd_same]
    show _ = some (HO.lst (((xs.set i (xs.getD j 0)).set j (xs.getD i 0)).map V.int))
    rw [List.map_set, List.map_set]
  | lift b ws sh =>
    obtain ⟨t, lw, rfl, ht, hlw, _⟩ := hV
    have hT : SqT K H1 t [sL, .int b, .ref lw, .int sh] := .inl (.inl (s1 _ _ ht))
    have hlw1 := s1 _ _ hlw
    obtain ⟨hb, hwl, hw0, hs15, hws⟩ := hO
    walk_at "go"
    refine ⟨t, _, _, _, rfl, rfl, hT, rfl, rfl, _, rfl, iteDT rfl ?_⟩
    walk_at "go"
    refine ⟨p, _, rfl, .inl (.inl (.inl hp1)), ?_⟩
    rw [List.length_map]
    walk_at "go"
    refine ⟨by omega, by omega, fun D nD => ?_⟩
    rw [Int.toNat_natCast]
    refine lc_mapR (lo := 0) (n := xs.length) (((List.range xs.length).map fun i => ws.getD i 0 * xs.getD i 0).map V.int) nD (by rw [List.length_map, List.length_map, List.length_range]) (small1000 (by omega)) (fun x => rfl) ?_ ?_
    · intro k y H' hk hy s Qt qt
      rw [List.getElem?_map, List.getElem?_map, List.getElem?_range hk] at hy
      cases hy
      rw [Int.zero_add]
      walk_at "go"
      refine ⟨t, _, _, _, rfl, rfl, Same.tup s hT, rfl, ?_⟩
      walk_at "go"
      refine ⟨lw, _, _, _, rfl, rfl, .inl (.inl (s _ _ hlw1)), at_getD (by omega), ?_⟩
      walk_at "go"
      refine ⟨p, _, _, _, rfl, rfl, .inl (.inl (s _ _ hp1)), at_getD hk, ?_⟩
      have hb2 := hws (ws.getD k 0) (by
        rw [List.getD_eq_getElem?_getD, List.getElem?_eq_getElem (show k < ws.length by omega)]
        exact List.getElem_mem _)
      refine ⟨_, _, rfl, rfl, .inl ⟨by omega, by omega⟩, ?_⟩
      exact qt _ (Same.refl _)
    intro H2 s2 hD
    refine ⟨D, _, rfl, .inl (.inl hD), ?_⟩
    rw [dot_range ws xs hwl]
    have hT2 := Same.tup s2 hT
    have h12 := s2 _ _ h1
    walk_at "go"
    refine ⟨t, _, _, _, rfl, rfl, hT2, rfl, ?_⟩
    refine ⟨l, _, _, _, rfl, rfl, .inl (.inl h12), at_getD hb, ?_⟩
    walk_at "go"
    refine ⟨t, _, _, _, rfl, rfl, hT2, rfl, ?_⟩
    refine ⟨_, _, rfl, rfl, ⟨by omega, by omega, by decide⟩, ?_⟩
    walk_at "b"
    have e2 : (1 : Int) * 2 ^ ((sh : Int)).toNat = ((2 ^ sh : Nat) : Int) := by rw [Int.one_mul, Int.toNat_natCast, Int.natCast_pow]; rfl
    have h15 : 2 ^ sh ≤ 2 ^ 15 := Nat.pow_le_pow_right (by decide) hs15
    have h0 : (0 : Int) < ((2 ^ sh : Nat) : Int) := Int.natCast_pos.mpr (Nat.two_pow_pos sh)
    rw [e2]
    refine ⟨_, _, rfl, rfl, wide_div (b := 60) h0 (by rw [Int.natAbs_natCast]; omega) (by decide) (by decide), ?_⟩
    refine ⟨_, _, rfl, rfl, .inl ⟨by omega, by omega⟩, _, _, rfl, rfl, ?_⟩
    walk_at "go"
    refine ⟨t, _, _, _, rfl, rfl, hT2, rfl, ?_⟩
    refine ⟨l, _, _, b, rfl, rfl, h12, ix_ok (by rw [List.length_map]; exact hb), ?_⟩
    have z := fin (ys := xs.set b (xs.getD b 0 + way * (dotP ws xs / 2 ^ sh))) s2 rfl
    rw [List.map_set, show (2 : Int) ^ sh = ((2 ^ sh : Nat) : Int) by rw [Int.natCast_pow]; rfl] at z
    exact ⟨_, rfl, z⟩
def sp_law_played (K : PySem.W.Frag) : Sp := fun vs H Q _ => ∃ (N : Addr → Prop) (r p : Addr) (ss : List Step) (xs : List Int), vs = [.ref r, .ref p] ∧ StepsAt N H r ss ∧ H p = some (.lst (xs.map V.int)) ∧ (∀ s ∈ ss, s.ok xs.length) ∧ xs.length ≤ 4 ∧
  ∀ H' p', Same H H' → H' p' = some (.lst ((playF ss xs).map V.int)) → Q (.ref p') H'
theorem G_law_played (T : Top K mg) : FnOk P w K mg base CX0 2 T.f_law_played T.fd_law_played ["_law_steps_here", "_law_row"] (sp_law_played K) := by
  refine T.F_law_played.ok sc_law_played (fun vs H Q E h => by obtain ⟨N, r, p, ss, xs, rfl, _⟩ := h; rfl) (fun cdv A outer s H vs Q E hr h => ?_)
  obtain ⟨N, r, p, ss, xs, rfl, hS, hp, hO, hx, q⟩ := h
  refine ⟨_, PSs.nox (pss_cons (ps_set (i := 2) sc_law_played.nd rfl (by first | exact Or.inl rfl | exact Or.inr rfl) (pe_callTy (k_listOf K rfl) (by rfl) T.n_list (by decide +kernel) (pa_cons (pv 1) pa_nil)))
  (pss_cons (ps_for PassesOwn.never rfl (k_piL K rfl (pv 0)) (pg_name (i := 3) sc_law_played.nd rfl (by first | exact Or.inl rfl | exact Or.inr rfl))
    (pss_one (ps_set (i := 2) sc_law_played.nd rfl (by first | exact Or.inl rfl | exact Or.inr rfl) (pe_call (G_law_stepped T) (hr.mono (by decide)) (by rfl) T.g_law_stepped T.F_law_stepped.kp T.b_law_stepped .nil pass0 (pa_cons (pv 3) (pa_cons (pv 2) (pa_cons pe_int pa_nil)))))))
  (pss_one (ps_ret (pv 2))))), ?_⟩
  obtain ⟨us, hr0, hv⟩ := hS
  refine ⟨_, rfl, p, _, rfl, .inl (.inl (.inl hp)), fun p0 np0 => ?_⟩
  obtain ⟨H1, e1, s1, h1⟩ := fresh (.lst (xs.map V.int)) np0
  rw [e1]
  have hr1 := s1 _ _ hr0
  walk_at "go"
  refine ⟨⟨_, .inl (.inl hr1)⟩, for_list (K := K) (a := r) (xs := us) (fun i σ H2 => ∃ (v3 : Option V) (p' : Addr), σ = [some (.ref r), some (.ref p), some (.ref p'), v3] ∧ Same H1 H2 ∧ H2 p' = some (.lst ((playF (ss.take i) xs).map V.int))) ⟨none, p0, rfl, Same.refl _, h1⟩ (fun i σ H1 _ ⟨_, _, _, s, _⟩ => .inl (.inl (s _ _ hr1))) ?_ ?_⟩
  · rintro i v σ H2 hi ⟨v3, p', rfl, s2, h2⟩
    obtain ⟨s, hs, hvs⟩ := hv.get hi
    have pl := play_len (ss.take i) xs
    walk_at "go"
    refine ⟨N, v, p', 1, s, playF (ss.take i) xs, rfl, hvs.same (s1.trans s2), h2, by rw [pl]; exact hO s (List.mem_of_getElem? hs), by omega, by decide, by decide, fun H3 p2 s3 np2 h3 => ?_⟩
    rw [← play_take hs] at h3
    exact ⟨_, _, rfl, s2.trans s3, h3⟩
  · rintro σ H2 ⟨v3, p', rfl, s2, h2⟩
    rw [hv.len, List.take_length] at h2
    exact ⟨_, rfl, q _ p' (s1.trans s2) h2⟩
def sp_law_led_back (K : PySem.W.Frag) : Sp := fun vs H Q _ => ∃ (N : Addr → Prop) (r p : Addr) (ss : List Step) (xs : List Int), vs = [.ref r, .ref p] ∧ StepsAt N H r ss ∧ H p = some (.lst (xs.map V.int)) ∧ (∀ s ∈ ss, s.ok xs.length) ∧ xs.length ≤ 4 ∧
  ∀ H' p', Same H H' → H' p' = some (.lst ((backF ss xs).map V.int)) → Q (.ref p') H'
theorem G_law_led_back (T : Top K mg) : FnOk P w K mg base CX0 2 T.f_law_led_back T.fd_law_led_back ["_law_steps_here", "_law_row"] (sp_law_led_back K) := by
  refine T.F_law_led_back.ok sc_law_led_back (fun vs H Q E h => by obtain ⟨N, r, p, ss, xs, rfl, _⟩ := h; rfl) (fun cdv A outer s H vs Q E hr h => ?_)
  obtain ⟨N, r, p, ss, xs, rfl, hS, hp, hO, hx, q⟩ := h
  refine ⟨_, PSs.nox (pss_cons (ps_set (i := 2) sc_law_led_back.nd rfl (by first | exact Or.inl rfl | exact Or.inr rfl) (pe_callTy (k_listOf K rfl) (by rfl) T.n_list (by decide +kernel) (pa_cons (pv 1) pa_nil)))
  (pss_cons (ps_for PassesOwn.never rfl (k_piL K rfl (pe_revL (pv 0))) (pg_name (i := 3) sc_law_led_back.nd rfl (by first | exact Or.inl rfl | exact Or.inr rfl))
    (pss_one (ps_set (i := 2) sc_law_led_back.nd rfl (by first | exact Or.inl rfl | exact Or.inr rfl) (pe_call (G_law_stepped T) (hr.mono (by decide)) (by rfl) T.g_law_stepped T.F_law_stepped.kp T.b_law_stepped .nil pass0 (pa_cons (pv 3) (pa_cons (pv 2) (pa_cons (pe_un un_neg pe_int) pa_nil)))))))
  (pss_one (ps_ret (pv 2))))), ?_⟩
  obtain ⟨us, hr0, hv⟩ := hS
  refine ⟨_, rfl, p, _, rfl, .inl (.inl (.inl hp)), fun p0 np0 => ?_⟩
  obtain ⟨H1, e1, s1, h1⟩ := fresh (.lst (xs.map V.int)) np0
  rw [e1]
  walk_at "go"
  refine ⟨r, us, rfl, .inl (.inl (s1 _ _ hr0)), fun p3 np3 => ?_⟩
  obtain ⟨H2, e2, s2, h2⟩ := fresh (.lst us.reverse) np3
  rw [e2]
  have s02 := s1.trans s2
  have hv3 : AllV (StepV N H2) us.reverse ss.reverse := (hv.imp fun v s => StepV.same s02).rev
  refine ⟨p3, rfl, ⟨_, .inl (.inl h2)⟩, for_list (K := K) (a := p3) (xs := us.reverse) (fun i σ H4 => ∃ (v3 : Option V) (p' : Addr), σ = [some (.ref r), some (.ref p), some (.ref p'), v3] ∧ Same H2 H4 ∧ H4 p' = some (.lst (((ss.reverse.take i).foldl (fun x s => stepF (-1) s x) xs).map V.int))) ⟨_, p0, rfl, Same.refl _, s2 _ _ h1⟩ (fun i σ H1 _ ⟨_, _, _, s, _⟩ => .inl (.inl (s _ _ h2))) ?_ ?_⟩
  · rintro i v σ H4 hi ⟨v3, p', rfl, s4, h4⟩
    obtain ⟨s, hs, hvs⟩ := hv3.get hi
    have pl := fold_len (-1) (ss.reverse.take i) xs
    walk_at "go"
    refine ⟨N, v, p', -1, s, _, rfl, hvs.same s4, h4, by rw [pl]; exact hO s (List.mem_reverse.mp (List.mem_of_getElem? hs)), by omega, by decide, by decide, fun H5 p5 s5 np5 h5 => ?_⟩
    rw [← back_take hs] at h5
    exact ⟨_, p5, rfl, s4.trans s5, h5⟩
  · rintro σ H4 ⟨v3, p', rfl, s4, h4⟩
    rw [hv3.len, List.take_length] at h4
    exact ⟨_, rfl, q _ p' (s02.trans s4) h4⟩
end
end My

namespace My
open PySem PySem.Spec PyProof.Rows L2 Pre
local macro_rules | `(tactic| walk_at "go") => `(tactic| repeat (first | (with_reducible first | refine iteT ?_ | refine iteF ?_ | refine iteNtt ?_ | refine iteNff ?_ | refine iteET (by omega) ?_ | refine iteEF (by omega) ?_ | refine iteENT (by omega) ?_ | refine iteENF (by omega) ?_ | refine iteDT (by omega) ?_ | refine iteDF (by omega) ?_ | refine iteNT (by omega) ?_ | refine iteNF (by omega) ?_) | refine ⟨_, rfl, ?_⟩ | refine ⟨_, _, rfl, rfl, ?_⟩ | refine ⟨_, _, rfl, ?_⟩ | refine ⟨rfl, ?_⟩ | refine .inl ⟨_, rfl, ?_⟩ | refine .inr ⟨_, rfl, ?_⟩))
local macro_rules | `(tactic| walk_at "b") => `(tactic| try dsimp (config := { proj := false, iota := false, eta := false, zeta := false }) only)
section
variable {P : Program} {w : World} {K : PySem.W.Frag} {mg : Str → Option Value} {base : Heap}
def sp_law_number : Sp := fun vs H Q _ => ∃ (g : Addr) (N : Nat), vs = [.ref g] ∧ GenAt H g N ∧ N ≤ 10 ^ 11 ∧ ∀ (n : Int) H', But g H H' → GenAt H' g (N + 1000) → Q (.int n) H'
theorem G_law_number (T : Top K mg) : FnOk P w K mg base CX0 2 T.f_law_number T.fd_law_number ["_law_purse_here"] sp_law_number := by
  refine T.F_law_number.ok sc_law_number (fun vs H Q E h => by obtain ⟨g, N, rfl, _⟩ := h; rfl) (fun cdv A outer s H vs Q E hr h => ?_)
  obtain ⟨g, N, rfl, hG, hN, q⟩ := h
  refine ⟨_, PSs.nox (pss_cons (ps_set (i := 1) sc_law_number.nd rfl (by first | exact Or.inl rfl | exact Or.inr rfl) (pe_ix (k_ixL K rfl) (pe_lst (pa_cons pe_int (pa_cons pe_int (pa_cons pe_int (pa_cons pe_int (pa_cons (pe_op op_powW pe_int pe_int) (pa_cons (pe_op op_powW pe_int pe_int) pa_nil))))))) (pe_call (G_law_draw T) (hr.mono (by decide)) (by rfl) T.g_law_draw T.F_law_draw.kp T.b_law_draw .nil pass0 (pa_cons (pv 0) (pa_cons pe_int pa_nil))) (fun _ _ => rfl)))
  (pss_cons (ps_if (pt_cmpR op_lt (pv 1) (pe_op op_powW pe_int pe_int) (nomark _))
    (pss_one (ps_ret (pe_op op_sub (pe_call (G_law_draw T) (hr.mono (by decide)) (by rfl) T.g_law_draw T.F_law_draw.kp T.b_law_draw .nil pass0 (pa_cons (pv 0) (pa_cons (pe_op op_add (pe_op op_mul pe_int (pv 1)) pe_int) pa_nil))) (pv 1))))
    pss_nil)
  (pss_cons (ps_set (i := 2) sc_law_number.nd rfl (by first | exact Or.inl rfl | exact Or.inr rfl) pe_int)
  (pss_cons (ps_for PassesOwn.never rfl (pi_range1 (by rfl) T.n_range (pa_cons pe_int pa_nil)) (pg_name (i := 3) sc_law_number.nd rfl (by first | exact Or.inl rfl | exact Or.inr rfl))
    (pss_one (ps_set (i := 2) sc_law_number.nd rfl (by first | exact Or.inl rfl | exact Or.inr rfl) (pe_op op_add (pe_op op_mul (pv 2) (pe_op op_powW pe_int pe_int)) (pe_call (G_law_draw T) (hr.mono (by decide)) (by rfl) T.g_law_draw T.F_law_draw.kp T.b_law_draw .nil pass0 (pa_cons (pv 0) (pa_cons (pe_op op_powW pe_int pe_int) pa_nil)))))))
  (pss_one (ps_ret (pe_op op_sub (pe_op op_mod (pv 2) (pe_op op_add (pe_op op_mul pe_int (pv 1)) pe_int)) (pv 1)))))))), ?_⟩
  have e9 : (10 : Int) ^ ((9 : Int)).toNat = 1000000000 := by decide
  have e29 : (10 : Int) ^ ((29 : Int)).toNat = 100000000000000000000000000000 := by decide
  have e6 : (10 : Int) ^ ((6 : Int)).toNat = 1000000 := by decide
  walk_at "go"
  refine ⟨⟨by decide, by decide⟩, ?_⟩
  walk_at "go"
  refine ⟨⟨by decide, by decide +kernel⟩, ?_⟩
  walk_at "b"
  rw [e9, e29]
  refine ⟨(show 6 ≤ sizeLine by decide), fun F nF => ?_⟩
  obtain ⟨H1, e1, s1, h1⟩ := fresh (.lst [V.int 4, V.int 4, V.int 20, V.int 1000, V.int 1000000000, V.int 100000000000000000000000000000]) nF
  rw [e1]
  have Fg : F ≠ g := hG.ne nF
  walk_at "go"
  refine ⟨g, _, _, rfl, hG.same s1, by omega, by decide, small_2900 (by decide), fun r1 H2 r10 r11 g2 b2 => ?_⟩
  have h2 := b2 _ _ Fg h1
  obtain ⟨br, hb1, hb2, hbr⟩ : ∃ br : Int, 4 ≤ br ∧ br ≤ 100000000000000000000000000000 ∧ atI [V.int 4, V.int 4, V.int 20, V.int 1000, V.int 1000000000, V.int 100000000000000000000000000000] r1 = some (.int br) := by
    obtain ⟨i, rfl⟩ : ∃ i : Nat, r1 = (i : Int) := ⟨r1.toNat, by omega⟩
    match i, r11 with
    | 0, _ => exact ⟨4, by decide, by decide, atI_nat rfl⟩
    | 1, _ => exact ⟨4, by decide, by decide, atI_nat rfl⟩
    | 2, _ => exact ⟨20, by decide, by decide, atI_nat rfl⟩
    | 3, _ => exact ⟨1000, by decide, by decide, atI_nat rfl⟩
    | 4, _ => exact ⟨1000000000, by decide, by decide, atI_nat rfl⟩
    | 5, _ => exact ⟨100000000000000000000000000000, by decide, by decide, atI_nat rfl⟩
    | i + 6, h => omega
  refine ⟨F, _, _, _, rfl, rfl, .inl (.inl h2), hbr, ?_⟩
  have b02 : But g H H2 := (But.of s1).trans b2
  walk_at "go"
  refine ⟨⟨by decide, by decide⟩, ?_⟩
  walk_at "b"
  rw [e6]
  refine ⟨_, _, rfl, rfl, _, rfl, ite2 (fun e => ?_) (fun e => ?_)⟩
  · have e1 : br < 1000000 := of_decide_eq_true e
    walk_at "go"
    refine ⟨.inl ⟨by decide, by decide⟩, ?_⟩
    walk_at "go"
    refine ⟨g, _, _, rfl, g2, by omega, by omega, small_2900 (by omega), fun r3 H3 r30 r31 g3 b3 => ?_⟩
    walk_at "go"
    exact q _ _ (b02.trans b3) (g3.mono (by omega))
  · walk_at "go"
    refine ⟨by decide, by decide, ?_⟩
    refine for_range (lo := 0) (n := ((5 : Int)).toNat) (fun i σ H3 => ∃ (v3 : Option V) (m : Int), σ = [some (.ref g), some (.int br), some (.int m), v3] ∧ But g H H3 ∧ GenAt H3 g (N + 100 + 100 * i)) ⟨none, 0, rfl, b02, g2⟩ ?_ ?_
    · rintro i σ H3 hi ⟨v3, m, rfl, b3, g3⟩
      have hi5 : i < 5 := hi
      walk_at "go"
      refine ⟨⟨by decide, by decide⟩, ?_⟩
      walk_at "b"
      rw [e6]
      refine ⟨_, _, rfl, rfl, .inr ⟨by decide, by decide⟩, ?_⟩
      walk_at "go"
      refine ⟨⟨by decide, by decide⟩, ?_⟩
      walk_at "b"
      rw [e6]
      walk_at "go"
      refine ⟨g, _, _, rfl, g3, by omega, by decide, small_2900 (by decide), fun r4 H4 r40 r41 g4 b4 => ?_⟩
      refine ⟨_, _, rfl, rfl, ?_⟩
      exact ⟨_, _, rfl, b3.trans b4, g4.mono (by omega)⟩
    · rintro σ H3 ⟨v3, m, rfl, b3, g3⟩
      walk_at "go"
      refine ⟨.inl ⟨by decide, by decide⟩, ?_⟩
      walk_at "go"
      refine ⟨by omega, ?_⟩
      walk_at "go"
      exact q _ _ b3 (g3.mono (by omega))
def sp_law_weight : Sp := fun vs H Q _ => ∃ (g : Addr) (N : Nat), vs = [.ref g] ∧ GenAt H g N ∧ N ≤ 10 ^ 11 ∧ ∀ (n : Int) H', -32768 ≤ n → n ≤ 32768 → But g H H' → GenAt H' g (N + 300) → Q (.int n) H'
theorem G_law_weight (T : Top K mg) : FnOk P w K mg base CX0 2 T.f_law_weight T.fd_law_weight ["_law_purse_here"] sp_law_weight := by
  refine T.F_law_weight.ok sc_law_weight (fun vs H Q E h => by obtain ⟨g, N, rfl, _⟩ := h; rfl) (fun cdv A outer s H vs Q E hr h => ?_)
  obtain ⟨g, N, rfl, hG, hN, q⟩ := h
  refine ⟨_, PSs.nox (pss_cons (ps_set (i := 1) sc_law_weight.nd rfl (by first | exact Or.inl rfl | exact Or.inr rfl) (pe_lst (pa_cons pe_int (pa_cons pe_int (pa_cons (pe_un un_neg pe_int) (pa_cons pe_int (pa_cons pe_int (pa_cons (pe_un un_neg pe_int) (pa_cons pe_int (pa_cons (pe_op op_sub (pe_call (G_law_draw T) (hr.mono (by decide)) (by rfl) T.g_law_draw T.F_law_draw.kp T.b_law_draw .nil pass0 (pa_cons (pv 0) (pa_cons pe_int pa_nil))) pe_int) pa_nil))))))))))
  (pss_one (ps_ret (pe_ix (k_ixL K rfl) (pe_op op_cat (pv 1) (pe_lst (pa_cons (pe_op op_sub (pe_call (G_law_draw T) (hr.mono (by decide)) (by rfl) T.g_law_draw T.F_law_draw.kp T.b_law_draw .nil pass0 (pa_cons (pv 0) (pa_cons pe_int pa_nil))) pe_int) pa_nil))) (pe_call (G_law_draw T) (hr.mono (by decide)) (by rfl) T.g_law_draw T.F_law_draw.kp T.b_law_draw .nil pass0 (pa_cons (pv 0) (pa_cons pe_int pa_nil))) (fun _ _ => rfl))))), ?_⟩
  walk_at "go"
  refine ⟨g, _, _, rfl, hG, by omega, by decide, small_2900 (by decide), fun r1 H1 r10 r11 g1 b1 => ?_⟩
  walk_at "go"
  refine ⟨(show 8 ≤ sizeLine by decide), fun F nF => ?_⟩
  obtain ⟨H2, e2, s2, h2⟩ := fresh (.lst [V.int 0, V.int 1, V.int (-1), V.int 1, V.int 2, V.int (-2), V.int 3, V.int (r1 - 10)]) nF
  rw [show upd H1 F (.lst _) = H2 from e2]
  have Fg : F ≠ g := g1.ne nF
  walk_at "go"
  refine ⟨g, _, _, rfl, g1.same s2, by omega, by decide, small_2900 (by decide), fun r3 H3 r30 r31 g3 b3 => ?_⟩
  have h3 := b3 _ _ Fg h2
  walk_at "go"
  refine ⟨(show 1 ≤ sizeLine by decide), fun L nL => ?_⟩
  obtain ⟨H4, e4, s4, h4⟩ := fresh (.lst [V.int (r3 - 32768)]) nL
  rw [show upd H3 L (.lst _) = H4 from e4]
  refine ⟨F, L, _, _, rfl, rfl, s4 _ _ h3, h4, (show 9 ≤ sizeLine by decide), fun Z nZ => ?_⟩
  obtain ⟨H5, e5, s5, h5⟩ := fresh (.lst [V.int 0, V.int 1, V.int (-1), V.int 1, V.int 2, V.int (-2), V.int 3, V.int (r1 - 10), V.int (r3 - 32768)]) nZ
  rw [show upd H4 Z (.lst ([V.int 0, V.int 1, V.int (-1), V.int 1, V.int 2, V.int (-2), V.int 3, V.int (r1 - 10)] ++ [V.int (r3 - 32768)])) = H5 from e5]
  have g5 := (g3.same s4).same s5
  have Zg : Z ≠ g := (g3.same s4).ne nZ
  walk_at "go"
  refine ⟨g, _, _, rfl, g5, by omega, by decide, small_2900 (by decide), fun r6 H6 r60 r61 g6 b6 => ?_⟩
  have h6 := b6 _ _ Zg h5
  obtain ⟨wt, hw1, hw2, hwt⟩ : ∃ wt : Int, -32768 ≤ wt ∧ wt ≤ 32768 ∧ atI [V.int 0, V.int 1, V.int (-1), V.int 1, V.int 2, V.int (-2), V.int 3, V.int (r1 - 10), V.int (r3 - 32768)] r6 = some (.int wt) := by
    obtain ⟨i, rfl⟩ : ∃ i : Nat, r6 = (i : Int) := ⟨r6.toNat, by omega⟩
    match i, r61 with
    | 0, _ => exact ⟨0, by decide, by decide, atI_nat rfl⟩
    | 1, _ => exact ⟨1, by decide, by decide, atI_nat rfl⟩
    | 2, _ => exact ⟨-1, by decide, by decide, atI_nat rfl⟩
    | 3, _ => exact ⟨1, by decide, by decide, atI_nat rfl⟩
    | 4, _ => exact ⟨2, by decide, by decide, atI_nat rfl⟩
    | 5, _ => exact ⟨-2, by decide, by decide, atI_nat rfl⟩
    | 6, _ => exact ⟨3, by decide, by decide, atI_nat rfl⟩
    | 7, _ => exact ⟨r1 - 10, by omega, by omega, atI_nat rfl⟩
    | 8, _ => exact ⟨r3 - 32768, by omega, by omega, atI_nat rfl⟩
    | i + 9, h => omega
  refine ⟨Z, _, _, _, rfl, rfl, .inl (.inl h6), hwt, ?_⟩
  exact q _ _ hw1 hw2 ((((b1.same s2).trans b3).same (s4.trans s5)).trans b6) (g6.mono (by omega))
def sp_law_lift : Sp := fun vs H Q _ => ∃ (g : Addr) (N n m : Nat), vs = [.ref g, .int n, .int m] ∧ GenAt H g N ∧ N ≤ 10 ^ 10 ∧ 1 ≤ n ∧ n ≤ 4 ∧ m ≤ 3 ∧
  ∀ H' v t ws sh, But g H H' → GenAt H' g (N + 5000) → StepV (fun l => H l = none ∧ l ≠ g) H' v (.lift t ws sh) → Step.ok n (.lift t ws sh) → sh ≤ m → Q v H'
theorem G_law_lift (T : Top K mg) : FnOk P w K mg base CX0 3 T.f_law_lift T.fd_law_lift ["_law_purse_here", "_law_broad", "_law_most"] sp_law_lift := by
  refine T.F_law_lift.ok sc_law_lift (fun vs H Q E h => by obtain ⟨g, N, n, m, rfl, _⟩ := h; rfl) (fun cdv A outer s H vs Q E hr h => ?_)
  obtain ⟨g, N, n, m, rfl, hG, hN, hn1, hn4, hm, q⟩ := h
  refine ⟨_, PSs.nox (pss_cons (ps_par (by rfl) sc_law_lift.nd (i := 4) (j := 5) rfl rfl (by decide) rfl rfl (pa_cons (pe_call (G_law_draw T) (hr.mono (by decide)) (by rfl) T.g_law_draw T.F_law_draw.kp T.b_law_draw .nil pass0 (pa_cons (pv 0) (pa_cons (pv 1) pa_nil))) (pa_cons (pe_call (G_law_draw T) (hr.mono (by decide)) (by rfl) T.g_law_draw T.F_law_draw.kp T.b_law_draw .nil pass0 (pa_cons (pv 0) (pa_cons (pe_op op_add (pv 2) pe_int) pa_nil))) pa_nil)) (by rfl))
  (pss_cons (ps_setLc (i := 3) (own := [("_law_way", 6)]) (g := gName 6) (tt := tYes) (by rfl) sc_law_lift.nd rfl rfl (sw_true rfl rfl rfl (by decide +kernel)) (pi_range1 (by rfl) T.n_range (pa_cons (pv 1) pa_nil)) (blkOk_by (own := [("_law_way", 6)]) (N := N_law_lift) (sc := defScope s_law_lift) (by decide +kernel)) (fun _ _ _ _ _ => (pg_name (i := 6) sc_law_lift.nd rfl (by first | exact Or.inl rfl | exact Or.inr rfl))) (fun _ _ _ _ _ => pts_nil) (fun _ _ _ _ _ => (pe_call (G_law_weight T) (hr.mono (by decide)) (by rfl) T.g_law_weight T.F_law_weight.kp T.b_law_weight .nil pass0 (pa_cons (pv 0) pa_nil))))
  (pss_cons (ps_asg pe_int (pg_sub (pv 3) (pv 4) set_list))
  (pss_one (ps_ret (pe_tup (pa_cons pe_str (pa_cons (pv 4) (pa_cons (pv 3) (pa_cons (pv 5) pa_nil)))))))))), ?_⟩
  walk_at "go"
  refine ⟨g, _, _, rfl, hG, by omega, by omega, small_2900 (by omega), fun r1 H1 r10 r11 g1 b1 => ?_⟩
  walk_at "go"
  refine ⟨g, _, _, rfl, g1, by omega, by omega, small_2900 (by omega), fun r2 H2 r20 r21 g2 b2 => ?_⟩
  obtain ⟨t, rfl⟩ : ∃ t : Nat, r1 = (t : Int) := ⟨r1.toNat, by omega⟩
  obtain ⟨sh, rfl⟩ : ∃ sh : Nat, r2 = (sh : Int) := ⟨r2.toNat, by omega⟩
  have ht : t < n := by omega
  walk_at "go"
  refine ⟨by omega, by omega, fun D nD => ?_⟩
  rw [Int.toNat_natCast]
  have Dg : D ≠ g := g2.ne nD
  have nDH : H D = none := b1.free Dg (b2.free Dg nD)
  refine lc_drawR (lo := 0) (n := n) g _ 300 (fun x => -32768 ≤ x ∧ x ≤ 32768) nD g2 (small1000 (by omega)) (fun x => rfl) ?_ ?_
  · intro i H' hi b' g' Qt qt
    walk_at "go"
    refine ⟨g, _, rfl, g', by have : 300 * i ≤ 300 * 4 := Nat.mul_le_mul_left _ (by omega); omega, fun y H3 y1 y2 b3 g3 => ?_⟩
    exact qt y H3 ⟨y1, y2⟩ b3 (g3.mono (by rw [Nat.mul_succ]; omega))
  · intro H3 ys b3 g3 hD hl hy
    walk_at "go"
    refine ⟨D, _, _, t, rfl, rfl, hD, ix_ok (by rw [List.length_map]; omega), ?_⟩
    obtain ⟨H4, e4⟩ : ∃ H4, upd H3 D (.lst ((ys.map V.int).set t (.int 0))) = H4 := ⟨_, rfl⟩
    rw [e4]
    have h4 : H4 D = some (.lst ((ys.set t 0).map V.int)) := by rw [← e4, upd_same, List.map_set]
    have b34 : ∀ c o, c ≠ D → H3 c = some o → H4 c = some o := fun c o n h => by rw [← e4, upd_ne n]; exact h
    have b04 : But g H H4 := fun c o n h => b34 c o (fun z => by rw [z, nDH] at h; cases h) (b3 c o n (b2 c o n (b1 c o n h)))
    have g4 : GenAt H4 g (N + 100 + 100 + 300 * n) := by
      obtain ⟨x, y, z, a, b⟩ := g3
      exact ⟨x, y, z, b34 _ _ Dg.symm a, b⟩
    walk_at "go"
    refine ⟨(show 4 ≤ sizeLine by decide), fun tp ntp => ?_⟩
    obtain ⟨H5, e5, s5, h5⟩ := fresh (.tup [sL, V.int t, .ref D, .int sh]) ntp
    rw [show upd H4 tp (.tup [V.str (Str.ofString "lift"), V.int t, V.ref D, V.int sh]) = H5 from e5]
    refine q _ _ t (ys.set t 0) sh (b04.same s5) ((g4.same s5).mono (by have : 300 * n ≤ 300 * 4 := Nat.mul_le_mul_left _ hn4; omega)) ⟨tp, D, rfl, h5, s5 _ _ h4, nDH, Dg⟩ ⟨ht, by rw [List.length_set, hl], ?_, by omega, ?_⟩ (by omega)
    · rw [List.getD_eq_getElem?_getD, List.getElem?_set, if_pos rfl, if_pos (by omega)]
      rfl
    · intro x hx
      rcases List.mem_or_eq_of_mem_set hx with hx | rfl
      · exact hy x hx
      · decide
/-- what draws let stand: steps whose lists are not the purse -/
theorem AllV.but {N : Addr → Prop} {g : Addr} {H H' : Hp} {vs : List V} {ss : List Step} {n : Nat} (h : AllV (StepV N H) vs ss) (hG : GenAt H g n) (b : But g H H') (f : ∀ l, N l → l ≠ g) : AllV (StepV N H') vs ss :=
  h.imp fun v s => StepV.lk (M := fun b => b = g) (fun c o nc e => b c o nc e) (fun c e => by obtain ⟨x, y, z, a, _⟩ := hG; rw [e]; exact ⟨_, a⟩) (fun l hl e => f l hl e)
theorem steps_but {N : Addr → Prop} {g p : Addr} {H H' : Hp} {ss : List Step} {n : Nat} (h : StepsAt N H p ss) (hG : GenAt H g n) (b : But g H H') (f : ∀ l, N l → l ≠ g) (pg : p ≠ g) : StepsAt N H' p ss := by
  obtain ⟨vs, h1, h2⟩ := h
  exact ⟨vs, b _ _ pg h1, AllV.but h2 hG b f⟩
theorem other_mod {k x n : Nat} (hk : k < n) (hx : x + 1 < n) : (k + 1 + x) % n < n ∧ (k + 1 + x) % n ≠ k := by
  refine ⟨Nat.mod_lt _ (by omega), ?_⟩
  by_cases h : k + 1 + x < n
  · rw [Nat.mod_eq_of_lt h]
    omega
  · rw [Nat.mod_eq_sub_mod (by omega), Nat.mod_eq_of_lt (by omega)]
    omega
def sp_law_steps : Sp := fun vs H Q _ => ∃ (g : Addr) (N n : Nat), vs = [.ref g, .int n, .int 8, .int 15] ∧ GenAt H g N ∧ N ≤ 10 ^ 9 ∧ 1 ≤ n ∧ n ≤ 4 ∧
  ∀ H' p ss, But g H H' → GenAt H' g (N + 100000) → H p = none → p ≠ g → StepsAt (fun l => l ≠ g) H' p ss → (∀ s ∈ ss, s.ok n) → ss.length ≤ 8 → Q (.ref p) H'
theorem G_law_steps (T : Top K mg) : FnOk P w K mg base CX0 4 T.f_law_steps T.fd_law_steps ["_law_purse_here", "_law_broad", "_law_many", "_law_bits"] sp_law_steps := by
  refine T.F_law_steps.ok sc_law_steps (fun vs H Q E h => by obtain ⟨g, N, n, rfl, _⟩ := h; rfl) (fun cdv A outer s H vs Q E hr h => ?_)
  obtain ⟨g, N, n, rfl, hG, hN, hn1, hn4, q⟩ := h
  refine ⟨_, PSs.nox (pss_cons (ps_par (by rfl) sc_law_steps.nd (i := 5) (j := 6) rfl rfl (by decide) rfl rfl (pa_cons (pe_lst pa_nil) (pa_cons (pv 3) pa_nil)) (by rfl))
  (pss_cons (ps_for PassesOwn.never rfl (pi_range1 (by rfl) T.n_range (pa_cons (pe_call (G_law_draw T) (hr.mono (by decide)) (by rfl) T.g_law_draw T.F_law_draw.kp T.b_law_draw .nil pass0 (pa_cons (pv 0) (pa_cons (pe_op op_add (pv 2) pe_int) pa_nil))) pa_nil)) (pg_name (i := 4) sc_law_steps.nd rfl (by first | exact Or.inl rfl | exact Or.inr rfl))
    (pss_cons (ps_par (by rfl) sc_law_steps.nd (i := 7) (j := 8) rfl rfl (by decide) rfl rfl (pa_cons (pe_call (G_law_draw T) (hr.mono (by decide)) (by rfl) T.g_law_draw T.F_law_draw.kp T.b_law_draw .nil pass0 (pa_cons (pv 0) (pa_cons pe_int pa_nil))) (pa_cons (pe_tup (pa_cons pe_str (pa_cons (pe_call (G_law_draw T) (hr.mono (by decide)) (by rfl) T.g_law_draw T.F_law_draw.kp T.b_law_draw .nil pass0 (pa_cons (pv 0) (pa_cons (pv 1) pa_nil))) pa_nil))) pa_nil)) (by rfl))
  (pss_cons (ps_if (PW.pt (pw_and (pt_cmpR op_eq (pv 7) pe_int (nomark _)) (pw_and1 (pt_cmpR op_gt (pv 1) pe_int (nomark _)))))
    (pss_one (ps_set (i := 8) sc_law_steps.nd rfl (by first | exact Or.inl rfl | exact Or.inr rfl) (pe_tup (pa_cons pe_str (pa_cons (pe_ix (k_ixT K rfl) (pv 8) pe_int (fun _ _ => rfl)) (pa_cons (pe_op op_mod (pe_op op_add (pe_op op_add (pe_ix (k_ixT K rfl) (pv 8) pe_int (fun _ _ => rfl)) pe_int) (pe_call (G_law_draw T) (hr.mono (by decide)) (by rfl) T.g_law_draw T.F_law_draw.kp T.b_law_draw .nil pass0 (pa_cons (pv 0) (pa_cons (pe_op op_sub (pv 1) pe_int) pa_nil)))) (pv 1)) pa_nil))))))
    pss_nil)
  (pss_cons (ps_if (pt_cmpR op_gt (pv 7) pe_int (nomark _))
    (pss_cons (ps_set (i := 8) sc_law_steps.nd rfl (by first | exact Or.inl rfl | exact Or.inr rfl) (pe_call (G_law_lift T) (hr.mono (by decide)) (by rfl) T.g_law_lift T.F_law_lift.kp T.b_law_lift .nil pass0 (pa_cons (pv 0) (pa_cons (pv 1) (pa_cons (pe_callB (call_min2 rfl) (by rfl) T.n_min (by decide +kernel) (pa_cons (pv 6) (pa_cons pe_int pa_nil))) pa_nil)))))
  (pss_one (ps_set (i := 6) sc_law_steps.nd rfl (by first | exact Or.inl rfl | exact Or.inr rfl) (pe_op op_sub (pv 6) (pe_ix (k_ixT K rfl) (pv 8) pe_int (fun _ _ => rfl))))))
    pss_nil)
  (pss_one (ps_expr (pe_bm PySem.F.plainAttrs_list PySem.F.slot_list_append PySem.F.type_list_append mt_append (pv 5) (pa_cons (pv 8) pa_nil))))))))
  (pss_one (ps_ret (pv 5))))), ?_⟩
  refine ⟨Nat.zero_le _, fun p np => ?_⟩
  obtain ⟨H1, e1, s1, h1⟩ := fresh (.lst []) np
  rw [e1]
  have pg : p ≠ g := hG.ne np
  walk_at "go"
  refine ⟨g, _, _, rfl, hG.same s1, by omega, by decide, small_2900 (by decide), fun r1 H2 r10 r11 g2 b2 => ?_⟩
  walk_at "go"
  refine ⟨by omega, by omega, ?_⟩
  walk_at "b"
  refine for_range (lo := 0) (n := r1.toNat) (fun i σ H3 => ∃ (v4 v7 v8 : Option V) (left : Nat) (vs : List V) (ss : List Step), σ = [some (.ref g), some (.int n), some (.int 8), some (.int 15), v4, some (.ref p), some (.int left), v7, v8] ∧ But g H H3 ∧ GenAt H3 g (N + 100 + 6000 * i) ∧ H3 p = some (.lst vs) ∧ AllV (StepV (fun l => l ≠ g ∧ l ≠ p) H3) vs ss ∧ ss.length = i ∧ (∀ s ∈ ss, s.ok n) ∧ left ≤ 15)
    ⟨none, none, none, 15, [], [], rfl, (But.of s1).trans b2, g2, b2 _ _ pg h1, trivial, rfl, (fun s h => nomatch h), by decide⟩ ?_ ?_
  · rintro i σ H3 hi ⟨v4, v7, v8, left, vs, ss, rfl, b3, g3, h3, hv, hl, hO, hleft⟩
    have i8 : i < 8 := by omega
    walk_at "go"
    refine ⟨g, _, _, rfl, g3, by omega, by decide, small_2900 (by decide), fun r4 H4 r40 r41 g4 b4 => ?_⟩
    walk_at "go"
    refine ⟨g, _, _, rfl, g4, by omega, by omega, small_2900 (by omega), fun r5 H5 r50 r51 g5 b5 => ?_⟩
    obtain ⟨k, rfl⟩ : ∃ k : Nat, r5 = (k : Int) := ⟨r5.toNat, by omega⟩
    have b35 := b4.trans b5
    walk_at "go"
    refine ⟨(show 2 ≤ sizeLine by decide), fun tp ntp => ?_⟩
    obtain ⟨H6, e6, s6, h6⟩ := fresh (.tup [sT, V.int k]) ntp
    rw [show upd H5 tp (.tup [V.str (Str.ofString "turn"), V.int k]) = H6 from e6]
    have hv6 : ∀ {H7 : Hp}, But g H3 H7 → AllV (StepV (fun l => l ≠ g ∧ l ≠ p) H7) vs ss := fun b => AllV.but hv g3 b fun l z => z.1
    have app1 : ∀ {H7 : Hp}, But g H3 H7 → H7 p = some (.lst vs) := fun b => b _ _ pg h3
    have app2 : ∀ {H7 : Hp} {v : V} {s : Step}, But g H3 H7 → GenAt H7 g (N + 100 + 6000 * (i + 1)) → StepV (fun l => l ≠ g ∧ l ≠ p) H7 v s → s.ok n →
        But g H (upd H7 p (.lst (vs ++ [v]))) ∧ GenAt (upd H7 p (.lst (vs ++ [v]))) g (N + 100 + 6000 * (i + 1)) ∧ upd H7 p (.lst (vs ++ [v])) p = some (.lst (vs ++ [v])) ∧ AllV (StepV (fun l => l ≠ g ∧ l ≠ p) (upd H7 p (.lst (vs ++ [v])))) (vs ++ [v]) (ss ++ [s]) ∧ (ss ++ [s]).length = i + 1 ∧ (∀ s' ∈ ss ++ [s], s'.ok n) := fun {H7 v s} b g7 hvs ho => by
      have k : ∀ c o, ¬ c = p → H7 c = some o → upd H7 p (.lst (vs ++ [v])) c = some o := fun c o nc h => by rw [upd_ne nc]; exact h
      have ka : ∀ c, c = p → ∃ xs, H7 c = some (.lst xs) := fun c e => ⟨vs, by rw [e]; exact app1 b⟩
      refine ⟨fun c o nc h => k c o (fun z => by rw [z, np] at h; cases h) (b c o nc (b3 c o nc h)), ?_, upd_same, ?_, by rw [List.length_append, hl]; rfl, ?_⟩
      · obtain ⟨x, y, z, a, e⟩ := g7
        exact ⟨x, y, z, k _ _ pg.symm a, e⟩
      · exact ((hv6 b).imp fun v s h => StepV.lk (M := fun c => c = p) k ka (fun l z => z.2) h).app ⟨StepV.lk (M := fun c => c = p) k ka (fun l z => z.2) hvs, trivial⟩
      · intro s' hs'
        rcases List.mem_append.mp hs' with h | h
        · exact hO s' h
        · rw [List.mem_singleton.mp h]
          exact ho
    have b36 := b35.same s6
    have g6 := g5.same s6
    have hT6 : SqT K H6 tp [sT, .int k] := .inl (.inl h6)
    by_cases w1 : r4 = 1
    · subst w1
      walk_at "go"
      by_cases n1 : 1 < n
      · walk_at "go"
        refine ⟨tp, _, _, _, rfl, rfl, hT6, rfl, ?_⟩
        walk_at "go"
        refine ⟨tp, _, _, _, rfl, rfl, hT6, rfl, ?_⟩
        walk_at "go"
        refine ⟨g, _, _, rfl, g6, by omega, by omega, small_2900 (by omega), fun r7 H7 r70 r71 g7 b7 => ?_⟩
        obtain ⟨x, rfl⟩ : ∃ x : Nat, r7 = (x : Int) := ⟨r7.toNat, by omega⟩
        walk_at "go"
        refine ⟨by omega, ?_⟩
        walk_at "go"
        have hk : k < n := by omega
        have hx : x + 1 < n := by omega
        obtain ⟨k2, hk2, hk3⟩ : ∃ k2 : Nat, ((k : Int) + 1 + (x : Int)) % (n : Int) = (k2 : Int) ∧ k2 < n ∧ k2 ≠ k := ⟨(k + 1 + x) % n, by rw [Int.natCast_emod, Int.natCast_add, Int.natCast_add]; rfl, other_mod hk hx⟩
        walk_at "go"
        refine ⟨(show 3 ≤ sizeLine by decide), fun tq ntq => ?_⟩
        obtain ⟨H8, e8, s8, h8⟩ := fresh (.tup [sS, V.int k, V.int k2]) ntq
        rw [show upd H7 tq (.tup [V.str (Str.ofString "swap"), V.int k, V.int (((k : Int) + 1 + (x : Int)) % (n : Int))]) = H8 from by rw [hk2]; exact e8]
        have b38 := (b36.trans b7).same s8
        walk_at "go"
        refine ⟨.inl ⟨rfl, _, .inl (.inl (app1 b38))⟩, ?_⟩
        walk_at "go"
        refine ⟨p, _, _, rfl, rfl, app1 b38, by rw [hv.len]; exact small1000 (by omega), ?_⟩
        obtain ⟨c1, c2, c3, c4, c5, c6⟩ := app2 b38 ((g7.same s8).mono (by omega)) (show StepV _ H8 (.ref tq) (.swap k k2) from ⟨tq, rfl, h8⟩) ⟨hk, hk3.1, fun e => hk3.2 e.symm⟩
        exact ⟨_, _, _, _, _, _, rfl, c1, c2, c3, c4, c5, c6, hleft⟩
      · walk_at "go"
        refine ⟨.inl ⟨rfl, _, .inl (.inl (app1 b36))⟩, ?_⟩
        walk_at "go"
        refine ⟨p, _, _, rfl, rfl, app1 b36, by rw [hv.len]; exact small1000 (by omega), ?_⟩
        obtain ⟨c1, c2, c3, c4, c5, c6⟩ := app2 b36 (g6.mono (by omega)) (show StepV _ H6 (.ref tp) (.turn k) from ⟨tp, rfl, h6⟩) (show k < n by omega)
        exact ⟨_, _, _, _, _, _, rfl, c1, c2, c3, c4, c5, c6, hleft⟩
    · by_cases w2 : 1 < r4
      · walk_at "go"
        refine ⟨g, _, n, min left 3, ?_, g6, by omega, hn1, hn4, by omega, fun H7 v t ws sh b7 g7 hv7 ho7 hs7 => ?_⟩
        · have : (if (3 : Int) < (left : Int) then (3 : Int) else (left : Int)) = ((min left 3 : Nat) : Int) := by split <;> omega
          rw [this]
          rfl
        obtain ⟨tq, D, rfl, h7, hD, nD, Dg⟩ := hv7
        walk_at "go"
        refine ⟨tq, _, _, _, rfl, rfl, .inl (.inl h7), rfl, ?_⟩
        walk_at "go"
        have b37 := b36.trans b7
        obtain ⟨left2, hleft2⟩ : ∃ x : Nat, (left : Int) - (sh : Int) = (x : Int) := ⟨((left : Int) - (sh : Int)).toNat, by omega⟩
        rw [show (fun (i j : Int) => V.int (i - j)) (left : Int) (sh : Int) = V.int (left2 : Int) from congrArg V.int hleft2]
        refine ⟨.inl ⟨rfl, _, .inl (.inl (app1 b37))⟩, ?_⟩
        walk_at "go"
        refine ⟨p, _, _, rfl, rfl, app1 b37, by rw [hv.len]; exact small1000 (by omega), ?_⟩
        obtain ⟨c1, c2, c3, c4, c5, c6⟩ := app2 b37 (g7.mono (by omega)) (show StepV _ H7 (.ref tq) (.lift t ws sh) from ⟨tq, D, rfl, h7, hD, Dg, fun z => by rw [z, app1 b36] at nD; cases nD⟩) ho7
        exact ⟨_, _, _, _, _, _, rfl, c1, c2, c3, c4, c5, c6, by omega⟩
      · walk_at "go"
        refine ⟨.inl ⟨rfl, _, .inl (.inl (app1 b36))⟩, ?_⟩
        walk_at "go"
        refine ⟨p, _, _, rfl, rfl, app1 b36, by rw [hv.len]; exact small1000 (by omega), ?_⟩
        obtain ⟨c1, c2, c3, c4, c5, c6⟩ := app2 b36 (g6.mono (by omega)) (show StepV _ H6 (.ref tp) (.turn k) from ⟨tp, rfl, h6⟩) (show k < n by omega)
        exact ⟨_, _, _, _, _, _, rfl, c1, c2, c3, c4, c5, c6, hleft⟩
  · rintro σ H3 ⟨v4, v7, v8, left, vs, ss, rfl, b3, g3, h3, hv, hl, hO, hleft⟩
    walk_at "go"
    have h8 : r1.toNat ≤ 8 := by omega
    exact q _ p ss b3 (g3.mono (by have : 6000 * r1.toNat ≤ 6000 * 8 := Nat.mul_le_mul_left _ h8; omega)) np pg ⟨vs, h3, hv.imp fun v s h => h.mono fun l z => z.1⟩ hO (by omega)
end
end My

namespace My
open PySem PySem.Spec PyProof.Rows L2 Pre
local macro_rules | `(tactic| walk_at "go") => `(tactic| repeat (first | (with_reducible first | refine iteT ?_ | refine iteF ?_ | refine iteNtt ?_ | refine iteNff ?_ | refine iteET (by omega) ?_ | refine iteEF (by omega) ?_ | refine iteENT (by omega) ?_ | refine iteENF (by omega) ?_ | refine iteDT (by omega) ?_ | refine iteDF (by omega) ?_ | refine iteNT (by omega) ?_ | refine iteNF (by omega) ?_) | refine ⟨_, rfl, ?_⟩ | refine ⟨_, _, rfl, rfl, ?_⟩ | refine ⟨_, _, rfl, ?_⟩ | refine ⟨rfl, ?_⟩ | refine .inl ⟨_, rfl, ?_⟩ | refine .inr ⟨_, rfl, ?_⟩))
local macro_rules | `(tactic| walk_at "b") => `(tactic| try dsimp (config := { proj := false, iota := false, eta := false, zeta := false }) only)
section
variable {P : Program} {w : World} {K : PySem.W.Frag} {mg : Str → Option Value} {base : Heap}
def sp_law_copied (K : PySem.W.Frag) : Sp := fun vs H Q _ => ∃ (N : Addr → Prop) (p : Addr) (ss : List Step), vs = [.ref p] ∧ StepsAt N H p ss ∧ ss.length ≤ 100 ∧ ∀ H' p', Same H H' → H p' = none → StepsAt (Fl H H') H' p' ss → Q (.ref p') H'
theorem G_law_copied (T : Top K mg) : FnOk P w K mg base CX0 1 T.f_law_copied T.fd_law_copied ["_law_steps_here"] (sp_law_copied K) := by
  refine T.F_law_copied.ok sc_law_copied (fun vs H Q E h => by obtain ⟨N, p, ss, rfl, _⟩ := h; rfl) (fun cdv A outer s H vs Q E hr h => ?_)
  obtain ⟨N, p, ss, rfl, hS, hl, q⟩ := h
  refine ⟨_, PSs.nox (pss_one (ps_ret (pe_lc (own := [("_law_step", 1)]) (g := gName 1) (tt := tYes) (by rfl) sc_law_copied.nd (k_piL K rfl (pv 0)) (blkOk_by (own := [("_law_step", 1)]) (N := N_law_copied) (sc := defScope s_law_copied) (by decide +kernel)) (fun _ _ _ _ _ => (pg_name (i := 1) sc_law_copied.nd rfl (by first | exact Or.inl rfl | exact Or.inr rfl))) (fun _ _ _ _ _ => pts_nil) (fun _ _ _ _ _ => (pe_ifExp (pt_cmpR op_eq (pe_ix (k_ixT K rfl) (pv 1) pe_int (fun _ _ => rfl)) pe_str (nomark _)) (pe_tup (pa_cons (pe_ix (k_ixT K rfl) (pv 1) pe_int (fun _ _ => rfl)) (pa_cons (pe_ix (k_ixT K rfl) (pv 1) pe_int (fun _ _ => rfl)) (pa_cons (pe_callTy (k_listOf K rfl) (by rfl) T.n_list (by decide +kernel) (pa_cons (pe_ix (k_ixT K rfl) (pv 1) pe_int (fun _ _ => rfl)) pa_nil)) (pa_cons (pe_ix (k_ixT K rfl) (pv 1) pe_int (fun _ _ => rfl)) pa_nil))))) (pv 1)))))), ?_⟩
  obtain ⟨us, hp, hv⟩ := hS
  have hvl := hv.len
  refine ⟨_, rfl, p, rfl, ⟨_, .inl (.inl hp)⟩, fun D nD => ?_⟩
  refine lc_stp (K := K) (xs := us) (ss := ss) (fun H1 => StepV (fun l => l ≠ D ∧ H l = none) H1) step_off nD (.inl (.inl hp)) hvl (small1000 (by omega)) (fun x => rfl) ?_ ?_
  · intro i y s H' hy hs s' ⟨zs, hD⟩ Qt qt
    obtain ⟨s2, hs2, hys⟩ := hv.get hy
    rw [hs] at hs2
    cases hs2
    have nDH : ∀ {l : Addr}, H' l = none → l ≠ D ∧ H l = none := fun n => ⟨fun z => (by rw [z, hD] at n; cases n), s'.free n⟩
    walk_at "go"
    cases s with
    | turn i =>
      obtain ⟨t, rfl, ht⟩ := hys
      have hT : SqT K H' t [sT, .int i] := .inl (.inl (s' _ _ ht))
      refine ⟨t, _, _, _, rfl, rfl, hT, rfl, rfl, _, rfl, iteDF (by decide) ?_⟩
      exact ⟨_, rfl, qt _ _ (Same.refl _) ⟨t, rfl, s' _ _ ht⟩⟩
    | swap i j =>
      obtain ⟨t, rfl, ht⟩ := hys
      have hT : SqT K H' t [sS, .int i, .int j] := .inl (.inl (s' _ _ ht))
      refine ⟨t, _, _, _, rfl, rfl, hT, rfl, rfl, _, rfl, iteDF (by decide) ?_⟩
      exact ⟨_, rfl, qt _ _ (Same.refl _) ⟨t, rfl, s' _ _ ht⟩⟩
    | lift b ws sh =>
      obtain ⟨t, l, rfl, ht, hl, _⟩ := hys
      have hT : SqT K H' t [sL, .int b, .ref l, .int sh] := .inl (.inl (s' _ _ ht))
      refine ⟨t, _, _, _, rfl, rfl, hT, rfl, rfl, _, rfl, iteDT rfl ?_⟩
      refine ⟨_, rfl, t, _, _, _, rfl, rfl, hT, rfl, ?_⟩
      refine ⟨_, rfl, t, _, _, _, rfl, rfl, hT, rfl, ?_⟩
      refine ⟨_, rfl, t, _, _, _, rfl, rfl, hT, rfl, ?_⟩
      refine ⟨l, _, rfl, .inl (.inl (.inl (s' _ _ hl))), fun p np => ?_⟩
      obtain ⟨H1, e1, s1, h1⟩ := fresh (.lst (ws.map V.int)) np
      rw [e1]
      refine ⟨_, rfl, t, _, _, _, rfl, rfl, Same.tup s1 hT, rfl, (show 4 ≤ sizeLine by decide), fun p2 np2 => ?_⟩
      obtain ⟨H2, e2, s2, h2⟩ := fresh (.tup [sL, V.int b, .ref p, .int sh]) np2
      rw [e2]
      exact qt _ _ (s1.trans s2) ⟨p2, p, rfl, h2, s2 _ _ h1, nDH np⟩
  intro H3 ys s3 hD hys
  refine q _ D s3 nD ⟨ys, hD, hys.imp fun v s h => ?_⟩
  cases s with
  | turn i => exact h
  | swap i j => exact h
  | lift b ws sh =>
    obtain ⟨t, l, e, h1, h2, h3⟩ := h
    exact ⟨t, l, e, h1, h2, h3.2, _, h2⟩
def sp_law_spoil : Sp := fun vs H Q _ => ∃ (M : Addr → Prop) (p : Addr) (ss : List Step) (n : Nat), vs = [.ref p] ∧ StepsAt M H p ss ∧ M p ∧ (∀ b, M b → ∃ xs, H b = some (.lst xs)) ∧ (∀ s ∈ ss, s.ok n) ∧ n ≤ 4 ∧ ss.length ≤ 100 ∧ ∀ H', Lk M H H' → Q .non H'
theorem G_law_spoil (T : Top K mg) : FnOk P w K mg base CX0 1 T.f_law_spoil T.fd_law_spoil ["_law_steps_here"] sp_law_spoil := by
  refine T.F_law_spoil.ok sc_law_spoil (fun vs H Q E h => by obtain ⟨M, p, ss, n, rfl, _⟩ := h; rfl) (fun cdv A outer s H vs Q E hr h => ?_)
  obtain ⟨M, p, ss, n, rfl, hS, hMp, hM, hO, hn, hl, q⟩ := h
  refine ⟨_, PSs.nox (pss_cons (ps_for PassesOwn.never rfl (k_piL K rfl (pv 0)) (pg_name (i := 1) sc_law_spoil.nd rfl (by first | exact Or.inl rfl | exact Or.inr rfl))
    (pss_one (ps_if (pt_cmpR op_eq (pe_ix (k_ixT K rfl) (pv 1) pe_int (fun _ _ => rfl)) pe_str (nomark _))
    (pss_one (ps_expr (pe_bm PySem.F.plainAttrs_list PySem.F.slot_list_append PySem.F.type_list_append mt_append (pe_ix (k_ixT K rfl) (pv 1) pe_int (fun _ _ => rfl)) (pa_cons pe_int pa_nil))))
    pss_nil)))
  (pss_one (ps_expr (pe_bm PySem.F.plainAttrs_list PySem.F.slot_list_append PySem.F.type_list_append mt_append (pv 0) (pa_cons pe_non pa_nil))))), ?_⟩
  obtain ⟨us, hp, hv⟩ := hS
  have hvl := hv.len
  walk_at "go"
  refine ⟨⟨_, .inl (.inl hp)⟩, for_list (K := K) (a := p) (xs := us) (fun i σ H1 => ∃ v1 : Option V, σ = [some (.ref p), v1] ∧ Lk M H H1 ∧ H1 p = some (.lst us) ∧ ∀ b, M b → ∀ ys, H b = some (.lst ys) → b ≠ p → ∃ zs, zs.length ≤ i ∧ H1 b = some (.lst (ys ++ zs))) ⟨none, rfl, .refl, hp, fun b _ ys h _ => ⟨[], Nat.le_refl _, by rw [List.append_nil]; exact h⟩⟩ (fun i σ H1 _ ⟨_, _, _, h, _⟩ => .inl (.inl h)) ?_ ?_⟩
  · rintro i v σ H1 hi ⟨v1, rfl, k1, hp1, ha⟩
    obtain ⟨s, hs, hvs⟩ := hv.get hi
    have hi' := (List.getElem?_eq_some_iff.mp hi).1
    have ho := hO s (List.mem_of_getElem? hs)
    have more : ∀ b, M b → ∀ ys, H b = some (.lst ys) → b ≠ p → ∃ zs, zs.length ≤ i + 1 ∧ H1 b = some (.lst (ys ++ zs)) := fun b m ys h n => by
      obtain ⟨zs, l, e⟩ := ha b m ys h n
      exact ⟨zs, by omega, e⟩
    walk_at "go"
    cases s with
    | turn i =>
      obtain ⟨t, rfl, ht⟩ := hvs
      have hT : SqT K H1 t [sT, .int i] := .inl (.inl (Lk.tup (H0 := H) k1 hM ht))
      refine ⟨t, _, _, _, rfl, rfl, hT, rfl, rfl, _, rfl, iteDF (by decide) ?_⟩
      exact ⟨_, rfl, k1, hp1, more⟩
    | swap i j =>
      obtain ⟨t, rfl, ht⟩ := hvs
      have hT : SqT K H1 t [sS, .int i, .int j] := .inl (.inl (Lk.tup (H0 := H) k1 hM ht))
      refine ⟨t, _, _, _, rfl, rfl, hT, rfl, rfl, _, rfl, iteDF (by decide) ?_⟩
      exact ⟨_, rfl, k1, hp1, more⟩
    | lift b ws sh =>
      obtain ⟨t, l, rfl, ht, hlw, mN⟩ := hvs
      have hT : SqT K H1 t [sL, .int b, .ref l, .int sh] := .inl (.inl (Lk.tup (H0 := H) k1 hM ht))
      have lp : l ≠ p := fun z => by
        rw [z, hp] at hlw
        rw [HO.lst.inj (Option.some.inj hlw), List.getElem?_map] at hi
        cases e : ws[i]? with
        | none => rw [e] at hi; cases hi
        | some x => rw [e] at hi; cases hi
      obtain ⟨zs, hz, h1⟩ := ha l mN _ hlw lp
      have hwl := ho.2.1
      refine ⟨t, _, _, _, rfl, rfl, hT, rfl, rfl, _, rfl, iteDT rfl ?_⟩
      walk_at "go"
      refine ⟨t, _, _, _, rfl, rfl, hT, rfl, ?_⟩
      refine ⟨.inl ⟨rfl, _, .inl (.inl h1)⟩, ?_⟩
      walk_at "go"
      refine ⟨l, _, _, rfl, rfl, h1, small1000 (by rw [List.length_append, List.length_map]; omega), ?_⟩
      refine ⟨_, rfl, k1.trans (Lk.at_ mN), by rw [upd_ne lp.symm]; exact hp1, fun c m ys h n => ?_⟩
      by_cases z : c = l
      · subst z
        rw [hlw] at h
        cases h
        exact ⟨zs ++ [V.int 1], by rw [List.length_append, List.length_singleton]; omega, by rw [upd_same, List.append_assoc]⟩
      · rw [upd_ne z]
        exact more c m ys h n
  · rintro σ H1 ⟨v1, rfl, k1, hp1, ha⟩
    walk_at "go"
    refine ⟨.inl ⟨rfl, _, .inl (.inl hp1)⟩, ?_⟩
    walk_at "go"
    refine ⟨p, _, _, rfl, rfl, hp1, small1000 (by omega), ?_⟩
    exact q _ (k1.trans (Lk.at_ hMp))
def sp_law_kept (C : Addr) (K : PySem.W.Frag) : Sp := fun vs H Q _ => ∃ (N : Addr → Prop) (a r p : Addr) (n : Nat) (ss : List Step), vs = [.ref a, .int n, .ref p] ∧ MixAt C H a r n ss ∧ StepsAt N H p ss ∧ (∀ s ∈ ss, s.ok n) ∧ n ≤ 4 ∧ ss.length ≤ 100 ∧ ∀ H', Same H H' → Q (.bl true) H'
theorem G_law_kept (T : Top K mg) : FnOk P w K mg base CX0 3 T.f_law_kept T.fd_law_kept ["_law_mixer", "_law_wide", "_law_steps_here"] (sp_law_kept T.C_Mixer K) := by
  refine T.F_law_kept.ok sc_law_kept (fun vs H Q E h => by obtain ⟨N, a, r, p, n, ss, rfl, _⟩ := h; rfl) (fun cdv A outer s H vs Q E hr h => ?_)
  obtain ⟨N, a, r, p, n, ss, rfl, hM, hS, hO, hn, hl, q⟩ := h
  refine ⟨_, PSs.nox (pss_cons (ps_set (i := 3) sc_law_kept.nd rfl (by first | exact Or.inl rfl | exact Or.inr rfl) (pe_meth0 (pv 0) T.cl_Mixer T.me_Mixer_steps (G_Mixer_steps T) (hr.mono (by decide)) T.b_Mixer_steps .nil pass0))
  (pss_cons (ps_if (PW.pt (pw_or (pt_cmpR op_ne (pe_meth0 (pv 0) T.cl_Mixer T.me_Mixer_wide (G_Mixer_wide T) (hr.mono (by decide)) T.b_Mixer_wide .nil pass0) (pv 1) (nomark _)) (pw_or (pt_cmpR (k_neD K rfl hr.units) (pv 3) (pv 2) (nomark _)) (pw_or1 (pt_not (pt_val (pe_callB (k_isi K rfl) (by rfl) T.n_isinstance (by decide +kernel) (pa_cons (pv 3) (pa_cons (pe_bltn (v := .ty "list") (by rfl) T.n_list (by decide +kernel) rfl) pa_nil)))))))))
    (pss_one (ps_ret pe_bl))
    pss_nil)
  (pss_cons (ps_expr (pe_call (G_law_spoil T) (hr.mono (by decide)) (by rfl) T.g_law_spoil T.F_law_spoil.kp T.b_law_spoil .nil pass0 (pa_cons (pv 3) pa_nil)))
  (pss_one (ps_ret (pe_and (pe_cmpR (k_eqD K rfl hr.units) (pe_meth0 (pv 0) T.cl_Mixer T.me_Mixer_steps (G_Mixer_steps T) (hr.mono (by decide)) T.b_Mixer_steps .nil pass0) (pv 2) (nomark _)) (pe_one (pe_cmpR op_eq (pe_meth0 (pv 0) T.cl_Mixer T.me_Mixer_wide (G_Mixer_wide T) (hr.mono (by decide)) T.b_Mixer_wide .nil pass0) (pv 1) (nomark _))))))))), ?_⟩
  obtain ⟨dx, us, ha, hr0, hv⟩ := id hM
  walk_at "go"
  refine ⟨a, dx, _, rfl, ha, rfl, a, r, n, ss, rfl, hM, hl, fun H1 t s1 nt hT1 => ?_⟩
  obtain ⟨ts, ht1, hv1⟩ := id hT1
  walk_at "go"
  refine ⟨a, dx, _, rfl, s1 _ _ ha, rfl, a, r, n, ss, rfl, hM.same s1, ?_⟩
  walk_at "go"
  have eT : ∀ {H2 : Hp}, Same H1 H2 → Dt H2 (.ref t) (.list (ss.map stepD)) := fun s2 => .lst (s2 _ _ ht1) (AllV.dts (hv1.imp fun v s => StepV.same s2))
  have pT : ∀ {H2 : Hp}, Same H H2 → Dt H2 (.ref p) (.list (ss.map stepD)) := fun s2 => by
    obtain ⟨ps, hp1, hv2⟩ := hS.same s2
    exact .lst hp1 (AllV.dts hv2)
  have er := SeqAt.eqv_refl _ (Bool.and_eq_true_iff.mp (steps_shaped ss)).1
  refine d_ne (eT (.refl _)) (pT s1) (steps_shaped ss) (steps_shaped ss) ?_
  rw [er]
  refine ⟨false, rfl, iteF ?_⟩
  walk_at "go"
  refine ⟨_, _, _, _, true, rfl, .ty _, ty_list ht1, kit_ty (by decide +kernel), true, rfl, ?_⟩
  walk_at "go"
  refine ⟨Fl H H1, t, ss, n, rfl, hT1, ⟨nt, _, ht1⟩, fun b h => h.2, hO, hn, hl, fun H2 k2 => ?_⟩
  have s02 : Same H H2 := Lk.same k2 s1 fun b h => h.1
  walk_at "go"
  refine ⟨a, dx, _, rfl, s02 _ _ ha, rfl, a, r, n, ss, rfl, hM.same s02, hl, fun H3 t3 s3 nt3 hT3 => ?_⟩
  obtain ⟨ts3, ht3, hv3⟩ := hT3
  have s03 := s02.trans s3
  walk_at "go"
  refine d_eq (.lst ht3 (AllV.dts hv3)) (pT s03) (steps_shaped ss) (steps_shaped ss) ?_
  rw [er]
  refine ⟨true, rfl, iteT ?_⟩
  walk_at "go"
  refine ⟨a, dx, _, rfl, s03 _ _ ha, rfl, a, r, n, ss, rfl, hM.same s03, ?_⟩
  walk_at "go"
  rw [decide_eq_true (rfl : V.int (n : Int) = V.int (n : Int))]
  exact q _ s03
end
end My

namespace My
open PySem PySem.Spec PyProof.Rows L2 Pre
theorem restate {R : L2.St → Hp → Prop} {σ : L2.St} {H : Hp} (σ' : L2.St) (e : σ = σ') (h : R σ' H) : R σ H := by rw [e]; exact h
theorem mk_same {H : Hp} {x dx C : Addr} (nx : H x = none) (ndx : H dx = none) : Same H (upd (upd H dx (.own x)) x (.ins C dx [])) := fun b o e => by
  rw [upd_ne (ne_of_none e nx), upd_ne (ne_of_none e ndx)]
  exact e
theorem mk_kept {H H' : Hp} {x dx C : Addr} (nx : H x = none) (ndx : H dx = none) (kp : ∀ b o, b ≠ x → (upd (upd H dx (.own x)) x (.ins C dx [])) b = some o → H' b = some o) : Same H H' := fun b o e => kp b o (ne_of_none e nx) (mk_same nx ndx b o e)
theorem GenAt.keep {H H' : Hp} {g : Addr} {n : Nat} (h : GenAt H g n) (k : ∀ o, H g = some o → H' g = some o) : GenAt H' g n := by
  obtain ⟨x, y, z, a, b⟩ := h
  exact ⟨x, y, z, k _ a, b⟩
theorem But.all {g : Addr} {H0 H H' : Hp} (b : But g H H') (s : Same H0 H) (n : H0 g = none) : Same H0 H' := fun c o e => b c o (ne_of_none e n) (s c o e)
/-- rows that stand at the ends of vs, none of them one of S -/
def RowsOk (n : Nat) (S : List Addr) (H : Hp) (vs : List V) : Prop := ∀ v ∈ vs, ∃ (b : Addr) (xs : List Int), v = .ref b ∧ H b = some (.lst (xs.map V.int)) ∧ xs.length = n ∧ b ∉ S
theorem RowsOk.keep {n : Nat} {S : List Addr} {H H' : Hp} {vs : List V} (h : RowsOk n S H vs) (k : ∀ b o, b ∉ S → H b = some o → H' b = some o) : RowsOk n S H' vs := fun v m => by
  obtain ⟨b, xs, e, h1, h2, h3⟩ := h v m
  exact ⟨b, xs, e, k _ _ h3 h1, h2, h3⟩
theorem cut_but (xs : List V) (x : V) : cutV (xs ++ [x]) none (some (-1)) = xs := by
  unfold cutV
  unfold HT.sIx
  dsimp only
  rw [if_pos (show (-1 : Int) < 0 by decide), List.length_append, List.length_singleton]
  have e : (-1 + ((xs.length + 1 : Nat) : Int)) = (xs.length : Int) := by omega
  rw [e]
  simp
theorem StepsAt.off {N : Addr → Prop} {H : Hp} {p R : Addr} {ss : List Step} (h : StepsAt N H p ss) (n : H R = none) : StepsAt (fun l => N l ∧ l ≠ R) H p ss := by
  obtain ⟨vs, h1, h2⟩ := h
  refine ⟨vs, h1, h2.imp fun v s k => ?_⟩
  cases s with
  | turn i => exact k
  | swap i j => exact k
  | lift a ws sh =>
    obtain ⟨t, l, e, h1, h2, h3⟩ := k
    exact ⟨t, l, e, h1, h2, h3, fun z => by rw [z, n] at h2; cases h2⟩
theorem okA : ∀ s ∈ [Step.lift 1 [-1, 0] 0, Step.lift 0 [0, 1] 1], s.ok 2 := fun s hs => by
  rcases List.mem_cons.mp hs with rfl | hs
  · exact ⟨by decide, rfl, rfl, by decide, by decide⟩
  · rw [List.mem_singleton.mp hs]
    exact ⟨by decide, rfl, rfl, by decide, by decide⟩
theorem okB : ∀ s ∈ [Step.swap 0 1, Step.turn 0], s.ok 2 := fun s hs => by
  rcases List.mem_cons.mp hs with rfl | hs
  · exact ⟨by decide, by decide, by decide⟩
  · rw [List.mem_singleton.mp hs]
    exact (show 0 < 2 by decide)
local macro_rules | `(tactic| walk_at "go") => `(tactic| repeat (first | (with_reducible first | refine iteT ?_ | refine iteF ?_ | refine iteNtt ?_ | refine iteNff ?_ | refine iteET (by omega) ?_ | refine iteEF (by omega) ?_ | refine iteENT (by omega) ?_ | refine iteENF (by omega) ?_ | refine iteDT (by omega) ?_ | refine iteDF (by omega) ?_ | refine iteNT (by omega) ?_ | refine iteNF (by omega) ?_) | refine ⟨_, rfl, ?_⟩ | refine ⟨_, _, rfl, rfl, ?_⟩ | refine ⟨_, _, rfl, ?_⟩ | refine ⟨rfl, ?_⟩ | refine .inl ⟨_, rfl, ?_⟩ | refine .inr ⟨_, rfl, ?_⟩))
local macro_rules | `(tactic| walk_at "b") => `(tactic| try dsimp (config := { proj := false, iota := false, eta := false, zeta := false }) only)
section
variable {P : Program} {w : World} {K : PySem.W.Frag} {mg : Str → Option Value} {base : Heap}
def sp_law (K : PySem.W.Frag) : Sp := fun vs H Q _ => ∃ (a : Addr) (ns : List Int), vs = [.ref a] ∧ SqL K H a (ns.map V.int) ∧ ns.length ≤ 63 ∧ ∀ H', Q (.bl true) H'
theorem G_law (T : Top K mg) : FnOk P w K mg base CX0 7 T.f_law T.fd_law ["_law_script"] (sp_law K) := by
  refine T.F_law.ok sc_law (fun vs H Q E h => by obtain ⟨a, ns, rfl, _⟩ := h; rfl) (fun cdv A outer s H vs Q E hr h => ?_)
  obtain ⟨a, ns, rfl, hA, _, q⟩ := h
  refine ⟨_, PSs.nox (pss_cons (ps_for PassesOwn.never rfl (pi_range1 (by rfl) T.n_range (pa_cons pe_int pa_nil)) (pg_name (i := 1) sc_law.nd rfl (by first | exact Or.inl rfl | exact Or.inr rfl))
    (pss_cons (ps_set (i := 3) sc_law.nd rfl (by first | exact Or.inl rfl | exact Or.inr rfl) (pe_call (G_law_purse T) (hr.mono (by decide)) (by rfl) T.g_law_purse T.F_law_purse.kp T.b_law_purse .nil pass0 (pa_cons (pv 0) (pa_cons (pv 1) pa_nil))))
  (pss_cons (ps_set (i := 4) sc_law.nd rfl (by first | exact Or.inl rfl | exact Or.inr rfl) (pe_op op_add pe_int (pe_call (G_law_draw T) (hr.mono (by decide)) (by rfl) T.g_law_draw T.F_law_draw.kp T.b_law_draw .nil pass0 (pa_cons (pv 3) (pa_cons pe_int pa_nil)))))
  (pss_cons (ps_set (i := 5) sc_law.nd rfl (by first | exact Or.inl rfl | exact Or.inr rfl) (pe_call (G_law_steps T) (hr.mono (by decide)) (by rfl) T.g_law_steps T.F_law_steps.kp T.b_law_steps .nil pass0 (pa_cons (pv 3) (pa_cons (pv 4) (pa_cons pe_int (pa_cons pe_int pa_nil))))))
  (pss_cons (ps_set (i := 6) sc_law.nd rfl (by first | exact Or.inl rfl | exact Or.inr rfl) (pe_call (G_law_copied T) (hr.mono (by decide)) (by rfl) T.g_law_copied T.F_law_copied.kp T.b_law_copied .nil pass0 (pa_cons (pv 5) pa_nil)))
  (pss_cons (ps_par (by rfl) sc_law.nd (i := 9) (j := 10) rfl rfl (by decide) rfl rfl (pa_cons (pe_make T.mk_Mixer (G_Mixer___init__ T) (hr.mono (by decide)) (by rfl) T.gc_Mixer T.b_Mixer___init__ .nil pass0 (pa_cons (pv 4) (pa_cons (pv 6) pa_nil))) (pa_cons (pe_lst pa_nil) pa_nil)) (by rfl))
  (pss_cons (ps_expr (pe_call (G_law_spoil T) (hr.mono (by decide)) (by rfl) T.g_law_spoil T.F_law_spoil.kp T.b_law_spoil .nil pass0 (pa_cons (pv 6) pa_nil)))
  (pss_cons (ps_if (pt_not (pt_val (pe_call (G_law_kept T) (hr.mono (by decide)) (by rfl) T.g_law_kept T.F_law_kept.kp T.b_law_kept .nil pass0 (pa_cons (pv 9) (pa_cons (pv 4) (pa_cons (pv 5) pa_nil))))))
    (pss_one (ps_ret pe_bl))
    pss_nil)
  (pss_cons (ps_for PassesOwn.never rfl (pi_range1 (by rfl) T.n_range (pa_cons pe_int pa_nil)) (pg_name (i := 7) sc_law.nd rfl (by first | exact Or.inl rfl | exact Or.inr rfl))
    (pss_one (ps_expr (pe_bm PySem.F.plainAttrs_list PySem.F.slot_list_append PySem.F.type_list_append mt_append (pv 10) (pa_cons (pe_lc (own := [("_law_way", 14)]) (g := gName 14) (tt := tYes) (by rfl) sc_law.nd (pi_range1 (by rfl) T.n_range (pa_cons (pv 4) pa_nil)) (blkOk_by (own := [("_law_way", 14)]) (N := N_law) (sc := defScope s_law) (by decide +kernel)) (fun _ _ _ _ _ => (pg_name (i := 14) sc_law.nd rfl (by first | exact Or.inl rfl | exact Or.inr rfl))) (fun _ _ _ _ _ => pts_nil) (fun _ _ _ _ _ => (pe_call (G_law_number T) (hr.mono (by decide)) (by rfl) T.g_law_number T.F_law_number.kp T.b_law_number .nil pass0 (pa_cons (pv 3) pa_nil)))) pa_nil)))))
  (pss_cons (ps_for PassesOwn.never rfl (k_piL K rfl (pe_op op_cat (pv 10) (pe_lst (pa_cons (pe_lc (own := [("_law_way", 14)]) (g := gName 14) (tt := tYes) (by rfl) sc_law.nd (pi_range1 (by rfl) T.n_range (pa_cons (pv 4) pa_nil)) (blkOk_by (own := [("_law_way", 14)]) (N := N_law) (sc := defScope s_law) (by decide +kernel)) (fun _ _ _ _ _ => (pg_name (i := 14) sc_law.nd rfl (by first | exact Or.inl rfl | exact Or.inr rfl))) (fun _ _ _ _ _ => pts_nil) (fun _ _ _ _ _ => pe_int)) (pa_cons (pe_lc (own := [("_law_way", 14)]) (g := gName 14) (tt := tYes) (by rfl) sc_law.nd (pi_range1 (by rfl) T.n_range (pa_cons (pv 4) pa_nil)) (blkOk_by (own := [("_law_way", 14)]) (N := N_law) (sc := defScope s_law) (by decide +kernel)) (fun _ _ _ _ _ => (pg_name (i := 14) sc_law.nd rfl (by first | exact Or.inl rfl | exact Or.inr rfl))) (fun _ _ _ _ _ => pts_nil) (fun _ _ _ _ _ => (pe_un un_neg pe_int))) pa_nil))))) (pg_name (i := 8) sc_law.nd rfl (by first | exact Or.inl rfl | exact Or.inr rfl))
    (pss_cons (ps_set (i := 11) sc_law.nd rfl (by first | exact Or.inl rfl | exact Or.inr rfl) (pe_callTy (k_listOf K rfl) (by rfl) T.n_list (by decide +kernel) (pa_cons (pv 8) pa_nil)))
  (pss_cons (ps_par (by rfl) sc_law.nd (i := 12) (j := 13) rfl rfl (by decide) rfl rfl (pa_cons (pe_call (G_mixed T) (hr.mono (by decide)) (by rfl) T.g_mixed T.F_mixed.kp T.b_mixed .nil pass0 (pa_cons (pv 9) (pa_cons (pv 11) pa_nil))) (pa_cons (pe_call (G_unmixed T) (hr.mono (by decide)) (by rfl) T.g_unmixed T.F_unmixed.kp T.b_unmixed .nil pass0 (pa_cons (pv 9) (pa_cons (pv 11) pa_nil))) pa_nil)) (by rfl))
  (pss_cons (ps_if (PW.pt (pw_or (pt_cmpR (k_neD K rfl hr.units) (pv 11) (pv 8) (nomark _)) (pw_or (pt_not (pt_val (pe_call (G_law_numbers_right T) (hr.mono (by decide)) (by rfl) T.g_law_numbers_right T.F_law_numbers_right.kp T.b_law_numbers_right .nil pass0 (pa_cons (pv 12) (pa_cons (pv 4) pa_nil))))) (pw_or1 (pt_not (pt_val (pe_call (G_law_numbers_right T) (hr.mono (by decide)) (by rfl) T.g_law_numbers_right T.F_law_numbers_right.kp T.b_law_numbers_right .nil pass0 (pa_cons (pv 13) (pa_cons (pv 4) pa_nil)))))))))
    (pss_one (ps_ret pe_bl))
    pss_nil)
  (pss_cons (ps_if (PW.pt (pw_or (pt_cmpR (k_neD K rfl hr.units) (pv 12) (pe_call (G_law_played T) (hr.mono (by decide)) (by rfl) T.g_law_played T.F_law_played.kp T.b_law_played .nil pass0 (pa_cons (pv 5) (pa_cons (pv 8) pa_nil))) (nomark _)) (pw_or1 (pt_cmpR (k_neD K rfl hr.units) (pv 13) (pe_call (G_law_led_back T) (hr.mono (by decide)) (by rfl) T.g_law_led_back T.F_law_led_back.kp T.b_law_led_back .nil pass0 (pa_cons (pv 5) (pa_cons (pv 8) pa_nil))) (nomark _)))))
    (pss_one (ps_ret pe_bl))
    pss_nil)
  (pss_cons (ps_if (PW.pt (pw_or (pt_cmpR (k_neD K rfl hr.units) (pe_call (G_unmixed T) (hr.mono (by decide)) (by rfl) T.g_unmixed T.F_unmixed.kp T.b_unmixed .nil pass0 (pa_cons (pv 9) (pa_cons (pv 12) pa_nil))) (pv 8) (nomark _)) (pw_or1 (pt_cmpR (k_neD K rfl hr.units) (pe_call (G_mixed T) (hr.mono (by decide)) (by rfl) T.g_mixed T.F_mixed.kp T.b_mixed .nil pass0 (pa_cons (pv 9) (pa_cons (pv 13) pa_nil))) (pv 8) (nomark _)))))
    (pss_one (ps_ret pe_bl))
    pss_nil)
  (pss_cons (ps_expr (pe_bm PySem.F.plainAttrs_list PySem.F.slot_list_append PySem.F.type_list_append mt_append (pv 12) (pa_cons pe_int pa_nil)))
  (pss_one (ps_if (pt_cmpR (k_neD K rfl hr.units) (pe_call (G_mixed T) (hr.mono (by decide)) (by rfl) T.g_mixed T.F_mixed.kp T.b_mixed .nil pass0 (pa_cons (pv 9) (pa_cons (pv 11) pa_nil))) (pe_slice (k_slL K rfl) (pv 12) po_none (po_some (pe_un un_neg pe_int))) (nomark _))
    (pss_one (ps_ret pe_bl))
    pss_nil)))))))))
  (pss_cons (ps_if (PW.pt (pw_or (pt_cmpR (op_own_ne T.ec_Mixer (G_Mixer___eq__ T) (hr.mono (by decide)) T.b_Mixer___eq__ pass0) (pv 9) (pe_make T.mk_Mixer (G_Mixer___init__ T) (hr.mono (by decide)) (by rfl) T.gc_Mixer T.b_Mixer___init__ .nil pass0 (pa_cons (pv 4) (pa_cons (pe_call (G_law_copied T) (hr.mono (by decide)) (by rfl) T.g_law_copied T.F_law_copied.kp T.b_law_copied .nil pass0 (pa_cons (pv 5) pa_nil)) pa_nil))) (nomark _)) (pw_or (pt_cmpR (op_own_eq T.ec_Mixer (G_Mixer___eq__ T) (hr.mono (by decide)) T.b_Mixer___eq__ pass0) (pv 9) (pe_make T.mk_Mixer (G_Mixer___init__ T) (hr.mono (by decide)) (by rfl) T.gc_Mixer T.b_Mixer___init__ .nil pass0 (pa_cons (pv 4) (pa_cons (pe_op op_cat (pv 5) (pe_lst (pa_cons (pe_tup (pa_cons pe_str (pa_cons pe_int pa_nil))) pa_nil))) pa_nil))) (nomark _)) (pw_or1 (pt_cmpR (op_own_eq T.ec_Mixer (G_Mixer___eq__ T) (hr.mono (by decide)) T.b_Mixer___eq__ pass0) (pv 9) (pv 5) (nomark _))))))
    (pss_one (ps_ret pe_bl))
    pss_nil)
  (pss_one (ps_if (pt_not (pt_val (pe_call (G_law_kept T) (hr.mono (by decide)) (by rfl) T.g_law_kept T.F_law_kept.kp T.b_law_kept .nil pass0 (pa_cons (pv 9) (pa_cons (pv 4) (pa_cons (pv 5) pa_nil))))))
    (pss_one (ps_ret pe_bl))
    pss_nil)))))))))))))
  (pss_cons (ps_set (i := 2) sc_law.nd rfl (by first | exact Or.inl rfl | exact Or.inr rfl) (pe_make T.mk_Mixer (G_Mixer___init__ T) (hr.mono (by decide)) (by rfl) T.gc_Mixer T.b_Mixer___init__ .nil pass0 (pa_cons pe_int (pa_cons (pe_lst (pa_cons (pe_tup (pa_cons pe_str (pa_cons pe_int (pa_cons (pe_lst (pa_cons (pe_un un_neg pe_int) (pa_cons pe_int pa_nil))) (pa_cons pe_int pa_nil))))) (pa_cons (pe_tup (pa_cons pe_str (pa_cons pe_int (pa_cons (pe_lst (pa_cons pe_int (pa_cons pe_int pa_nil))) (pa_cons pe_int pa_nil))))) pa_nil))) pa_nil))))
  (pss_cons (ps_if (PW.pt (pw_or (pt_cmpR (k_neD K rfl hr.units) (pe_call (G_mixed T) (hr.mono (by decide)) (by rfl) T.g_mixed T.F_mixed.kp T.b_mixed .nil pass0 (pa_cons (pv 2) (pa_cons (pe_lst (pa_cons pe_int (pa_cons pe_int pa_nil))) pa_nil))) (pe_lst (pa_cons pe_int (pa_cons pe_int pa_nil))) (nomark _)) (pw_or (pt_cmpR (k_neD K rfl hr.units) (pe_call (G_unmixed T) (hr.mono (by decide)) (by rfl) T.g_unmixed T.F_unmixed.kp T.b_unmixed .nil pass0 (pa_cons (pv 2) (pa_cons (pe_lst (pa_cons pe_int (pa_cons pe_int pa_nil))) pa_nil))) (pe_lst (pa_cons pe_int (pa_cons pe_int pa_nil))) (nomark _)) (pw_or1 (pt_cmpR (k_neD K rfl hr.units) (pe_call (G_mixed T) (hr.mono (by decide)) (by rfl) T.g_mixed T.F_mixed.kp T.b_mixed .nil pass0 (pa_cons (pv 2) (pa_cons (pe_lst (pa_cons pe_int (pa_cons pe_int pa_nil))) pa_nil))) (pe_lst (pa_cons pe_int (pa_cons (pe_un un_neg pe_int) pa_nil))) (nomark _))))))
    (pss_one (ps_ret pe_bl))
    pss_nil)
  (pss_cons (ps_if (PW.pt (pw_or (pt_cmpR (op_own_eq T.ec_Mixer (G_Mixer___eq__ T) (hr.mono (by decide)) T.b_Mixer___eq__ pass0) (pe_make T.mk_Mixer (G_Mixer___init__ T) (hr.mono (by decide)) (by rfl) T.gc_Mixer T.b_Mixer___init__ .nil pass0 (pa_cons pe_int (pa_cons (pe_lst pa_nil) pa_nil))) (pe_make T.mk_Mixer (G_Mixer___init__ T) (hr.mono (by decide)) (by rfl) T.gc_Mixer T.b_Mixer___init__ .nil pass0 (pa_cons pe_int (pa_cons (pe_lst pa_nil) pa_nil))) (nomark _)) (pw_or1 (pt_cmpR (k_neD K rfl hr.units) (pe_call (G_mixed T) (hr.mono (by decide)) (by rfl) T.g_mixed T.F_mixed.kp T.b_mixed .nil pass0 (pa_cons (pe_make T.mk_Mixer (G_Mixer___init__ T) (hr.mono (by decide)) (by rfl) T.gc_Mixer T.b_Mixer___init__ .nil pass0 (pa_cons pe_int (pa_cons (pe_lst pa_nil) pa_nil))) (pa_cons (pe_lst (pa_cons pe_int (pa_cons pe_int (pa_cons pe_int pa_nil)))) pa_nil))) (pe_lst (pa_cons pe_int (pa_cons pe_int (pa_cons pe_int pa_nil)))) (nomark _)))))
    (pss_one (ps_ret pe_bl))
    pss_nil)
  (pss_one (ps_ret (pe_cmpR (k_eqD K rfl hr.units) (pe_call (G_mixed T) (hr.mono (by decide)) (by rfl) T.g_mixed T.F_mixed.kp T.b_mixed .nil pass0 (pa_cons (pe_make T.mk_Mixer (G_Mixer___init__ T) (hr.mono (by decide)) (by rfl) T.gc_Mixer T.b_Mixer___init__ .nil pass0 (pa_cons pe_int (pa_cons (pe_lst (pa_cons (pe_tup (pa_cons pe_str (pa_cons pe_int (pa_cons pe_int pa_nil)))) (pa_cons (pe_tup (pa_cons pe_str (pa_cons pe_int pa_nil))) pa_nil))) pa_nil))) (pa_cons (pe_lst (pa_cons (pe_op op_powW pe_int pe_int) (pa_cons pe_int pa_nil))) pa_nil))) (pe_lst (pa_cons (pe_un un_neg pe_int) (pa_cons (pe_op op_powW pe_int pe_int) pa_nil))) (nomark _)))))))), ?_⟩
  walk_at "go"
  refine ⟨by decide, by decide, ?_⟩
  walk_at "b"
  refine for_range (lo := 0) (n := ((2 : Int)).toNat) (fun i σ H1 => ∃ v1 v2 v3 v4 v5 v6 v7 v8 v9 v10 v11 v12 v13 v14 : Option V, σ = [some (.ref a), v1, v2, v3, v4, v5, v6, v7, v8, v9, v10, v11, v12, v13, v14] ∧ Same H H1) ⟨none, none, none, none, none, none, none, none, none, none, none, none, none, none, rfl, Same.refl _⟩ ?_ ?_
  · rintro i σ H1 hi ⟨v1, v2, v3, v4, v5, v6, v7, v8, v9, v10, v11, v12, v13, v14, rfl, s1⟩
    have hi2 : i < 2 := hi
    rw [Int.zero_add]
    walk_at "go"
    refine ⟨a, ns, i, rfl, s1.seq hA, fun H2 g s2 ng g2 => ?_⟩
    walk_at "go"
    refine ⟨g, _, _, rfl, g2, by omega, by decide, small_2900 (by decide), fun d H3 d0 d1 g3 b3 => ?_⟩
    have s3 := But.all b3 s2 ng
    obtain ⟨n, hn, hn1, hn4⟩ : ∃ n : Nat, 1 + d = (n : Int) ∧ 1 ≤ n ∧ n ≤ 4 := ⟨(1 + d).toNat, by omega, by omega, by omega⟩
    walk_at "go"
    rw [show (fun (i j : Int) => V.int (i + j)) 1 d = V.int (n : Int) from congrArg V.int hn]
    walk_at "go"
    refine ⟨g, _, n, rfl, g3, by omega, hn1, hn4, fun H4 p ss b4 g4 np pg S4 hO hl => ?_⟩
    have s4 := But.all b4 s3 ng
    walk_at "go"
    refine ⟨_, p, ss, rfl, S4, by omega, fun H5 t s5 nt S5 => ?_⟩
    walk_at "go"
    intro x z2 z3 z4 z5
    refine ⟨x, z2, t, n, ss, rfl, upd_same, hn1, hn4, (S5.mono fun _ _ => trivial).same (mk_same z3 z4), hO, by omega, fun H6 r kp nr M6 => ⟨rfl, ?_⟩⟩
    have s6 := mk_kept z3 z4 kp
    have nr5 : H5 r = none := (mk_same z3 z4).free nr
    clear kp z3 z4 z5 nr
    walk_at "go"
    refine ⟨Nat.zero_le _, fun R nR => ?_⟩
    obtain ⟨H7, e7, s7, h7⟩ := fresh (.lst []) nR
    rw [e7]
    have s57 := s6.trans s7
    have s47 := s5.trans s57
    have nR5 := s6.free nR
    have M7 := M6.same s7
    walk_at "go"
    have fl7 : ∀ b, Fl H4 H5 b → ∃ xs, H7 b = some (.lst xs) := fun b m => by
      obtain ⟨xs, e⟩ := m.2
      exact ⟨xs, s57 _ _ e⟩
    have nfl : ∀ {b}, H5 b = none → ¬ Fl H4 H5 b := fun n m => by
      obtain ⟨xs, e⟩ := m.2
      rw [n] at e
      cases e
    refine ⟨Fl H4 H5, t, ss, n, rfl, S5.same s57, ⟨nt, by obtain ⟨us, e, _⟩ := S5; exact ⟨us, e⟩⟩, fl7, hO, hn4, by omega, fun H8 k8 => ?_⟩
    have s48 : Same H4 H8 := Lk.same k8 s47 fun b m => m.1
    have s8 : Same H H8 := s1.trans (s4.trans s48)
    have M8 := M7.lk k8 fl7 (nfl nr5)
    have h8 := k8 _ _ (nfl nR5) h7
    have g8 := g4.same s48
    have nR4 := s5.free nR5
    have S8 := (S4.off nR4).same s48
    have rR : r ≠ R := fun z => by
      obtain ⟨_, us, _, e, _⟩ := M6
      rw [z, nR] at e
      cases e
    have rg : r ≠ g := fun z => (g4.same s5).ne nr5 z
    have nR1 : H1 R = none := s4.free nR4
    have pR : p ≠ R := fun z => by
      obtain ⟨us, e, _⟩ := S4
      rw [z, nR4] at e
      cases e
    have Rg : R ≠ g := (g4.same (s5.trans s6)).ne nR
    clear M7 M6 h7 k8 fl7 nfl S5 s57 s47 s7 e7 S4 g4
    walk_at "go"
    refine ⟨_, x, r, p, n, ss, rfl, M8, S8, hO, hn4, by omega, fun H9 s9 => ?_⟩
    walk_at "go"
    refine ⟨by decide, by decide, ?_⟩
    walk_at "b"
    have Rx : R ≠ x := fun z => by
      obtain ⟨_, _, e, _⟩ := M8
      rw [z, e] at h8
      cases h8
    refine for_range (lo := 0) (n := ((3 : Int)).toNat) (fun k σ H10 => ∃ (v7 v14 : Option V) (rs : List V), σ = [some (.ref a), some (.int i), v2, some (.ref g), some (.int n), some (.ref p), some (.ref t), v7, v8, some (.ref x), some (.ref R), v11, v12, v13, v14] ∧ (∀ c o, c ≠ g → c ≠ R → H9 c = some o → H10 c = some o) ∧ GenAt H10 g (1000 * i + 100 + 100000 + 5000 * k) ∧ H10 R = some (.lst rs) ∧ RowsOk n [g, R] H10 rs ∧ rs.length = k) ⟨v7, v14, [], rfl, (fun c o _ _ e => e), g8.same s9, s9 _ _ h8, (fun v m => nomatch m), rfl⟩ ?_ ?_
    · rintro k σ H10 hk ⟨v7, v14, rs, rfl, k10, g10, hR, hrs, hrl⟩
      have hk3 : k < 3 := hk
      walk_at "go"
      refine ⟨.inl ⟨rfl, _, .inl (.inl hR)⟩, ?_⟩
      walk_at "go"
      refine ⟨by omega, by omega, fun D nD => ?_⟩
      rw [Int.toNat_natCast]
      have Dg : D ≠ g := g10.ne nD
      have DR : D ≠ R := fun z => by rw [z, hR] at nD; cases nD
      refine lc_drawR (lo := 0) (n := n) g _ 1000 (fun _ => True) nD g10 (small1000 (by omega)) (fun x => rfl) ?_ ?_
      · intro j H' hj b' g' Qt qt
        walk_at "go"
        refine ⟨g, _, rfl, g', by have : 1000 * j ≤ 1000 * 4 := Nat.mul_le_mul_left _ (by omega); omega, fun y H3 b3 g3 => ?_⟩
        exact qt y H3 trivial b3 (g3.mono (by rw [Nat.mul_succ]; omega))
      · intro H12 ys b12 g12 hD hyl _
        have hR12 := b12 _ _ Rg hR
        walk_at "go"
        refine ⟨R, _, _, rfl, rfl, hR12, small1000 (by omega), ?_⟩
        have kk : ∀ c o, c ≠ g → c ≠ R → H10 c = some o → upd H12 R (.lst (rs ++ [V.ref D])) c = some o := fun c o n1 n2 e => by
          rw [upd_ne n2]
          exact b12 _ _ n1 e
        refine ⟨_, _, _, rfl, fun c o n1 n2 e => kk c o n1 n2 (k10 c o n1 n2 e), ?_, upd_same, ?_, by rw [List.length_append, hrl]; rfl⟩
        · exact (g12.keep fun o e => by rw [upd_ne Rg.symm]; exact e).mono (by have : 1000 * n ≤ 1000 * 4 := Nat.mul_le_mul_left _ hn4; omega)
        · intro v hv
          rcases List.mem_append.mp hv with h | h
          · exact (hrs.keep fun c o nc e => kk c o (fun z => nc (by rw [z]; exact List.mem_cons_self)) (fun z => nc (by rw [z]; exact List.mem_cons_of_mem _ List.mem_cons_self)) e) v h
          · rw [List.mem_singleton.mp h]
            refine ⟨D, ys, rfl, by rw [upd_ne DR]; exact hD, hyl, fun z => ?_⟩
            rcases List.mem_cons.mp z with z | z
            · exact Dg z
            · exact DR (List.mem_singleton.mp z)
    · rintro σ H10 ⟨v7, v14, rs, rfl, k10, g10, hR, hrs, hrl⟩
      have s10 : Same H1 H10 := fun c o e => k10 c o (ne_of_none e ng) (ne_of_none e nR1) (s9 _ _ (s48 _ _ (s4 _ _ e)))
      have k10' : Lk (fun c => c = g ∨ c = R) H9 H10 := fun c o nc e => k10 c o (fun z => nc (.inl z)) (fun z => nc (.inr z)) e
      have al9 : ∀ c, c = g ∨ c = R → ∃ xs, H9 c = some (.lst xs) := fun c hc => by
        rcases hc with rfl | rfl
        · obtain ⟨_, _, _, e, _⟩ := g8.same s9
          exact ⟨_, e⟩
        · exact ⟨_, s9 _ _ h8⟩
      have M10 := (M8.same s9).lk k10' al9 (fun z => z.elim rg rR)
      have S10 := (S8.same s9).lk k10' al9 (fun l h z => z.elim h.1 h.2) (fun z => z.elim pg pR)
      clear k10 k10' al9 M8 S8 h8 s9 g8 rR rg nR1 nR5 nr5 s48
      walk_at "go"
      refine ⟨by omega, by omega, fun D1 nD1 => ?_⟩
      rw [Int.toNat_natCast]
      have cst : ∀ {z : Int} {k : Nat} {y : V}, k < n → ((List.replicate n z).map V.int)[k]? = some y → y = V.int z := fun hk e => by
        rw [List.getElem?_map, List.getElem?_replicate, if_pos hk] at e
        cases e
        rfl
      refine lc_mapR (lo := 0) (n := n) ((List.replicate n (0 : Int)).map V.int) nD1 (by rw [List.length_map, List.length_replicate]) (small1000 (by omega)) (fun x => rfl) ?_ ?_
      · intro k y H' hk hy s Qt qt
        rw [cst hk hy] at qt
        exact qt _ (Same.refl _)
      intro H11 s11 hD1
      walk_at "go"
      refine ⟨by omega, by omega, fun D2 nD2 => ?_⟩
      rw [Int.toNat_natCast]
      refine lc_mapR (lo := 0) (n := n) ((List.replicate n (-1 : Int)).map V.int) nD2 (by rw [List.length_map, List.length_replicate]) (small1000 (by omega)) (fun x => rfl) ?_ ?_
      · intro k y H' hk hy s Qt qt
        rw [cst hk hy] at qt
        exact ⟨_, rfl, qt _ (Same.refl _)⟩
      intro H12 s12 hD2
      walk_at "go"
      refine ⟨(show 2 ≤ sizeLine by decide), fun Z nZ => ?_⟩
      obtain ⟨H13, e13, s13, h13⟩ := fresh (.lst [V.ref D1, V.ref D2]) nZ
      rw [e13]
      have s1013 := s11.trans (s12.trans s13)
      refine ⟨R, Z, _, _, rfl, rfl, s1013 _ _ hR, h13, Nat.le_of_lt (small1000 (by rw [hrl]; show 3 + 2 ≤ 1000; decide)), fun E nE => ?_⟩
      obtain ⟨H14, e14, s14, h14⟩ := fresh (.lst (rs ++ [V.ref D1, V.ref D2])) nE
      rw [e14]
      have s1014 := s1013.trans s14
      have M14 := M10.same s1014
      have S14 := S10.same s1014
      have s114 := s10.trans s1014
      have R14 : RowsOk n [] H14 (rs ++ [V.ref D1, V.ref D2]) := fun v hv => by
        rcases List.mem_append.mp hv with h | h
        · obtain ⟨b, xs, e, h1, h2, _⟩ := hrs v h
          exact ⟨b, xs, e, s1014 _ _ h1, h2, fun z => nomatch z⟩
        · rcases List.mem_cons.mp h with h | h
          · exact ⟨D1, _, h, s14 _ _ (s13 _ _ (s12 _ _ hD1)), List.length_replicate, fun z => nomatch z⟩
          · exact ⟨D2, _, List.mem_singleton.mp h, s14 _ _ (s13 _ _ hD2), List.length_replicate, fun z => nomatch z⟩
      clear hrs hD1 hD2 h13 e13 e14 s13 s14 s12 s11 s1013 M10 S10 cst
      walk_at "go"
      refine ⟨⟨_, .inl (.inl h14)⟩, for_list (K := K) (a := E) (xs := rs ++ [V.ref D1, V.ref D2]) (fun k σ H15 => ∃ v8 v11 v12 v13 : Option V, σ = [some (.ref a), some (.int i), v2, some (.ref g), some (.int n), some (.ref p), some (.ref t), v7, v8, some (.ref x), some (.ref R), v11, v12, v13, v14] ∧ Same H14 H15) ⟨v8, v11, v12, v13, rfl, Same.refl _⟩ (fun k σ H1 _ ⟨_, _, _, _, _, s⟩ => .inl (.inl (s _ _ h14))) ?_ ?_⟩
      · rintro k v σ H15 hk ⟨v8, v11, v12, v13, rfl, s15⟩
        obtain ⟨b, xs, rfl, hb, hxn, _⟩ := (R14.keep fun b o _ e => s15 b o e) v (List.mem_of_getElem? hk)
        have M15 := M14.same s15
        have S15 := S14.same s15
        walk_at "go"
        refine ⟨b, _, rfl, .inl (.inl (.inl hb)), fun l nl => ?_⟩
        obtain ⟨H16, e16, s16, h16⟩ := fresh (.lst (xs.map V.int)) nl
        rw [e16]
        walk_at "go"
        refine ⟨x, r, l, n, ss, xs, rfl, M15.same s16, hn4, h16, hxn, hO, fun H17 q1 s17 nq1 hq1 => ?_⟩
        have h17 := s17 _ _ h16
        have s1517 := s16.trans s17
        walk_at "go"
        refine ⟨x, r, l, n, ss, xs, rfl, M15.same s1517, hn4, h17, hxn, hO, by omega, fun H18 q2 s18 nq2 hq2 => ?_⟩
        have s1518 := s1517.trans s18
        have h18 := s18 _ _ h17
        have hb18 := s1518 _ _ hb
        have hq18 := s18 _ _ hq1
        walk_at "go"
        refine ne_lst (.inl (.inl h18)) (.inl (.inl hb18)) ?_
        refine ⟨false, rfl, iteF ?_⟩
        have pl := (play_len ss xs).trans hxn
        have bl := (back_len ss xs).trans hxn
        walk_at "go"
        refine ⟨q1, _, n, rfl, hq18, pl, hn4, fun H19 s19 => ?_⟩
        walk_at "go"
        refine ⟨q2, _, n, rfl, s19 _ _ hq2, bl, hn4, fun H20 s20 => ?_⟩
        have s1820 := s19.trans s20
        have s1520 := s1518.trans s1820
        walk_at "go"
        refine ⟨_, p, b, ss, xs, rfl, S15.same s1520, s1520 _ _ hb, by rw [hxn]; exact hO, by omega, fun H21 q3 s21 hq3 => ?_⟩
        refine ne_lst (.inl (.inl (s21 _ _ (s1820 _ _ hq18)))) (.inl (.inl hq3)) ?_
        refine ⟨false, rfl, iteF ?_⟩
        have s1821 := s1820.trans s21
        have s1521 := s1520.trans s21
        walk_at "go"
        refine ⟨_, p, b, ss, xs, rfl, S15.same s1521, s1521 _ _ hb, by rw [hxn]; exact hO, by omega, fun H22 q4 s22 hq4 => ?_⟩
        have s1822 := s1821.trans s22
        have s1522 := s1521.trans s22
        refine ne_lst (.inl (.inl (s1822 _ _ hq2))) (.inl (.inl hq4)) ?_
        refine ⟨false, rfl, iteF ?_⟩
        walk_at "go"
        refine ⟨x, r, q1, n, ss, _, rfl, M15.same s1522, hn4, s1822 _ _ hq18, pl, hO, by omega, fun H23 q5 s23 nq5 hq5 => ?_⟩
        rw [play_back hO hxn] at hq5
        have s1823 := s1822.trans s23
        have s1523 := s1522.trans s23
        walk_at "go"
        refine ne_lst (.inl (.inl hq5)) (.inl (.inl (s1523 _ _ hb))) ?_
        refine ⟨false, rfl, iteF ?_⟩
        walk_at "go"
        refine ⟨x, r, q2, n, ss, _, rfl, M15.same s1523, hn4, s1823 _ _ hq2, bl, hO, fun H24 q6 s24 nq6 hq6 => ?_⟩
        rw [back_play hO hxn] at hq6
        have s1824 := s1823.trans s24
        have s1524 := s1523.trans s24
        walk_at "go"
        refine ne_lst (.inl (.inl hq6)) (.inl (.inl (s1524 _ _ hb))) ?_
        refine ⟨false, rfl, iteF ?_⟩
        have hq24 := s1824 _ _ hq18
        have h24 := s1824 _ _ h18
        have lq : l ≠ q1 := fun z => by rw [← z, h16] at nq1; cases nq1
        walk_at "go"
        refine ⟨.inl ⟨rfl, _, .inl (.inl hq24)⟩, ?_⟩
        walk_at "go"
        refine ⟨q1, _, _, rfl, rfl, hq24, small1000 (by rw [List.length_map]; omega), ?_⟩
        have s25 : Same H14 (upd H24 q1 (.lst ((playF ss xs).map V.int ++ [V.int 0]))) := same_over ((s15.trans s16).free nq1) (s15.trans s1524)
        have h25 : upd H24 q1 (.lst ((playF ss xs).map V.int ++ [V.int 0])) l = some (.lst (xs.map V.int)) := by rw [upd_ne lq]; exact h24
        have hq25 : upd H24 q1 (.lst ((playF ss xs).map V.int ++ [V.int 0])) q1 = some (.lst ((playF ss xs).map V.int ++ [V.int 0])) := upd_same
        generalize upd H24 q1 (.lst ((playF ss xs).map V.int ++ [V.int 0])) = H25 at s25 h25 hq25
        walk_at "go"
        refine ⟨x, r, l, n, ss, xs, rfl, M14.same s25, hn4, h25, hxn, hO, fun H26 q7 s26 nq7 hq7 => ?_⟩
        walk_at "go"
        refine ⟨q1, _, rfl, .inl (.inl (s26 _ _ hq25)), fun q8 nq8 => ?_⟩
        obtain ⟨H27, e27, s27, h27⟩ := fresh (.lst ((playF ss xs).map V.int)) nq8
        rw [show upd H26 q8 (.lst (cutV ((playF ss xs).map V.int ++ [V.int 0]) none (some (-1)))) = H27 from by rw [cut_but]; exact e27]
        refine ne_lst (.inl (.inl (s27 _ _ hq7))) (.inl (.inl h27)) ?_
        refine ⟨false, rfl, iteF ?_⟩
        exact ⟨_, _, _, _, rfl, s25.trans (s26.trans s27)⟩
      · rintro σ H15 ⟨v8, v11, v12, v13, rfl, s15⟩
        have M15 := M14.same s15
        have S15 := S14.same s15
        have er : PyData.eqv (mixD n ss) (mixD n ss) = true := SeqAt.eqv_refl _ (mix_lay n ss)
        walk_at "go"
        refine ⟨_, p, ss, rfl, S15, by omega, fun H16 t2 s16 nt2 S16 => ?_⟩
        walk_at "go"
        intro x2 z2 z3 z4 z5
        refine ⟨x2, z2, t2, n, ss, rfl, upd_same, hn1, hn4, (S16.mono fun _ _ => trivial).same (mk_same z3 z4), hO, by omega, fun H17 r2 kp nr M17 => ⟨rfl, ?_⟩⟩
        have s17 := mk_kept z3 z4 kp
        clear kp z3 z4 z5 nr
        have s1517 := s16.trans s17
        obtain ⟨dx, us, hx15, hr, hv⟩ := id M15
        have hx := s1517 _ _ hx15
        obtain ⟨dx2, us2, hx2, hr2, hv2⟩ := id M17
        refine ⟨x, dx, _, rfl, hx, ⟨x2, rfl, .inl ⟨dx2, _, hx2⟩⟩, x, x2, r, n, ss, rfl, M15.same s1517, .inl ⟨r2, n, ss, M17, fun H18 s18 => ⟨_, rfl, ?_⟩⟩⟩
        rw [er]
        refine ⟨false, rfl, iteF ?_⟩
        have s1518 := s1517.trans s18
        walk_at "go"
        refine ⟨(show 2 ≤ sizeLine by decide), fun tp ntp => ?_⟩
        obtain ⟨H19, e19, s19, h19⟩ := fresh (.tup [sT, V.int 0]) ntp
        rw [show upd H18 tp (.tup [V.str (Str.ofString "turn"), V.int 0]) = H19 from e19]
        refine ⟨(show 1 ≤ sizeLine by decide), fun lp nlp => ?_⟩
        obtain ⟨H20, e20, s20, h20⟩ := fresh (.lst [V.ref tp]) nlp
        rw [e20]
        have s1520 := s1518.trans (s19.trans s20)
        obtain ⟨ps, hp0, hps⟩ := S15.same s1520
        have hpl := hps.len
        have hps2 : AllV (StepV (fun _ => True) H20) (ps ++ [V.ref tp]) (ss ++ [.turn 0]) := AllV.app (hps.imp fun v s => StepV.mono fun _ _ => trivial) (show AllV (StepV (fun _ => True) H20) [V.ref tp] [.turn 0] from ⟨⟨tp, rfl, s20 _ _ h19⟩, trivial⟩)
        refine ⟨p, lp, _, _, rfl, rfl, hp0, h20, Nat.le_of_lt (small1000 (show ps.length + 1 ≤ 1000 by omega)), fun l3 nl3 => ?_⟩
        obtain ⟨H21, e21, s21, h21⟩ := fresh (.lst (ps ++ [V.ref tp])) nl3
        rw [e21]
        have s1521 := s1520.trans s21
        walk_at "go"
        intro x3 z2 z3 z4 z5
        refine ⟨x3, z2, l3, n, ss ++ [.turn 0], rfl, upd_same, hn1, hn4, ⟨_, mk_same z3 z4 _ _ h21, hps2.imp fun v s => StepV.same (s21.trans (mk_same z3 z4))⟩, ?_, by rw [List.length_append, List.length_singleton]; omega, fun H22 r3 kp nr M22 => ⟨rfl, ?_⟩⟩
        · intro s hs
          rcases List.mem_append.mp hs with h | h
          · exact hO s h
          · rw [List.mem_singleton.mp h]
            exact hn1
        have s22 := mk_kept z3 z4 kp
        clear kp z3 z4 z5 nr
        have s1522 := s1521.trans s22
        obtain ⟨dx3, us3, hx3, hr3, hv3⟩ := id M22
        refine ⟨x, dx, _, rfl, (s1522.trans (Same.refl _)) _ _ hx15, ⟨x3, rfl, .inl ⟨dx3, _, hx3⟩⟩, x, x3, r, n, ss, rfl, M15.same s1522, .inl ⟨r3, n, _, M22, fun H23 s23 => ⟨_, rfl, ?_⟩⟩⟩
        rw [mix_other n (by rw [List.length_append, List.length_singleton]; omega)]
        refine ⟨false, rfl, iteF ?_⟩
        have s1523 := s1522.trans s23
        obtain ⟨ps4, hp4, _⟩ := S15.same s1523
        walk_at "go"
        refine ⟨x, dx, _, rfl, s1523 _ _ hx15, ⟨p, rfl, .inr (.inl ⟨_, .inl (.inl hp4)⟩)⟩, x, p, r, n, ss, rfl, M15.same s1523, .inr ⟨_, hp4, ⟨_, rfl, ?_⟩⟩⟩
        refine ⟨false, rfl, iteF ?_⟩
        walk_at "go"
        refine ⟨_, x, r, p, n, ss, rfl, M15.same s1523, S15.same s1523, hO, hn4, by omega, fun H24 s24 => ?_⟩
        walk_at "go"
        exact ⟨_, _, _, _, _, _, _, _, _, _, _, _, _, _, rfl, s1.trans (s114.trans (s15.trans (s1523.trans s24)))⟩
  · rintro σ H1 ⟨v1, v2, v3, v4, v5, v6, v7, v8, v9, v10, v11, v12, v13, v14, rfl, s1⟩
    walk_at "go"
    refine ⟨(show 2 ≤ sizeLine by decide), fun l1 nl1 => ?_⟩
    obtain ⟨H2, e2, s2, h2⟩ := fresh (.lst (([-1, 0] : List Int).map V.int)) nl1
    rw [show upd H1 l1 (.lst [V.int (-1), V.int 0]) = H2 from e2]
    walk_at "go"
    refine ⟨(show 4 ≤ sizeLine by decide), fun t1 nt1 => ?_⟩
    obtain ⟨H3, e3, s3, h3⟩ := fresh (.tup [sL, V.int 1, .ref l1, V.int 0]) nt1
    rw [show upd H2 t1 (.tup [V.str (Str.ofString "lift"), V.int 1, .ref l1, V.int 0]) = H3 from e3]
    walk_at "go"
    refine ⟨(show 2 ≤ sizeLine by decide), fun l2 nl2 => ?_⟩
    obtain ⟨H4, e4, s4, h4⟩ := fresh (.lst (([0, 1] : List Int).map V.int)) nl2
    rw [show upd H3 l2 (.lst [V.int 0, V.int 1]) = H4 from e4]
    walk_at "go"
    refine ⟨(show 4 ≤ sizeLine by decide), fun t2 nt2 => ?_⟩
    obtain ⟨H5, e5, s5, h5⟩ := fresh (.tup [sL, V.int 0, .ref l2, V.int 1]) nt2
    rw [show upd H4 t2 (.tup [V.str (Str.ofString "lift"), V.int 0, .ref l2, V.int 1]) = H5 from e5]
    walk_at "go"
    refine ⟨(show 2 ≤ sizeLine by decide), fun p np => ?_⟩
    obtain ⟨H6, e6, s6, h6⟩ := fresh (.lst [V.ref t1, V.ref t2]) np
    rw [e6]
    walk_at "go"
    intro x z2 z3 z4 z5
    have s36 := s4.trans (s5.trans s6)
    refine ⟨x, z2, p, 2, [.lift 1 [-1, 0] 0, .lift 0 [0, 1] 1], rfl, upd_same, by decide, by decide, ⟨_, mk_same z3 z4 _ _ h6, (show AllV (StepV (fun _ => True) H6) [V.ref t1, V.ref t2] [.lift 1 [-1, 0] 0, .lift 0 [0, 1] 1] from ⟨⟨t1, l1, rfl, s36 _ _ h3, (s3.trans s36) _ _ h2, trivial⟩, ⟨t2, l2, rfl, s6 _ _ h5, (s5.trans s6) _ _ h4, trivial⟩, trivial⟩).imp fun v s => StepV.same (mk_same z3 z4)⟩, ?_, by decide, fun H7 r kp nr M7 => ⟨rfl, ?_⟩⟩
    · exact okA
    have s7 := mk_kept z3 z4 kp
    clear kp z3 z4 z5 nr
    have o7 : ∀ s ∈ [Step.lift 1 [-1, 0] 0, Step.lift 0 [0, 1] 1], s.ok 2 := okA
    walk_at "go"
    refine ⟨(show 2 ≤ sizeLine by decide), fun qa7 nqa7 => ?_⟩
    obtain ⟨H8, e8, s8, h8⟩ := fresh (.lst (([5, 8] : List Int).map V.int)) nqa7
    rw [show upd H7 qa7 (.lst [V.int 5, V.int 8]) = H8 from e8]
    walk_at "go"
    have u8 : Same H7 H8 := s8
    refine ⟨x, r, qa7, 2, _, [5, 8], rfl, M7.same u8, by decide, h8, rfl, o7, fun H9 qb8 s9 nqb8 h9 => ?_⟩
    have u9 := u8.trans s9
    walk_at "go"
    refine ⟨(show 2 ≤ sizeLine by decide), fun qc9 nqc9 => ?_⟩
    obtain ⟨H10, e10, s10, h10⟩ := fresh (.lst (([6, 3] : List Int).map V.int)) nqc9
    rw [show upd H9 qc9 (.lst [V.int 6, V.int 3]) = H10 from e10]
    have u10 := u9.trans s10
    refine neD_lst (ns := playF [.lift 1 [-1, 0] 0, .lift 0 [0, 1] 1] [5, 8]) (ms := [6, 3]) (.inl (.inl (s10 _ _ h9))) (.inl (.inl h10)) ?_
    refine ⟨_, rfl, iteNF (by decide) ?_⟩
    walk_at "go"
    refine ⟨(show 2 ≤ sizeLine by decide), fun qa10 nqa10 => ?_⟩
    obtain ⟨H11, e11, s11, h11⟩ := fresh (.lst (([6, 3] : List Int).map V.int)) nqa10
    rw [show upd H10 qa10 (.lst [V.int 6, V.int 3]) = H11 from e11]
    walk_at "go"
    have u11 : Same H7 H11 := u10.trans s11
    refine ⟨x, r, qa10, 2, _, [6, 3], rfl, M7.same u11, by decide, h11, rfl, o7, by decide, fun H12 qb11 s12 nqb11 h12 => ?_⟩
    have u12 := u11.trans s12
    walk_at "go"
    refine ⟨(show 2 ≤ sizeLine by decide), fun qc12 nqc12 => ?_⟩
    obtain ⟨H13, e13, s13, h13⟩ := fresh (.lst (([5, 8] : List Int).map V.int)) nqc12
    rw [show upd H12 qc12 (.lst [V.int 5, V.int 8]) = H13 from e13]
    have u13 := u12.trans s13
    refine neD_lst (ns := backF [.lift 1 [-1, 0] 0, .lift 0 [0, 1] 1] [6, 3]) (ms := [5, 8]) (.inl (.inl (s13 _ _ h12))) (.inl (.inl h13)) ?_
    refine ⟨_, rfl, iteNF (by decide) ?_⟩
    walk_at "go"
    refine ⟨(show 2 ≤ sizeLine by decide), fun qa13 nqa13 => ?_⟩
    obtain ⟨H14, e14, s14, h14⟩ := fresh (.lst (([8, 5] : List Int).map V.int)) nqa13
    rw [show upd H13 qa13 (.lst [V.int 8, V.int 5]) = H14 from e14]
    walk_at "go"
    have u14 : Same H7 H14 := u13.trans s14
    refine ⟨x, r, qa13, 2, _, [8, 5], rfl, M7.same u14, by decide, h14, rfl, o7, fun H15 qb14 s15 nqb14 h15 => ?_⟩
    have u15 := u14.trans s15
    walk_at "go"
    
    refine ⟨(show 2 ≤ sizeLine by decide), fun qc15 nqc15 => ?_⟩
    obtain ⟨H16, e16, s16, h16⟩ := fresh (.lst (([6, -3] : List Int).map V.int)) nqc15
    rw [show upd H15 qc15 (.lst [V.int 6, V.int (-3)]) = H16 from e16]
    have u16 := u15.trans s16
    refine neD_lst (ns := playF [.lift 1 [-1, 0] 0, .lift 0 [0, 1] 1] [8, 5]) (ms := [6, -3]) (.inl (.inl (s16 _ _ h15))) (.inl (.inl h16)) ?_
    refine ⟨_, rfl, iteNF (by decide) ?_⟩
    walk_at "b"
    walk_at "go"
    refine ⟨Nat.zero_le _, fun pa npa => ?_⟩
    obtain ⟨H17, e17, s17, h17⟩ := fresh (.lst []) npa
    rw [e17]
    walk_at "go"
    intro x1 z2 z3 z4 z5
    refine ⟨x1, z2, pa, 1, [], rfl, upd_same, by decide, by decide, ⟨[], mk_same z3 z4 _ _ h17, trivial⟩, (fun s h => nomatch h), by decide, fun H18 r1 kp nr M18 => ⟨rfl, ?_⟩⟩
    clear kp z3 z4 z5 nr
    walk_at "go"
    refine ⟨Nat.zero_le _, fun pb npb => ?_⟩
    obtain ⟨H19, e19, s19, h19⟩ := fresh (.lst []) npb
    rw [e19]
    walk_at "go"
    intro x2 z2 z3 z4 z5
    refine ⟨x2, z2, pb, 2, [], rfl, upd_same, by decide, by decide, ⟨[], mk_same z3 z4 _ _ h19, trivial⟩, (fun s h => nomatch h), by decide, fun H20 r2 kp nr M20 => ⟨rfl, ?_⟩⟩
    have s20 := s19.trans (mk_kept z3 z4 kp)
    clear kp z3 z4 z5 nr
    have M20' := M18.same s20
    obtain ⟨dx1, us1, hx1, _⟩ := id M20'
    obtain ⟨dx2, us2, hx2, _⟩ := id M20
    refine ⟨x1, dx1, _, rfl, hx1, ⟨x2, rfl, .inl ⟨dx2, _, hx2⟩⟩, x1, x2, r1, 1, [], rfl, M20', .inl ⟨r2, 2, [], M20, fun H21 s21 => ⟨_, rfl, ?_⟩⟩⟩
    rw [show PyData.eqv (mixD 1 []) (mixD 2 []) = false by decide +kernel]
    refine ⟨false, rfl, iteF ?_⟩
    walk_at "go"
    refine ⟨Nat.zero_le _, fun pc npc => ?_⟩
    obtain ⟨H22, e22, s22, h22⟩ := fresh (.lst []) npc
    rw [e22]
    walk_at "go"
    intro x3 z2 z3 z4 z5
    refine ⟨x3, z2, pc, 3, [], rfl, upd_same, by decide, by decide, ⟨[], mk_same z3 z4 _ _ h22, trivial⟩, (fun s h => nomatch h), by decide, fun H23 r3 kp nr M23 => ⟨rfl, ?_⟩⟩
    clear kp z3 z4 z5 nr
    walk_at "go"
    refine ⟨(show 3 ≤ sizeLine by decide), fun pd npd => ?_⟩
    obtain ⟨H24, e24, s24, h24⟩ := fresh (.lst (([1, 2, 3] : List Int).map V.int)) npd
    rw [show upd H23 pd (.lst [V.int 1, V.int 2, V.int 3]) = H24 from e24]
    walk_at "go"
    refine ⟨x3, r3, pd, 3, _, [1, 2, 3], rfl, M23.same s24, by decide, h24, rfl, (fun s h => nomatch h), fun H25 pe s25 npe h25 => ?_⟩
    walk_at "go"
    refine ⟨(show 3 ≤ sizeLine by decide), fun pf npf => ?_⟩
    obtain ⟨H26, e26, s26, h26⟩ := fresh (.lst (([1, 2, 3] : List Int).map V.int)) npf
    rw [show upd H25 pf (.lst [V.int 1, V.int 2, V.int 3]) = H26 from e26]
    refine neD_lst (ns := playF [] [1, 2, 3]) (ms := [1, 2, 3]) (.inl (.inl (s26 _ _ h25))) (.inl (.inl h26)) ?_
    refine ⟨_, rfl, iteNF (by decide) ?_⟩
    have e29 : (10 : Int) ^ ((29 : Int)).toNat = 100000000000000000000000000000 := by decide
    walk_at "b"
    walk_at "go"
    refine ⟨(show 3 ≤ sizeLine by decide), fun ta nta => ?_⟩
    obtain ⟨H27, e27, s27, h27⟩ := fresh (.tup [sS, V.int 0, V.int 1]) nta
    rw [show upd H26 ta (.tup [V.str (Str.ofString "swap"), V.int 0, V.int 1]) = H27 from e27]
    walk_at "go"
    refine ⟨(show 2 ≤ sizeLine by decide), fun tb ntb => ?_⟩
    obtain ⟨H28, e28, s28, h28⟩ := fresh (.tup [sT, V.int 0]) ntb
    rw [show upd H27 tb (.tup [V.str (Str.ofString "turn"), V.int 0]) = H28 from e28]
    walk_at "go"
    refine ⟨(show 2 ≤ sizeLine by decide), fun pg npg => ?_⟩
    obtain ⟨H29, e29', s29, h29⟩ := fresh (.lst [V.ref ta, V.ref tb]) npg
    rw [e29']
    walk_at "go"
    intro x4 z2 z3 z4 z5
    refine ⟨x4, z2, pg, 2, [.swap 0 1, .turn 0], rfl, upd_same, by decide, by decide, ⟨_, mk_same z3 z4 _ _ h29, (show AllV (StepV (fun _ => True) H29) [V.ref ta, V.ref tb] [.swap 0 1, .turn 0] from ⟨⟨ta, rfl, (s28.trans s29) _ _ h27⟩, ⟨tb, rfl, s29 _ _ h28⟩, trivial⟩).imp fun v s => StepV.same (mk_same z3 z4)⟩, okB, by decide, fun H30 r4 kp nr M30 => ⟨rfl, ?_⟩⟩
    clear kp z3 z4 z5 nr
    walk_at "go"
    refine ⟨⟨by decide, by decide +kernel⟩, ?_⟩
    walk_at "b"
    rw [e29]
    walk_at "go"
    refine ⟨(show 2 ≤ sizeLine by decide), fun ph nph => ?_⟩
    obtain ⟨H31, e31, s31, h31⟩ := fresh (.lst (([100000000000000000000000000000, 4] : List Int).map V.int)) nph
    rw [show upd H30 ph (.lst [V.int 100000000000000000000000000000, V.int 4]) = H31 from e31]
    walk_at "go"
    refine ⟨x4, r4, ph, 2, _, [100000000000000000000000000000, 4], rfl, M30.same s31, by decide, h31, rfl, okB, fun H32 pi s32 npi h32 => ?_⟩
    walk_at "go"
    refine ⟨⟨by decide, by decide +kernel⟩, ?_⟩
    walk_at "b"
    rw [e29]
    walk_at "go"
    refine ⟨(show 2 ≤ sizeLine by decide), fun pj npj => ?_⟩
    obtain ⟨H33, e33, s33, h33⟩ := fresh (.lst (([-4, 100000000000000000000000000000] : List Int).map V.int)) npj
    rw [show upd H32 pj (.lst [V.int (-4), V.int 100000000000000000000000000000]) = H33 from e33]
    refine eqD_lst (ns := playF [.swap 0 1, .turn 0] [100000000000000000000000000000, 4]) (ms := [-4, 100000000000000000000000000000]) (.inl (.inl (s33 _ _ h32))) (.inl (.inl h33)) ?_
    rw [decide_eq_true (show playF [.swap 0 1, .turn 0] [100000000000000000000000000000, 4] = [-4, 100000000000000000000000000000] by decide)]
    exact q _
end
end My

open PySem PySem.W PySem.Calls PyProof.Rows
set_option maxRecDepth 100000 in
set_option maxHeartbeats 0 in
theorem PySem.Challenge.cw_wholesound_k30_mixed_and_led_back_holds : PySem.Challenge.rw_wholesound_k30_mixed_and_led_back.Holds := by
  w_on; o_law
  refine HandSHeadRun.head_any (r := OpenLaw.row PySem.Challenge.rw_wholesound_k30_mixed_and_led_back) (q := view (OpenLaw.row PySem.Challenge.rw_wholesound_k30_mixed_and_led_back).prog [41]) (H := My.hk) (ob := My.ob) (M := 8000) (loose := My.loose) (d := HandSHeadRun.topDef (OpenLaw.row PySem.Challenge.rw_wholesound_k30_mixed_and_led_back).prog 41) (kwd := []) My.ob_eq
    (by kernel_rfl) (fun s => by kernel_rfl) My.run (by kernel_rfl) (by kernel_rfl) (by kernel_rfl) (by rfl) (by first | assumption | decide +kernel) (by decide +kernel) ⟨rfl, rfl, rfl, rfl, rfl, by decide +kernel⟩ ?hw ?hc
  case hw => w_witness2
  case hc =>
    refine L2.walk_ofE (l := PySem.Challenge.rw_wholesound_k30_mixed_and_led_back) (n := 63) (k := 7) (x := "_law_script") (CX := L2.CX0) rfl (by decide) (by kernel_rfl) ⟨rfl, by decide, by decide⟩ ?F (fun _ _ _ _ z => z)
    intro w mg fa h Y G hmg0
    obtain ⟨K, KX, c⟩ := Y
    have hmg : mg ("law" : PySem.Str) = some (.ref fa) := by
      have e : (HandSHeadRun.topDef (OpenLaw.row PySem.Challenge.rw_wholesound_k30_mixed_and_led_back).prog 41).name = ("law" : PySem.Str) := by kernel_rfl
      rw [← e]
      exact hmg0
    have T : My.Top K mg := My.top_mk KX G c
    have e := hmg.symm.trans T.g_law
    cases e
    have b := L2.FunD.bindsA (ps := ["_law_script"]) T.F_law fun _ _ _ _ _ _ us hl => match us, hl with | [_], _ => rfl
    exact ⟨K, T.fd_law, My.sp_law K, KX, fun s v => b s [v] rfl, fun H a ns hl _ hS => ⟨a, ns, rfl, hS, hl, fun _ => rfl⟩, fun base _ _ => My.G_law T⟩


