import PyProof.Rows.All
import Wide.All
import OpenK.AllK
import Wide.FinOn
import KE.KStateDown
import Lean
import HandS.ForMost
import HandS.Exc
import HandS.Flow
import HandS.DictComp
import HandS.Style
import HandS.Wide
import HandS.WideBits
import HandS.IsInst
import HandS.Codes
import HandS.Walk
import HandS.Words
import HandS.WordsExc
import HandS.Defaults
import HandS.Head0
import HandS.Head1
import HandS.Head2
import HandS.HeadEnd
import HandS.HeadHook1
import HandS.HeadHook2
import HandS.SortInts
import PyProof.Rows.SortShellAny
import PyProof.InstNe
import KE.DataMinMax
import KE.SortData
import KE.IntBitsLaws
import KE.BitLaws
import HandS.Deep
import HandS.SetKeys
import PyProof.Rows.StrMul
import HandS.TupLe
import HandS.Property
import HandS.Conv
import HandS.NoneIn
import HandS.SetFor
import HandS.Strs
import HandS.Sort
import PySem.Challenge.RW_wholesound_k44_counts_of_all_rows
set_option Elab.async false
set_option linter.all false
set_option maxRecDepth 100000
set_option maxHeartbeats 4000000
set_option exponentiation.threshold 100000
namespace Pre
open PySem PySem.Spec PyProof.Rows L2
/-! ### heaps -/
theorem same_upd {H : Hp} {p : Addr} {o : HO} (h : H p = none) : Same H (upd H p o) := fun b x e => by
  rw [upd_ne (ne_of_none e h)]
  exact e
/-- a fresh thing that is then changed is no change of what was -/
theorem same_over {H H' : Hp} {p : Addr} {o : HO} (n : H p = none) (s : Same H H') : Same H (upd H' p o) := fun b x e => by
  rw [upd_ne (ne_of_none e n)]
  exact s b x e
theorem Same.tup {K : PySem.W.Frag} {H H' : Hp} {a : Addr} {xs : List V} (e : Same H H') (h : SqT K H a xs) : SqT K H' a xs := by
  rcases h with (h | ⟨o, h⟩) | h
  · exact .inl (.inl (e _ _ h))
  · exact .inl (.inr ⟨o, e _ _ h⟩)
  · exact .inr h
mutual
theorem dp_same {K : PySem.W.Frag} {H H' : Hp} (s : Same H H') : ∀ (d : PyData) (v : V), Dp K H v d → Dp K H' v d
  | .none, _, h => by cases h; exact .non
  | .bool _, _, h => by cases h; exact .bl _
  | .int _, _, h => by cases h; exact .int _
  | .str _, _, h => by cases h; exact .str _
  | .list ds, _, h => by cases h with | lst a b => exact .lst (s.seq a) (dps_same s ds _ b)
  | .tuple ds, _, h => by cases h with | tup a b => exact .tup (Same.tup s a) (dps_same s ds _ b)
  | .dict _, _, h => nomatch h
theorem dps_same {K : PySem.W.Frag} {H H' : Hp} (s : Same H H') : ∀ (ds : List PyData) (vs : List V), DpAll K H vs ds → DpAll K H' vs ds
  | [], _, h => by cases h; exact .nil
  | d :: ds, _, h => by cases h with | cons a b => exact .cons (dp_same s d _ a) (dps_same s ds _ b)
end
theorem dp_ints {K : PySem.W.Frag} {H : Hp} : ∀ ns : List Int, DpAll K H (ns.map V.int) (ns.map PyData.int)
  | [] => .nil
  | n :: r => .cons (.int n) (dp_ints r)
theorem eqv_ints : ∀ ns ms : List Int, PyData.eqvAll (ns.map PyData.int) (ms.map PyData.int) = decide (ns = ms)
  | [], [] => rfl
  | [], _ :: _ => rfl
  | _ :: _, [] => rfl
  | n :: r, m :: q => by
    show (PyData.eqv (.int n) (.int m) && PyData.eqvAll (r.map PyData.int) (q.map PyData.int)) = decide (n :: r = m :: q)
    rw [eqv_ints r q]
    show ((n == m) && decide (r = q)) = decide (n :: r = m :: q)
    by_cases h : n = m
    · subst h; simp
    · simp [h]
theorem lay_ints : ∀ ns : List Int, PyData.canLayAll0 (ns.map PyData.int) = true
  | [] => rfl
  | n :: r => by
    show (PyData.canLay0 (.int n) && PyData.canLayAll0 (r.map PyData.int)) = true
    rw [lay_ints r]
    rfl
theorem depth_ints : ∀ ns : List Int, PyData.depthAll (ns.map PyData.int) = 0
  | [] => by simp [PyData.depthAll]
  | n :: r => by
    show PyData.depthAll (.int n :: r.map PyData.int) = 0
    rw [PyData.depthAll, depth_ints r]
    simp [PyData.depth]
theorem shaped_ints (ns : List Int) : SeqAt.shaped (.list (ns.map PyData.int)) = true := by
  unfold SeqAt.shaped
  rw [PyData.canLay0, lay_ints, PyData.depth, depth_ints]
  rfl
theorem shaped_tup (ns : List Int) : SeqAt.shaped (.tuple (ns.map PyData.int)) = true := by
  unfold SeqAt.shaped
  rw [PyData.canLay0, lay_ints, PyData.depth, depth_ints]
  rfl
/-! ### comparisons of lists and tuples of whole numbers that are told alike -/
theorem ne_tup {K : PySem.W.Frag} {H : Hp} {a b : Addr} {ns : List Int} {Q : V → Hp → Prop} (ha : SqT K H a (ns.map V.int)) (hb : SqT K H b (ns.map V.int)) (q : Q (.bl false) H) : rNeD K (.ref a) (.ref b) H Q := by
  refine ⟨.tuple (ns.map PyData.int), .tuple (ns.map PyData.int), .tup ha (dp_ints ns), .tup hb (dp_ints ns), shaped_tup ns, shaped_tup ns, ?_⟩
  rw [PyData.eqv, eqv_ints, decide_eq_true rfl]
  exact q
theorem eq_tup {K : PySem.W.Frag} {H : Hp} {a b : Addr} {ns : List Int} {Q : V → Hp → Prop} (ha : SqT K H a (ns.map V.int)) (hb : SqT K H b (ns.map V.int)) (q : Q (.bl true) H) : rEqD K (.ref a) (.ref b) H Q := by
  refine ⟨.tuple (ns.map PyData.int), .tuple (ns.map PyData.int), .tup ha (dp_ints ns), .tup hb (dp_ints ns), shaped_tup ns, shaped_tup ns, ?_⟩
  rw [PyData.eqv, eqv_ints, decide_eq_true rfl]
  exact q
/-- lists of whole numbers, compared -/
theorem eqD_lst {K : PySem.W.Frag} {H : Hp} {a b : Addr} {ns ms : List Int} {Q : V → Hp → Prop} (ha : SqL K H a (ns.map V.int)) (hb : SqL K H b (ms.map V.int)) (q : Q (.bl (decide (ns = ms))) H) : rEqD K (.ref a) (.ref b) H Q := by
  refine ⟨.list (ns.map PyData.int), .list (ms.map PyData.int), .lst ha (dp_ints ns), .lst hb (dp_ints ms), shaped_ints ns, shaped_ints ms, ?_⟩
  rw [PyData.eqv, eqv_ints]
  exact q
theorem neD_lst {K : PySem.W.Frag} {H : Hp} {a b : Addr} {ns ms : List Int} {Q : V → Hp → Prop} (ha : SqL K H a (ns.map V.int)) (hb : SqL K H b (ms.map V.int)) (q : Q (.bl (!decide (ns = ms))) H) : rNeD K (.ref a) (.ref b) H Q := by
  refine ⟨.list (ns.map PyData.int), .list (ms.map PyData.int), .lst ha (dp_ints ns), .lst hb (dp_ints ms), shaped_ints ns, shaped_ints ms, ?_⟩
  rw [PyData.eqv, eqv_ints]
  exact q
theorem ne_lst {K : PySem.W.Frag} {H : Hp} {a b : Addr} {ns : List Int} {Q : V → Hp → Prop} (ha : SqL K H a (ns.map V.int)) (hb : SqL K H b (ns.map V.int)) (q : Q (.bl false) H) : rNeD K (.ref a) (.ref b) H Q :=
  neD_lst ha hb (by rw [decide_eq_true rfl]; exact q)
theorem eq_lst {K : PySem.W.Frag} {H : Hp} {a b : Addr} {ns : List Int} {Q : V → Hp → Prop} (ha : SqL K H a (ns.map V.int)) (hb : SqL K H b (ns.map V.int)) (q : Q (.bl true) H) : rEqD K (.ref a) (.ref b) H Q :=
  eqD_lst ha hb (by rw [decide_eq_true rfl]; exact q)
/-! ### powers -/
def CPowW (i j : Int) : Prop := 0 ≤ j ∧ (Builtin.Int.intBits i : Int) * j ≤ 2 ^ 27
theorem op_powW {X : Cx} : OpR X (binaryOp .Pow) (rI CPowW fun i j => .int (i ^ j.toNat)) := opI fun _ _ _ _ _ _ _ hc q => pow_int hc.1 hc.2 q
/-! ### comprehensions whose parts leave what is tracked as it is: sel tells of each item what comes of it -/
theorem take_fm {α : Type} {l : List (Option α)} {i : Nat} {o : Option α} (h : l[i]? = some o) : (l.take (i + 1)).filterMap id = (l.take i).filterMap id ++ o.toList := by
  rw [List.take_add_one, h, List.filterMap_append]
  cases o <;> rfl
theorem fm_len {α : Type} (l : List (Option α)) (i : Nat) : ((l.take i).filterMap id).length ≤ l.length :=
  Nat.le_trans (List.length_filterMap_le _ _) (by rw [List.length_take]; omega)
theorem lc_selL {K : PySem.W.Frag} {a : Addr} {xs : List V} {j : Nat} {tt : TT} {te : TE} {vs : List Nat} {σ : L2.St} {H1 : Hp} {D : Addr} {Qd : Hp → Prop} (sel : List (Option V)) (nD : H1 D = none) (hS : SqL K H1 a xs) (hlen : sel.length = xs.length) (hz : xs.length < sizeLine)
    (hw : ∀ x, wipe ((wipe σ vs).set j (some x)) vs = wipe σ vs)
    (hs : ∀ (i : Nat) (x : V) (o : Option V) (H' : Hp), xs[i]? = some x → sel[i]? = some o → Same H1 H' → ∀ Qt : Option V → Hp → Prop, (∀ H'', Same H' H'' → Qt o H'') →
      tt ((wipe σ vs).set j (some x)) H' fun b H3 => if b = true then te ((wipe σ vs).set j (some x)) H3 fun y H4 => Qt (some y) H4 else Qt none H3)
    (hd : ∀ H', Same H1 H' → H' D = some (.lst (sel.filterMap id)) → Qd H') :
    ∃ W : Nat → Nat → Hp → Prop, (∃ m, W 0 m (upd H1 D (.lst []))) ∧ ∀ i m H, W i m H →
      ((Itl K a).stop i H ∧ Qd H) ∨ ((Itl K a).go i H ∧ ∃ Nx : Hp → Prop, (∀ H', Nx H' → ∃ m', m' < m ∧ W (i + 1) m' H') ∧ ∀ x H', (Itl K a).yld i H x H' → gName j x (wipe σ vs) H' fun σ2 H2 => wipe σ2 vs = wipe σ vs ∧ tt σ2 H2 fun b H3 =>
        if b = true then te σ2 H3 fun y H4 => ∃ acc, H4 D = some (.lst acc) ∧ acc.length < sizeLine ∧ Nx (upd H4 D (.lst (acc ++ [y]))) else Nx H3) := by
  refine lc_list (K := K) (a := a) (xs := xs) (fun i H => Same H1 H ∧ H D = some (.lst ((sel.take i).filterMap id))) ⟨same_upd nD, upd_same⟩ (fun i H _ p => p.1.seq hS) ?_ ?_
  · rintro i x H hx ⟨s, hD⟩
    refine ⟨hw x, ?_⟩
    have hi : i < sel.length := by rw [hlen]; exact (List.getElem?_eq_some_iff.mp hx).1
    have ho : sel[i]? = some sel[i] := List.getElem?_eq_getElem hi
    have hl : ((sel.take i).filterMap id).length < sizeLine := Nat.lt_of_le_of_lt (fm_len sel i) (by omega)
    refine hs i x sel[i] H hx ho s (fun o H4 => match o with
      | some y => ∃ acc, H4 D = some (.lst acc) ∧ acc.length < sizeLine ∧ (Same H1 (upd H4 D (.lst (acc ++ [y]))) ∧ (upd H4 D (.lst (acc ++ [y]))) D = some (.lst ((sel.take (i + 1)).filterMap id)))
      | none => Same H1 H4 ∧ H4 D = some (.lst ((sel.take (i + 1)).filterMap id))) fun H4 s4 => ?_
    generalize sel[i] = o at ho ⊢
    cases o with
    | some y =>
      refine ⟨_, s4 _ _ hD, hl, same_over nD (s.trans s4), ?_⟩
      rw [upd_same, take_fm ho]
      rfl
    | none =>
      refine ⟨s.trans s4, ?_⟩
      rw [take_fm ho, s4 _ _ hD]
      simp
  · rintro H ⟨s, hD⟩
    refine hd H s ?_
    rw [hD, ← hlen, List.take_length]
theorem lc_selR {lo : Int} {n : Nat} {j : Nat} {tt : TT} {te : TE} {vs : List Nat} {σ : L2.St} {H1 : Hp} {D : Addr} {Qd : Hp → Prop} (sel : List (Option V)) (nD : H1 D = none) (hlen : sel.length = n) (hz : n < sizeLine)
    (hw : ∀ x, wipe ((wipe σ vs).set j (some x)) vs = wipe σ vs)
    (hs : ∀ (i : Nat) (o : Option V) (H' : Hp), i < n → sel[i]? = some o → Same H1 H' → ∀ Qt : Option V → Hp → Prop, (∀ H'', Same H' H'' → Qt o H'') →
      tt ((wipe σ vs).set j (some (.int (lo + (i : Int))))) H' fun b H3 => if b = true then te ((wipe σ vs).set j (some (.int (lo + (i : Int))))) H3 fun y H4 => Qt (some y) H4 else Qt none H3)
    (hd : ∀ H', Same H1 H' → H' D = some (.lst (sel.filterMap id)) → Qd H') :
    ∃ W : Nat → Nat → Hp → Prop, (∃ m, W 0 m (upd H1 D (.lst []))) ∧ ∀ i m H, W i m H →
      ((Itr lo n).stop i H ∧ Qd H) ∨ ((Itr lo n).go i H ∧ ∃ Nx : Hp → Prop, (∀ H', Nx H' → ∃ m', m' < m ∧ W (i + 1) m' H') ∧ ∀ x H', (Itr lo n).yld i H x H' → gName j x (wipe σ vs) H' fun σ2 H2 => wipe σ2 vs = wipe σ vs ∧ tt σ2 H2 fun b H3 =>
        if b = true then te σ2 H3 fun y H4 => ∃ acc, H4 D = some (.lst acc) ∧ acc.length < sizeLine ∧ Nx (upd H4 D (.lst (acc ++ [y]))) else Nx H3) := by
  refine lc_range (lo := lo) (n := n) (fun i H => Same H1 H ∧ H D = some (.lst ((sel.take i).filterMap id))) ⟨same_upd nD, upd_same⟩ ?_ ?_
  · rintro i H hi' ⟨s, hD⟩
    refine ⟨hw _, ?_⟩
    have hi : i < sel.length := by rw [hlen]; exact hi'
    have ho : sel[i]? = some sel[i] := List.getElem?_eq_getElem hi
    have hl : ((sel.take i).filterMap id).length < sizeLine := Nat.lt_of_le_of_lt (fm_len sel i) (by omega)
    refine hs i sel[i] H hi' ho s (fun o H4 => match o with
      | some y => ∃ acc, H4 D = some (.lst acc) ∧ acc.length < sizeLine ∧ (Same H1 (upd H4 D (.lst (acc ++ [y]))) ∧ (upd H4 D (.lst (acc ++ [y]))) D = some (.lst ((sel.take (i + 1)).filterMap id)))
      | none => Same H1 H4 ∧ H4 D = some (.lst ((sel.take (i + 1)).filterMap id))) fun H4 s4 => ?_
    generalize sel[i] = o at ho ⊢
    cases o with
    | some y =>
      refine ⟨_, s4 _ _ hD, hl, same_over nD (s.trans s4), ?_⟩
      rw [upd_same, take_fm ho]
      rfl
    | none =>
      refine ⟨s.trans s4, ?_⟩
      rw [take_fm ho, s4 _ _ hD]
      simp
  · rintro H ⟨s, hD⟩
    refine hd H s ?_
    rw [hD, ← hlen, List.take_length]
theorem fm_some {α : Type} (ys : List α) : (ys.map some).filterMap id = ys := by
  rw [List.filterMap_map]
  show List.filterMap (fun y => some y) ys = ys
  exact List.filterMap_some
/-- no test: ys tells what comes of each item -/
theorem lc_mapL {K : PySem.W.Frag} {a : Addr} {xs : List V} {j : Nat} {te : TE} {vs : List Nat} {σ : L2.St} {H1 : Hp} {D : Addr} {Qd : Hp → Prop} (ys : List V) (nD : H1 D = none) (hS : SqL K H1 a xs) (hlen : ys.length = xs.length) (hz : xs.length < sizeLine)
    (hw : ∀ x, wipe ((wipe σ vs).set j (some x)) vs = wipe σ vs)
    (hs : ∀ (i : Nat) (x y : V) (H' : Hp), xs[i]? = some x → ys[i]? = some y → Same H1 H' → ∀ Qt : V → Hp → Prop, (∀ H'', Same H' H'' → Qt y H'') → te ((wipe σ vs).set j (some x)) H' Qt)
    (hd : ∀ H', Same H1 H' → H' D = some (.lst ys) → Qd H') :
    ∃ W : Nat → Nat → Hp → Prop, (∃ m, W 0 m (upd H1 D (.lst []))) ∧ ∀ i m H, W i m H →
      ((Itl K a).stop i H ∧ Qd H) ∨ ((Itl K a).go i H ∧ ∃ Nx : Hp → Prop, (∀ H', Nx H' → ∃ m', m' < m ∧ W (i + 1) m' H') ∧ ∀ x H', (Itl K a).yld i H x H' → gName j x (wipe σ vs) H' fun σ2 H2 => wipe σ2 vs = wipe σ vs ∧ tYes σ2 H2 fun b H3 =>
        if b = true then te σ2 H3 fun y H4 => ∃ acc, H4 D = some (.lst acc) ∧ acc.length < sizeLine ∧ Nx (upd H4 D (.lst (acc ++ [y]))) else Nx H3) := by
  refine lc_selL (K := K) (a := a) (xs := xs) (tt := tYes) (ys.map some) nD hS (by rw [List.length_map]; exact hlen) hz hw ?_ ?_
  · intro i x o H' hx ho s Qt qt
    rw [List.getElem?_map] at ho
    obtain ⟨y, hy, rfl⟩ := Option.map_eq_some_iff.mp ho
    show if true = true then te ((wipe σ vs).set j (some x)) H' (fun y H4 => Qt (some y) H4) else Qt none H'
    exact iteT (hs i x y H' hx hy s (fun y H4 => Qt (some y) H4) qt)
  · intro H' s hD
    rw [fm_some] at hD
    exact hd H' s hD
theorem lc_mapR {lo : Int} {n : Nat} {j : Nat} {te : TE} {vs : List Nat} {σ : L2.St} {H1 : Hp} {D : Addr} {Qd : Hp → Prop} (ys : List V) (nD : H1 D = none) (hlen : ys.length = n) (hz : n < sizeLine)
    (hw : ∀ x, wipe ((wipe σ vs).set j (some x)) vs = wipe σ vs)
    (hs : ∀ (i : Nat) (y : V) (H' : Hp), i < n → ys[i]? = some y → Same H1 H' → ∀ Qt : V → Hp → Prop, (∀ H'', Same H' H'' → Qt y H'') → te ((wipe σ vs).set j (some (.int (lo + (i : Int))))) H' Qt)
    (hd : ∀ H', Same H1 H' → H' D = some (.lst ys) → Qd H') :
    ∃ W : Nat → Nat → Hp → Prop, (∃ m, W 0 m (upd H1 D (.lst []))) ∧ ∀ i m H, W i m H →
      ((Itr lo n).stop i H ∧ Qd H) ∨ ((Itr lo n).go i H ∧ ∃ Nx : Hp → Prop, (∀ H', Nx H' → ∃ m', m' < m ∧ W (i + 1) m' H') ∧ ∀ x H', (Itr lo n).yld i H x H' → gName j x (wipe σ vs) H' fun σ2 H2 => wipe σ2 vs = wipe σ vs ∧ tYes σ2 H2 fun b H3 =>
        if b = true then te σ2 H3 fun y H4 => ∃ acc, H4 D = some (.lst acc) ∧ acc.length < sizeLine ∧ Nx (upd H4 D (.lst (acc ++ [y]))) else Nx H3) := by
  refine lc_selR (lo := lo) (n := n) (tt := tYes) (ys.map some) nD (by rw [List.length_map]; exact hlen) hz hw ?_ ?_
  · intro i o H' hi ho s Qt qt
    rw [List.getElem?_map] at ho
    obtain ⟨y, hy, rfl⟩ := Option.map_eq_some_iff.mp ho
    show if true = true then te ((wipe σ vs).set j (some (.int (lo + (i : Int))))) H' (fun y H4 => Qt (some y) H4) else Qt none H'
    exact iteT (hs i y H' hi hy s (fun y H4 => Qt (some y) H4) qt)
  · intro H' s hD
    rw [fm_some] at hD
    exact hd H' s hD
/-- an item of a list of whole numbers -/
theorem int_at {ns : List Int} {i : Nat} {x : V} (h : (ns.map V.int)[i]? = some x) : ∃ n, ns[i]? = some n ∧ x = .int n := by
  rw [List.getElem?_map] at h
  obtain ⟨n, hn, e⟩ := Option.map_eq_some_iff.mp h
  exact ⟨n, hn, e.symm⟩
/-! ### rules with the written part named (within a comprehension Lean doesn't find it) -/
section
variable {X : Cx}
theorem k_len (K : PySem.W.Frag) (h : X.K = K) : CallR X (.builtin "len") (fun xs H Q => ∃ p ys, xs = [.ref p] ∧ (SqL K H p ys ∨ SqT K H p ys) ∧ Q (.int ys.length) H) := by subst h; exact call_len_seq
theorem k_sum (K : PySem.W.Frag) (h : X.K = K) (hc : X.calm = true) : CallR X (.builtin "sum") (rSum K) := by subst h; exact cr_sum hc
theorem k_max (K : PySem.W.Frag) (h : X.K = K) (hc : X.calm = true) : CallR X (.builtin "max") (rMax K) := by subst h; exact cr_max hc
theorem k_min (K : PySem.W.Frag) (h : X.K = K) (hc : X.calm = true) : CallR X (.builtin "min") (rMin K) := by subst h; exact cr_min hc
theorem k_isi (K : PySem.W.Frag) (h : X.K = K) : CallR X (.builtin "isinstance") (rIsi K) := by subst h; exact call_isi
theorem k_listOf (K : PySem.W.Frag) (h : X.K = K) : CallR X (.type "list") (fun xs H Q => ∃ p ys, xs = [.ref p] ∧ (SqL K H p ys ∨ SqT K H p ys) ∧ ∀ l, H l = none → Q (.ref l) (upd H l (.lst ys))) := by subst h; exact call_list_of
theorem k_tupleOf (K : PySem.W.Frag) (h : X.K = K) : CallR X (.type "tuple") (fun xs H Q => ∃ p ys, xs = [.ref p] ∧ ((SqL K H p ys ∧ ∀ l, H l = none → Q (.ref l) (upd H l (.tup ys))) ∨ (SqT K H p ys ∧ Q (.ref p) H))) := by subst h; exact call_tuple_of
theorem k_ixL (K : PySem.W.Frag) (h : X.K = K) : IxR X (rIxL K) := by subst h; exact ix_list
theorem k_ixT (K : PySem.W.Frag) (h : X.K = K) : IxR X (rIxT K) := by subst h; exact ix_tup
theorem k_slL (K : PySem.W.Frag) (h : X.K = K) : SlR X (rSlL K) := by subst h; exact sl_list
theorem k_slT (K : PySem.W.Frag) (h : X.K = K) : SlR X (rSlT K) := by subst h; exact sl_tup
theorem k_eqD (K : PySem.W.Frag) (h : X.K = K) (hu : X.A.units + 64 < cLine) : OpR X (compareOp .Eq) (rEqD K) := by subst h; exact op_eqD hu
theorem k_neD (K : PySem.W.Frag) (h : X.K = K) (hu : X.A.units + 64 < cLine) : OpR X (compareOp .NotEq) (rNeD K) := by subst h; exact op_neD hu
theorem k_in (K : PySem.W.Frag) (h : X.K = K) : OpR X (compareOp .In) (rIn K false) := by subst h; exact op_in_seq
theorem k_notIn (K : PySem.W.Frag) (h : X.K = K) : OpR X (compareOp .NotIn) (rIn K true) := by subst h; exact op_notIn_seq
theorem k_piL (K : PySem.W.Frag) (h : X.K = K) {tg l : Expr} {tl : TE} (hl : PE X l tl) : PI X tg l (iList K tl) := by subst h; exact pi_list hl
theorem k_piT (K : PySem.W.Frag) (h : X.K = K) {tg l : Expr} {tl : TE} (hl : PE X l tl) : PI X tg l (iTup K tl) := by subst h; exact pi_tup hl
theorem k_piE (K : PySem.W.Frag) (h : X.K = K) {e : Expr} {ta : TA} {p pos tpos : Pos} {elts : List Expr} {kk : Nat} (hg : Gl X "enumerate") (hm : X.mg "enumerate" = none) (ha : PA X [e] ta) (hs : starEach [e] X.env = [(false, eval e X.env)] := by rfl) : PI X (.Tuple elts kk tpos) (.Call (.Name "enumerate" p) [e] [] pos) (iEnum K ta) := by subst h; exact pi_enum hg hm ha hs
theorem k_pgT (K : PySem.W.Frag) (h : X.K = K) {es : List Expr} {k : Nat} {t : TGs} {n : Nat} {pos : Pos} (hc : X.calm = true) (hp : PGs X es t) (hn : (assignEach es X.env).length = n := by rfl) (hst : (assignEach es X.env).findIdx? (·.1) = none := by rfl) : PG X (.Tuple es k pos) (gTup K n t) := by subst h; exact pg_tup hc hp hn hst
theorem k_pgL (K : PySem.W.Frag) (h : X.K = K) {es : List Expr} {k : Nat} {t : TGs} {n : Nat} {pos : Pos} (hc : X.calm = true) (hp : PGs X es t) (hn : (assignEach es X.env).length = n := by rfl) (hst : (assignEach es X.env).findIdx? (·.1) = none := by rfl) : PG X (.Tuple es k pos) (gUnl K n t) := by subst h; exact pg_unl hc hp hn hst
theorem k_fld (K : PySem.W.Frag) (h : X.K = K) {e : Expr} {f : Str} {pos : Pos} {ta : TE} (he : PE X e ta) (hb : attributeBase e f X.env (eval e X.env) = eval e X.env) : PE X (.Attribute e f pos) (tFld K ta f) := by subst h; exact pe_fld he hb
theorem k_index (K : PySem.W.Frag) (h : X.K = K) : MtR X "list.index" (rIndex K) := by subst h; exact mt_index
end
/-! ### small things -/
theorem fresh {H : Hp} {p : Addr} (o : HO) (np : H p = none) : ∃ H', upd H p o = H' ∧ Same H H' ∧ H' p = some o := ⟨_, rfl, same_upd np, upd_same⟩
theorem cut_take (xs : List V) (k : Nat) : cutV xs none (some (k : Int)) = xs.take k := by
  unfold cutV
  rw [HT.sIx_nat, HT.sIx_none, List.drop_zero, Nat.sub_zero]
  rcases Nat.le_total k xs.length with h | h
  · rw [Nat.min_eq_left h]
  · rw [Nat.min_eq_right h, List.take_of_length_le h, List.take_length]
theorem cut_drop (xs : List V) (k : Nat) : cutV xs (some (k : Int)) none = xs.drop k := by
  unfold cutV
  rw [HT.sIx_nat, HT.sIx_none]
  rcases Nat.le_total k xs.length with h | h
  · rw [Nat.min_eq_left h, List.take_of_length_le (by rw [List.length_drop]; exact Nat.le_refl _)]
  · rw [Nat.min_eq_right h, List.drop_length, List.drop_of_length_le h, List.take_nil]
theorem rep_ints (k : Nat) (ks : List Int) : (List.replicate k (ks.map V.int)).flatten = ((List.replicate k ks).flatten).map V.int := by
  rw [List.map_flatten, List.map_replicate]
theorem rep_len {α : Type} (k : Nat) (ks : List α) : ((List.replicate k ks).flatten).length = k * ks.length := by
  induction k with
  | zero => simp
  | succ k ih => rw [List.replicate_succ, List.flatten_cons, List.length_append, ih, Nat.succ_mul]; omega
theorem rep_mem {α : Type} {k : Nat} {ks : List α} {x : α} (h : x ∈ (List.replicate k ks).flatten) : x ∈ ks := by
  obtain ⟨l, hl, hx⟩ := List.mem_flatten.mp h
  rw [(List.mem_replicate.mp hl).2] at hx
  exact hx
/-! ### comprehensions that make new things: R tells what is known of the i-th; D is no part of it -/
def Off (D : Addr) (H H' : Hp) : Prop := ∀ b o, b ≠ D → H b = some o → H' b = some o
def RelPv (R : Nat → V → Hp → Prop) (H1 : Hp) (D : Addr) (i : Nat) (H : Hp) : Prop := ∃ ys : List V, Same H1 H ∧ H D = some (.lst ys) ∧ ys.length = i ∧ ∀ (k : Nat) (y : V), ys[k]? = some y → R k y H
theorem lc_relR {lo : Int} {n : Nat} {j : Nat} {te : TE} {vs : List Nat} {σ : L2.St} {H1 : Hp} {D : Addr} {Qd : Hp → Prop} (R : Nat → V → Hp → Prop) (nD : H1 D = none) (hz : n < sizeLine)
    (mono : ∀ i y H H', Off D H H' → R i y H → R i y H')
    (hw : ∀ x, wipe ((wipe σ vs).set j (some x)) vs = wipe σ vs)
    (hs : ∀ (i : Nat) (H' : Hp) (xs : List V), i < n → Same H1 H' → H' D = some (.lst xs) → ∀ Qt : V → Hp → Prop, (∀ y H'', Same H' H'' → R i y H'' → Qt y H'') → te ((wipe σ vs).set j (some (.int (lo + (i : Int))))) H' Qt)
    (hd : ∀ H' ys, Same H1 H' → H' D = some (.lst ys) → ys.length = n → (∀ (i : Nat) (y : V), ys[i]? = some y → R i y H') → Qd H') :
    ∃ W : Nat → Nat → Hp → Prop, (∃ m, W 0 m (upd H1 D (.lst []))) ∧ ∀ i m H, W i m H →
      ((Itr lo n).stop i H ∧ Qd H) ∨ ((Itr lo n).go i H ∧ ∃ Nx : Hp → Prop, (∀ H', Nx H' → ∃ m', m' < m ∧ W (i + 1) m' H') ∧ ∀ x H', (Itr lo n).yld i H x H' → gName j x (wipe σ vs) H' fun σ2 H2 => wipe σ2 vs = wipe σ vs ∧ tYes σ2 H2 fun b H3 =>
        if b = true then te σ2 H3 fun y H4 => ∃ acc, H4 D = some (.lst acc) ∧ acc.length < sizeLine ∧ Nx (upd H4 D (.lst (acc ++ [y]))) else Nx H3) := by
  refine lc_range (lo := lo) (n := n) (RelPv R H1 D) ⟨[], same_upd nD, upd_same, rfl, fun k y h => by simp at h⟩ ?_ ?_
  · rintro i H hi ⟨ys, s, hD, hl, hR⟩
    refine ⟨hw _, ?_⟩
    show if true = true then te ((wipe σ vs).set j (some (.int (lo + (i : Int))))) H (fun y H4 => ∃ acc, H4 D = some (.lst acc) ∧ acc.length < sizeLine ∧ RelPv R H1 D (i + 1) (upd H4 D (.lst (acc ++ [y])))) else RelPv R H1 D (i + 1) H
    refine iteT (hs i H ys hi s hD _ fun y H4 s4 r4 => ?_)
    refine ⟨ys, s4 _ _ hD, by omega, ys ++ [y], same_over nD (s.trans s4), upd_same, by rw [List.length_append, hl]; rfl, fun k z hz => ?_⟩
    have off : Off D H4 (upd H4 D (.lst (ys ++ [y]))) := fun b o nb h => by rw [upd_ne nb]; exact h
    by_cases hk : k < ys.length
    · rw [List.getElem?_append_left hk] at hz
      exact mono k z H _ (fun b o nb h => off b o nb (s4 b o h)) (hR k z hz)
    · rw [List.getElem?_append_right (by omega)] at hz
      have hk2 : k - ys.length = 0 := by
        have h2 := (List.getElem?_eq_some_iff.mp hz).1
        rw [List.length_singleton] at h2
        omega
      rw [hk2] at hz
      cases hz
      have ek : k = i := by omega
      rw [ek]
      exact mono i y H4 _ off r4
  · rintro H ⟨ys, s, hD, hl, hR⟩
    exact hd H ys s hD hl hR
/-! ### ways that are told by whole numbers -/
theorem iteDT {p A B : Prop} [Decidable p] (hp : p) (h : A) : if decide p = true then A else B := by rw [decide_eq_true hp]; exact iteT h
theorem iteDF {p A B : Prop} [Decidable p] (hp : ¬ p) (h : B) : if decide p = true then A else B := by rw [decide_eq_false hp]; exact iteF h
theorem iteNT {p A B : Prop} [Decidable p] (hp : ¬ p) (h : A) : if (!decide p) = true then A else B := by rw [decide_eq_false hp]; exact iteT h
theorem iteNF {p A B : Prop} [Decidable p] (hp : p) (h : B) : if (!decide p) = true then A else B := by rw [decide_eq_true hp]; exact iteF h
theorem iteET {a b : Int} {A B : Prop} [Decidable (V.int a = V.int b)] (hp : a = b) (h : A) : if decide (V.int a = V.int b) = true then A else B := iteDT (congrArg V.int hp) h
theorem iteEF {a b : Int} {A B : Prop} [Decidable (V.int a = V.int b)] (hp : ¬ a = b) (h : B) : if decide (V.int a = V.int b) = true then A else B := iteDF (fun z => hp (V.int.inj z)) h
theorem iteENT {a b : Int} {A B : Prop} [Decidable (V.int a = V.int b)] (hp : ¬ a = b) (h : A) : if (!decide (V.int a = V.int b)) = true then A else B := iteNT (fun z => hp (V.int.inj z)) h
theorem iteENF {a b : Int} {A B : Prop} [Decidable (V.int a = V.int b)] (hp : a = b) (h : B) : if (!decide (V.int a = V.int b)) = true then A else B := iteNF (congrArg V.int hp) h
theorem iteNtt {A B : Prop} (h : B) : if (!true) = true then A else B := h
theorem iteNff {A B : Prop} (h : A) : if (!false) = true then A else B := h
/-- 1 or 0 of a comparison -/
theorem int_if {p : Prop} [Decidable p] : (if decide p = true then (1 : Int) else 0) = if p then 1 else 0 := by by_cases h : p <;> simp [h]
end Pre

namespace My
open PySem PySem.Spec PyProof.Rows L2 Pre
/-! ### sum of a dict's values; x[i] op= v of lists; dict of a list of pairs; walks over a dict's keys -/
section
variable {prog : Program} {w : World} {A : Around} {κ : Type} [DecidableEq κ] {knd : KeyKind prog w κ}
theorem walks_vals (hh : A.handled = none) (I d : Addr) (dI : d ≠ I) (l : List (κ × Value)) (ep : Nat) :
    WalksS prog w A I [I, d] [I] (fun a b => b = a) l.length (fun i v => ∃ k, l[i]? = some (k, v)) (fun i s => s.heap.IsValIter I d i l.length ep ∧ s.heap.DictAt knd d l ep) where
  sub := fun b m => by rw [List.mem_singleton.mp m]; exact List.mem_cons_self
  grefl := fun _ => rfl
  gtrans := fun _ _ _ p q => q.trans p
  frame := fun _ _ _ _ st _ keeps => ⟨st.1.at fun o e => keeps I List.mem_cons_self o e, st.2.at' fun o e => keeps d (List.mem_cons_of_mem _ List.mem_cons_self) o e⟩
  item := fun i s _ _ lt st go => by
    obtain ⟨⟨k, x⟩, hx⟩ : ∃ p, l[i]? = some p := ⟨l[i], List.getElem?_eq_getElem lt⟩
    exact wpAny_pyNext_values_item st.1 st.2 hx fun g' v' same => go x _ ⟨k, hx⟩ ⟨v', st.2.extBut same.extBut dI⟩ ⟨fun b o nb e => same.extBut b o (fun z => nb (List.mem_singleton.mpr z)) e, rfl, rfl, rfl, Nat.le_refl _⟩
  done := fun s _ _ st go => wpAny_pyNext_values_end hh st.1 st.2 (List.getElem?_eq_none (Nat.le_refl _)) fun g' ext => go _ ⟨fun b o nb e => ext b o (fun z => nb (List.mem_singleton.mpr z)) e, rfl, rfl, rfl, Nat.le_refl _⟩
  self := fun _ _ _ _ st go => wpAny_pyIter_valiter st.1 go
end
theorem pre_sum (ns : List Int) : ∀ n, n ≤ ns.length → preSum (fun j => ns.getD j 0) n = (ns.take n).sum
  | 0, _ => by rw [List.take_zero]; rfl
  | n + 1, h => by
    have hx : ns[n]? = some ns[n] := List.getElem?_eq_getElem h
    show preSum (fun j => ns.getD j 0) n + ns.getD n 0 = _
    rw [pre_sum ns n (Nat.le_of_succ_le h), sum_take hx, List.getD_eq_getElem?_getD, hx]
    rfl
section
variable {X : Cx}
/-- sum(d.values()), d a dict of whole numbers -/
def tSumVals (td : TE) : TE := fun σ H Q => td σ H fun x H1 => ∃ (d : Addr) (kvs : List (Key × V)) (ns : List Int), x = .ref d ∧ Rd H1 d (.dK kvs) ∧ kvs.map (·.2) = ns.map V.int ∧ Q (.int ns.sum) H1
theorem pe_sumVals {e : Expr} {td : TE} {p0 apos cpos pos : Pos} (hc : X.calm = true) (hgs : Gl X "sum") (hms : X.mg "sum" = none) (he : PE X e td)
    (hbase : attributeBase e "values" X.env (eval e X.env) = eval e X.env := by rfl) (hline : (apos.endLine == cpos.line) = true := by rfl)
    (hs1 : starEach [.Call (.Attribute e "values" apos) [] [] cpos] X.env = (false, eval (.Call (.Attribute e "values" apos) [] [] cpos) X.env) :: starEach [] X.env := by rfl)
    (hp1 : (backTo pos (starEach [] X.env)).any (·.1) = false := by rfl) :
    PE X (.Call (.Name "sum" p0) [.Call (.Attribute e "values" apos) [] [] cpos] [] pos) (tSumVals td) := by
  refine ⟨fun pins s σ H Q I h => wpAny_Call_Name_kw (ld_blt I hgs hms boot_sum (PyProof.Rows.callWith_builtin1 ?_ hs1 hp1))⟩
  rw [hs1]
  show wpAny _ _ (spliced ((false, eval (.Call (.Attribute e "values" apos) [] [] cpos) X.env) :: backTo pos (starEach [] X.env))) _ _ s
  refine Calls.spliced_cons (wpAny_Call_method (T := "dict") (id := "dict.values") hbase rfl hline F.plainAttrs_dict F.slot_dict_values F.type_dict_values (thn (he.run pins s σ H _ I h) fun u s1 h1 => ?_))
  obtain ⟨x, H1, I1, rx, d, kvs, ns, ex, hd, hn, q⟩ := h1
  subst ex
  obtain rfl : u = Value.ref d := rx
  obtain ⟨_, hs, vs, kv, hm⟩ := dk_rd I1.hok hd
  refine ⟨hm.typeIs, hm.mapOf.noDict, ?_⟩
  show wpAny _ _ (callWith cpos (.builtin "dict.values") [.ref d] [] []) _ X.xe s1
  refine method_meetsIn F.slot_dict_values F.entry_dict_values rfl (PySem.evalArgs_none ⟨rfl, hm.typeIs, F.args_dict_values_1 _, _, meets_dict_values (mixKind X.prog X.w) d hs, ⟨vs, hm⟩, ?_⟩)
  refine Calls.spliced_nil ?_
  obtain ⟨ep, ha⟩ := hm.dictAt
  have hl : vs.length = kvs.length := (Paired.length kv).symm
  have hln : kvs.length = ns.length := by have := congrArg List.length hn; rwa [List.length_map, List.length_map] at this
  have dl : d < s1.heap.objs.size := by obtain ⟨o, _, ho, _⟩ := ha; exact Heap.lt_size ho
  refine call_sum_walkAnyS (wpAny_pyIter_values (d := d) (knd := mixKind X.prog X.w) ⟨_, Heap.get?_push_size _ rfl, rfl, rfl⟩ (ha.push _) ?_)
  have hz : (s1.heap.push { cls := .type "dict_values", data := .fields #[.ref d] }).objs.size = s1.heap.objs.size + 1 := Heap.size_push ..
  refine ⟨(s1.heap.push { cls := .type "dict_values", data := .fields #[.ref d] }).objs.size, _, _, _, _, _, _, fun j => ns.getD j 0, rfl, walks_vals (knd := mixKind X.prog X.w) (A := X.A.in1) (show X.A.in1.handled = none from I1.ok.hd hc) _ d (Nat.ne_of_lt (by rw [hz]; exact Nat.lt_succ_of_lt dl)) vs ep, ⟨⟨_, Heap.get?_push_size _ rfl, rfl, rfl⟩, (ha.push _).push _⟩, fun b hb => ?_, fun i v hv => ?_, fun s' t' hmv => ?_⟩
  · show b < (Heap.push (Heap.push s1.heap _) _).objs.size
    rw [Heap.size_push]
    rcases List.mem_cons.mp hb with rfl | hb
    · exact Nat.lt_succ_self _
    · rw [List.mem_singleton.mp hb, hz]
      exact Nat.lt_succ_of_lt (Nat.lt_succ_of_lt dl)
  · obtain ⟨k, hk⟩ := hv
    have hi : i < vs.length := (List.getElem?_eq_some_iff.mp hk).1
    have hi2 : i < kvs.length := by omega
    obtain ⟨u2, hu2, ru2⟩ := kv_get kv (i := i) (k := kvs[i].1) (v := kvs[i].2) (List.getElem?_eq_getElem hi2)
    rw [hk] at hu2
    cases hu2
    have e2 : kvs[i].2 = V.int (ns.getD i 0) := by
      have e3 := congrArg (fun l => l[i]?) hn
      simp only [List.getElem?_map, List.getElem?_eq_getElem hi2, List.getElem?_eq_getElem (show i < ns.length by omega), Option.map_some] at e3
      rw [Option.some.inj e3, List.getD_eq_getElem?_getD, List.getElem?_eq_getElem (show i < ns.length by omega)]
      rfl
    rw [e2] at ru2
    exact ru2
  · have es : preSum (fun j => ns.getD j 0) vs.length = ns.sum := by rw [hl, hln, pre_sum ns _ (Nat.le_refl _), List.take_length]
    rw [es, Moved.eq_with hmv]
    exact ⟨.int _, H1, I1.kept (t' := s'.toks) (fun b o e => hmv.heap b o (fun z => Nat.lt_irrefl _ (Nat.lt_of_succ_lt (show s1.heap.objs.size + 1 < s1.heap.objs.size from hz ▸ (List.mem_singleton.mp z) ▸ Heap.lt_size e))) (Heap.get?_push_of_some _ (Heap.get?_push_of_some _ e))), ⟨t', rfl⟩, q⟩
theorem k_dictP (K : PySem.W.Frag) (h : X.K = K) (hc : X.calm = true) : CallR X (.type "dict") (fun xs H Q => ∃ (a : Addr) (ps : List Addr) (kvs : List (Key × V)), xs = [.ref a] ∧ SqL K H a (ps.map V.ref) ∧ Paired (fun p kv => SqT K H p [kV kv.1, kv.2]) ps kvs ∧
    ∀ p, H p = none → Q (.ref p) (upd H p (.dK (mergeK [] kvs)))) := by
  subst h
  exact call_dictP hc
/-- xs[j], j from the left -/
def rGetL (K : PySem.W.Frag) : V → V → Hp → VK → Prop := fun x y H Q => ∃ (p : Addr) (xs : List V) (j : Nat) (v : V), x = .ref p ∧ y = .int (j : Int) ∧ SqL K H p xs ∧ xs[j]? = some v ∧ Q v H
theorem k_getL (K : PySem.W.Frag) (h : X.K = K) : PGet X (rGetL K) := by
  subst h
  intro pins s σ H o i ov iv Q I ro ri hw
  obtain ⟨p, xs, j, v, eo, ei, hq, hv, q⟩ := hw
  subst eo ei
  cases ro
  obtain ⟨t, rfl⟩ := ri
  obtain ⟨its, r, pl, hz⟩ := I.list hq
  obtain ⟨u, hu, ru⟩ := r.get hv
  have hj : j < its.length := (List.getElem?_eq_some_iff.mp hu).1
  have hl := r.length
  have h63 := line63
  exact wpAny_getItem_list pl.isList (Int.natCast_nonneg j) (by omega) (x := u) (by simpa using hu) ⟨v, H, I, ru, q⟩
end
end My

namespace My
open PySem PySem.Spec PyProof.Rows L2
theorem nil_binds {K : PySem.W.Frag} {fd : FuncData} {ps : List Str} (h : ∃ ds, Vals [] ds ∧ Binds K fd ps ds) : Binds K fd ps [] := by
  obtain ⟨ds, v, b⟩ := h
  cases v
  exact b
def top (i : Nat) : Stmt := PySem.Challenge.pw_wholesound_k44_counts_of_all_rows.main.body.getD i (.Pass ⟨0, 0, 0, 0⟩)
abbrev s_is_whole : Stmt := top 5
abbrev N_is_whole : List Str := ["value"]
theorem sc_is_whole : FnScope N_is_whole ["value"] (defScope s_is_whole) := ⟨rfl, rfl, rfl, by decide +kernel, rfl, by decide +kernel, by decide +kernel⟩
abbrev s_is_between : Stmt := top 6
abbrev N_is_between : List Str := ["value", "low", "high"]
theorem sc_is_between : FnScope N_is_between ["value", "low", "high"] (defScope s_is_between) := ⟨rfl, rfl, rfl, by decide +kernel, rfl, by decide +kernel, by decide +kernel⟩
abbrev s_common_divisor : Stmt := top 7
abbrev N_common_divisor : List Str := ["one", "other"]
theorem sc_common_divisor : FnScope N_common_divisor ["one", "other"] (defScope s_common_divisor) := ⟨rfl, rfl, rfl, by decide +kernel, rfl, by decide +kernel, by decide +kernel⟩
abbrev s_fraction : Stmt := top 8
abbrev N_fraction : List Str := ["top", "under", "common"]
theorem sc_fraction : FnScope N_fraction ["top", "under"] (defScope s_fraction) := ⟨rfl, rfl, rfl, by decide +kernel, rfl, by decide +kernel, by decide +kernel⟩
abbrev s_check_number : Stmt := top 9
abbrev N_check_number : List Str := ["number", "low", "high"]
theorem sc_check_number : FnScope N_check_number ["number", "low", "high"] (defScope s_check_number) := ⟨rfl, rfl, rfl, by decide +kernel, rfl, by decide +kernel, by decide +kernel⟩
abbrev s_check_width : Stmt := top 12
abbrev N_check_width : List Str := ["width"]
theorem sc_check_width : FnScope N_check_width ["width"] (defScope s_check_width) := ⟨rfl, rfl, rfl, by decide +kernel, rfl, by decide +kernel, by decide +kernel⟩
abbrev s_choices : Stmt := top 13
abbrev N_choices : List Str := ["many", "few", "number", "at"]
theorem sc_choices : FnScope N_choices ["many", "few"] (defScope s_choices) := ⟨rfl, rfl, rfl, by decide +kernel, rfl, by decide +kernel, by decide +kernel⟩
abbrev s_capped_sums : Stmt := top 14
abbrev N_capped_sums : List Str := ["many", "top", "grid", "turn", "total", "line", "last"]
theorem sc_capped_sums : FnScope N_capped_sums ["many", "top"] (defScope s_capped_sums) := ⟨rfl, rfl, rfl, by decide +kernel, rfl, by decide +kernel, by decide +kernel⟩
abbrev s_upper_counts : Stmt := top 15
abbrev N_upper_counts : List Str := ["many", "deep", "great", "half", "grid", "told", "some", "tops", "lists", "odd"]
theorem sc_upper_counts : FnScope N_upper_counts ["many", "deep"] (defScope s_upper_counts) := ⟨rfl, rfl, rfl, by decide +kernel, rfl, by decide +kernel, by decide +kernel⟩
abbrev s_lower_count : Stmt := top 16
abbrev N_lower_count : List Str := ["many", "width", "count", "ways", "set_there"]
theorem sc_lower_count : FnScope N_lower_count ["many", "width", "count"] (defScope s_lower_count) := ⟨rfl, rfl, rfl, by decide +kernel, rfl, by decide +kernel, by decide +kernel⟩
abbrev s_sizes_of : Stmt := top 17
abbrev N_sizes_of : List Str := ["many", "bits", "width", "told", "count"]
theorem sc_sizes_of : FnScope N_sizes_of ["many", "bits", "width"] (defScope s_sizes_of) := ⟨rfl, rfl, rfl, by decide +kernel, rfl, by decide +kernel, by decide +kernel⟩
abbrev s_check_many_bits : Stmt := top 18
abbrev N_check_many_bits : List Str := ["many", "bits"]
theorem sc_check_many_bits : FnScope N_check_many_bits ["many", "bits"] (defScope s_check_many_bits) := ⟨rfl, rfl, rfl, by decide +kernel, rfl, by decide +kernel, by decide +kernel⟩
abbrev s_how_many_least : Stmt := top 19
abbrev N_how_many_least : List Str := ["many", "bits", "size", "number", "width", "count"]
theorem sc_how_many_least : FnScope N_how_many_least ["many", "bits", "size"] (defScope s_how_many_least) := ⟨rfl, rfl, rfl, by decide +kernel, rfl, by decide +kernel, by decide +kernel⟩
abbrev s_how_many_with : Stmt := top 20
abbrev N_how_many_with : List Str := ["many", "bits", "width"]
theorem sc_how_many_with : FnScope N_how_many_with ["many", "bits", "width"] (defScope s_how_many_with) := ⟨rfl, rfl, rfl, by decide +kernel, rfl, by decide +kernel, by decide +kernel⟩
abbrev s_mean_least : Stmt := top 21
abbrev N_mean_least : List Str := ["many", "bits", "total", "width", "count", "number"]
theorem sc_mean_least : FnScope N_mean_least ["many", "bits"] (defScope s_mean_least) := ⟨rfl, rfl, rfl, by decide +kernel, rfl, by decide +kernel, by decide +kernel⟩
abbrev s_law_cell : Stmt := top 23
abbrev N_law_cell : List Str := ["_law_script", "_law_index"]
theorem sc_law_cell : FnScope N_law_cell ["_law_script", "_law_index"] (defScope s_law_cell) := ⟨rfl, rfl, rfl, by decide +kernel, rfl, by decide +kernel, by decide +kernel⟩
abbrev s_law_hash : Stmt := top 24
abbrev N_law_hash : List Str := ["_law_seed", "_law_index", "_law_mixed"]
theorem sc_law_hash : FnScope N_law_hash ["_law_seed", "_law_index"] (defScope s_law_hash) := ⟨rfl, rfl, rfl, by decide +kernel, rfl, by decide +kernel, by decide +kernel⟩
abbrev s_law_generator : Stmt := top 25
abbrev N_law_generator : List Str := ["_law_script", "_law_index", "_law_seed"]
theorem sc_law_generator : FnScope N_law_generator ["_law_script", "_law_index"] (defScope s_law_generator) := ⟨rfl, rfl, rfl, by decide +kernel, rfl, by decide +kernel, by decide +kernel⟩
abbrev s_law_random : Stmt := top 26
abbrev N_law_random : List Str := ["_law_generator_here", "_law_bound", "_law_drawn", "_law_turn"]
theorem sc_law_random : FnScope N_law_random ["_law_generator_here", "_law_bound"] (defScope s_law_random) := ⟨rfl, rfl, rfl, by decide +kernel, rfl, by decide +kernel, by decide +kernel⟩
abbrev s_law_price : Stmt := top 27
abbrev N_law_price : List Str := ["_law_folds", "_law_width", "_law_total", "_law_fold"]
theorem sc_law_price : FnScope N_law_price ["_law_folds", "_law_width"] (defScope s_law_price) := ⟨rfl, rfl, rfl, by decide +kernel, rfl, by decide +kernel, by decide +kernel⟩
abbrev s_law_below : Stmt := top 29
abbrev N_law_below : List Str := ["_law_many", "_law_top", "_law_found", "_law_turn", "_law_longer", "_law_row", "_law_one"]
theorem sc_law_below : FnScope N_law_below ["_law_many", "_law_top"] (defScope s_law_below) := ⟨rfl, rfl, rfl, by decide +kernel, rfl, by decide +kernel, by decide +kernel⟩
abbrev s_law_lowest : Stmt := top 30
abbrev N_law_lowest : List Str := ["_law_over", "_law_under", "_law_one", "_law_other"]
theorem sc_law_lowest : FnScope N_law_lowest ["_law_over", "_law_under"] (defScope s_law_lowest) := ⟨rfl, rfl, rfl, by decide +kernel, rfl, by decide +kernel, by decide +kernel⟩
abbrev s_law_told_right : Stmt := top 31
abbrev N_law_told_right : List Str := ["_law_many", "_law_bits", "_law_sizes", "_law_widths", "_law_whole", "_law_size", "_law_width", "_law_total"]
theorem sc_law_told_right : FnScope N_law_told_right ["_law_many", "_law_bits", "_law_sizes", "_law_widths"] (defScope s_law_told_right) := ⟨rfl, rfl, rfl, by decide +kernel, rfl, by decide +kernel, by decide +kernel⟩
abbrev s_law_small_right : Stmt := top 32
abbrev N_law_small_right : List Str := ["_law_many", "_law_bits", "_law_row", "_law_sizes", "_law_widths", "_law_prices", "_law_least_here", "_law_width"]
theorem sc_law_small_right : FnScope N_law_small_right ["_law_many", "_law_bits"] (defScope s_law_small_right) := ⟨rfl, rfl, rfl, by decide +kernel, rfl, by decide +kernel, by decide +kernel⟩
abbrev s_law_choices : Stmt := top 33
abbrev N_law_choices : List Str := ["_law_many", "_law_line", "_law_turn", "_law_one", "_law_other"]
theorem sc_law_choices : FnScope N_law_choices ["_law_many"] (defScope s_law_choices) := ⟨rfl, rfl, rfl, by decide +kernel, rfl, by decide +kernel, by decide +kernel⟩
abbrev s_law_by_bits_right : Stmt := top 34
abbrev N_law_by_bits_right : List Str := ["_law_many", "_law_bits", "_law_counts", "_law_sizes", "_law_widths", "_law_ways", "_law_one", "_law_width", "_law_least_here", "_law_prices", "_law_rows", "_law_strokes", "_law_at"]
theorem sc_law_by_bits_right : FnScope N_law_by_bits_right ["_law_many", "_law_bits"] (defScope s_law_by_bits_right) := ⟨rfl, rfl, rfl, by decide +kernel, rfl, by decide +kernel, by decide +kernel⟩
abbrev s_law : Stmt := top 35
abbrev N_law : List Str := ["_law_script", "_law_generator_here", "_law_small", "_law_some", "_law_many", "_law_bits", "_law_width"]
theorem sc_law : FnScope N_law ["_law_script"] (defScope s_law) := ⟨rfl, rfl, rfl, by decide +kernel, rfl, by decide +kernel, by decide +kernel⟩
/-- what the top has left -/
structure Top (K : PySem.W.Frag) (mg : Str → Option Value) where
  f_is_whole : Addr
  fd_is_whole : FuncData
  F_is_whole : FunD K "is_whole" "is_whole" (defArgs s_is_whole) (defBody s_is_whole) (defScope s_is_whole) [] [] f_is_whole fd_is_whole
  b_is_whole : Binds K fd_is_whole ["value"] []
  g_is_whole : mg "is_whole" = some (.ref f_is_whole)
  f_is_between : Addr
  fd_is_between : FuncData
  F_is_between : FunD K "is_between" "is_between" (defArgs s_is_between) (defBody s_is_between) (defScope s_is_between) [] [] f_is_between fd_is_between
  b_is_between : Binds K fd_is_between ["value", "low", "high"] []
  g_is_between : mg "is_between" = some (.ref f_is_between)
  f_common_divisor : Addr
  fd_common_divisor : FuncData
  F_common_divisor : FunD K "common_divisor" "common_divisor" (defArgs s_common_divisor) (defBody s_common_divisor) (defScope s_common_divisor) [] [] f_common_divisor fd_common_divisor
  b_common_divisor : Binds K fd_common_divisor ["one", "other"] []
  g_common_divisor : mg "common_divisor" = some (.ref f_common_divisor)
  f_fraction : Addr
  fd_fraction : FuncData
  F_fraction : FunD K "fraction" "fraction" (defArgs s_fraction) (defBody s_fraction) (defScope s_fraction) [] [] f_fraction fd_fraction
  b_fraction : Binds K fd_fraction ["top", "under"] []
  g_fraction : mg "fraction" = some (.ref f_fraction)
  f_check_number : Addr
  fd_check_number : FuncData
  F_check_number : FunD K "check_number" "check_number" (defArgs s_check_number) (defBody s_check_number) (defScope s_check_number) [] [] f_check_number fd_check_number
  b_check_number : Binds K fd_check_number ["number", "low", "high"] []
  g_check_number : mg "check_number" = some (.ref f_check_number)
  f_check_width : Addr
  fd_check_width : FuncData
  F_check_width : FunD K "check_width" "check_width" (defArgs s_check_width) (defBody s_check_width) (defScope s_check_width) [] [] f_check_width fd_check_width
  b_check_width : Binds K fd_check_width ["width"] []
  g_check_width : mg "check_width" = some (.ref f_check_width)
  f_choices : Addr
  fd_choices : FuncData
  F_choices : FunD K "choices" "choices" (defArgs s_choices) (defBody s_choices) (defScope s_choices) [] [] f_choices fd_choices
  b_choices : Binds K fd_choices ["many", "few"] []
  g_choices : mg "choices" = some (.ref f_choices)
  f_capped_sums : Addr
  fd_capped_sums : FuncData
  F_capped_sums : FunD K "capped_sums" "capped_sums" (defArgs s_capped_sums) (defBody s_capped_sums) (defScope s_capped_sums) [] [] f_capped_sums fd_capped_sums
  b_capped_sums : Binds K fd_capped_sums ["many", "top"] []
  g_capped_sums : mg "capped_sums" = some (.ref f_capped_sums)
  f_upper_counts : Addr
  fd_upper_counts : FuncData
  F_upper_counts : FunD K "upper_counts" "upper_counts" (defArgs s_upper_counts) (defBody s_upper_counts) (defScope s_upper_counts) [] [] f_upper_counts fd_upper_counts
  b_upper_counts : Binds K fd_upper_counts ["many", "deep"] []
  g_upper_counts : mg "upper_counts" = some (.ref f_upper_counts)
  f_lower_count : Addr
  fd_lower_count : FuncData
  F_lower_count : FunD K "lower_count" "lower_count" (defArgs s_lower_count) (defBody s_lower_count) (defScope s_lower_count) [] [] f_lower_count fd_lower_count
  b_lower_count : Binds K fd_lower_count ["many", "width", "count"] []
  g_lower_count : mg "lower_count" = some (.ref f_lower_count)
  f_sizes_of : Addr
  fd_sizes_of : FuncData
  F_sizes_of : FunD K "sizes_of" "sizes_of" (defArgs s_sizes_of) (defBody s_sizes_of) (defScope s_sizes_of) [] [] f_sizes_of fd_sizes_of
  b_sizes_of : Binds K fd_sizes_of ["many", "bits", "width"] []
  g_sizes_of : mg "sizes_of" = some (.ref f_sizes_of)
  f_check_many_bits : Addr
  fd_check_many_bits : FuncData
  F_check_many_bits : FunD K "check_many_bits" "check_many_bits" (defArgs s_check_many_bits) (defBody s_check_many_bits) (defScope s_check_many_bits) [] [] f_check_many_bits fd_check_many_bits
  b_check_many_bits : Binds K fd_check_many_bits ["many", "bits"] []
  g_check_many_bits : mg "check_many_bits" = some (.ref f_check_many_bits)
  f_how_many_least : Addr
  fd_how_many_least : FuncData
  F_how_many_least : FunD K "how_many_least" "how_many_least" (defArgs s_how_many_least) (defBody s_how_many_least) (defScope s_how_many_least) [] [] f_how_many_least fd_how_many_least
  b_how_many_least : Binds K fd_how_many_least ["many", "bits", "size"] []
  g_how_many_least : mg "how_many_least" = some (.ref f_how_many_least)
  f_how_many_with : Addr
  fd_how_many_with : FuncData
  F_how_many_with : FunD K "how_many_with" "how_many_with" (defArgs s_how_many_with) (defBody s_how_many_with) (defScope s_how_many_with) [] [] f_how_many_with fd_how_many_with
  b_how_many_with : Binds K fd_how_many_with ["many", "bits", "width"] []
  g_how_many_with : mg "how_many_with" = some (.ref f_how_many_with)
  f_mean_least : Addr
  fd_mean_least : FuncData
  F_mean_least : FunD K "mean_least" "mean_least" (defArgs s_mean_least) (defBody s_mean_least) (defScope s_mean_least) [] [] f_mean_least fd_mean_least
  b_mean_least : Binds K fd_mean_least ["many", "bits"] []
  g_mean_least : mg "mean_least" = some (.ref f_mean_least)
  f_law_cell : Addr
  fd_law_cell : FuncData
  F_law_cell : FunD K "_law_cell" "_law_cell" (defArgs s_law_cell) (defBody s_law_cell) (defScope s_law_cell) [] [] f_law_cell fd_law_cell
  b_law_cell : Binds K fd_law_cell ["_law_script", "_law_index"] []
  g_law_cell : mg "_law_cell" = some (.ref f_law_cell)
  f_law_hash : Addr
  fd_law_hash : FuncData
  F_law_hash : FunD K "_law_hash" "_law_hash" (defArgs s_law_hash) (defBody s_law_hash) (defScope s_law_hash) [] [] f_law_hash fd_law_hash
  b_law_hash : Binds K fd_law_hash ["_law_seed", "_law_index"] []
  g_law_hash : mg "_law_hash" = some (.ref f_law_hash)
  f_law_generator : Addr
  fd_law_generator : FuncData
  F_law_generator : FunD K "_law_generator" "_law_generator" (defArgs s_law_generator) (defBody s_law_generator) (defScope s_law_generator) [] [] f_law_generator fd_law_generator
  b_law_generator : Binds K fd_law_generator ["_law_script", "_law_index"] []
  g_law_generator : mg "_law_generator" = some (.ref f_law_generator)
  f_law_random : Addr
  fd_law_random : FuncData
  F_law_random : FunD K "_law_random" "_law_random" (defArgs s_law_random) (defBody s_law_random) (defScope s_law_random) [] [] f_law_random fd_law_random
  b_law_random : Binds K fd_law_random ["_law_generator_here", "_law_bound"] []
  g_law_random : mg "_law_random" = some (.ref f_law_random)
  f_law_price : Addr
  fd_law_price : FuncData
  F_law_price : FunD K "_law_price" "_law_price" (defArgs s_law_price) (defBody s_law_price) (defScope s_law_price) [] [] f_law_price fd_law_price
  b_law_price : Binds K fd_law_price ["_law_folds", "_law_width"] []
  g_law_price : mg "_law_price" = some (.ref f_law_price)
  f_law_below : Addr
  fd_law_below : FuncData
  F_law_below : FunD K "_law_below" "_law_below" (defArgs s_law_below) (defBody s_law_below) (defScope s_law_below) [] [] f_law_below fd_law_below
  b_law_below : Binds K fd_law_below ["_law_many", "_law_top"] []
  g_law_below : mg "_law_below" = some (.ref f_law_below)
  f_law_lowest : Addr
  fd_law_lowest : FuncData
  F_law_lowest : FunD K "_law_lowest" "_law_lowest" (defArgs s_law_lowest) (defBody s_law_lowest) (defScope s_law_lowest) [] [] f_law_lowest fd_law_lowest
  b_law_lowest : Binds K fd_law_lowest ["_law_over", "_law_under"] []
  g_law_lowest : mg "_law_lowest" = some (.ref f_law_lowest)
  f_law_told_right : Addr
  fd_law_told_right : FuncData
  F_law_told_right : FunD K "_law_told_right" "_law_told_right" (defArgs s_law_told_right) (defBody s_law_told_right) (defScope s_law_told_right) [] [] f_law_told_right fd_law_told_right
  b_law_told_right : Binds K fd_law_told_right ["_law_many", "_law_bits", "_law_sizes", "_law_widths"] []
  g_law_told_right : mg "_law_told_right" = some (.ref f_law_told_right)
  f_law_small_right : Addr
  fd_law_small_right : FuncData
  F_law_small_right : FunD K "_law_small_right" "_law_small_right" (defArgs s_law_small_right) (defBody s_law_small_right) (defScope s_law_small_right) [] [] f_law_small_right fd_law_small_right
  b_law_small_right : Binds K fd_law_small_right ["_law_many", "_law_bits"] []
  g_law_small_right : mg "_law_small_right" = some (.ref f_law_small_right)
  f_law_choices : Addr
  fd_law_choices : FuncData
  F_law_choices : FunD K "_law_choices" "_law_choices" (defArgs s_law_choices) (defBody s_law_choices) (defScope s_law_choices) [] [] f_law_choices fd_law_choices
  b_law_choices : Binds K fd_law_choices ["_law_many"] []
  g_law_choices : mg "_law_choices" = some (.ref f_law_choices)
  f_law_by_bits_right : Addr
  fd_law_by_bits_right : FuncData
  F_law_by_bits_right : FunD K "_law_by_bits_right" "_law_by_bits_right" (defArgs s_law_by_bits_right) (defBody s_law_by_bits_right) (defScope s_law_by_bits_right) [] [] f_law_by_bits_right fd_law_by_bits_right
  b_law_by_bits_right : Binds K fd_law_by_bits_right ["_law_many", "_law_bits"] []
  g_law_by_bits_right : mg "_law_by_bits_right" = some (.ref f_law_by_bits_right)
  f_law : Addr
  fd_law : FuncData
  F_law : FunD K "law" "law" (defArgs s_law) (defBody s_law) (defScope s_law) [] [] f_law fd_law
  b_law : Binds K fd_law ["_law_script"] []
  g_law : mg "law" = some (.ref f_law)
  n_len : mg "len" = none
  n_sum : mg "sum" = none
  n_max : mg "max" = none
  n_min : mg "min" = none
  n_int : mg "int" = none
  n_bool : mg "bool" = none
  n_range : mg "range" = none
  n_isinstance : mg "isinstance" = none
  n_abs : mg "abs" = none
  n_enumerate : mg "enumerate" = none
  n_zip : mg "zip" = none
  n_dict : mg "dict" = none
  t_MOST_WIDTH : Tok
  m_MOST_WIDTH : mg "MOST_WIDTH" = some (.int 120 t_MOST_WIDTH)
def d_is_whole : He.DefD := ⟨("is_whole", none), "is_whole", "is_whole", defArgs s_is_whole, defBody s_is_whole, defScope s_is_whole, [], []⟩
def d_is_between : He.DefD := ⟨("is_between", none), "is_between", "is_between", defArgs s_is_between, defBody s_is_between, defScope s_is_between, [], []⟩
def d_common_divisor : He.DefD := ⟨("common_divisor", none), "common_divisor", "common_divisor", defArgs s_common_divisor, defBody s_common_divisor, defScope s_common_divisor, [], []⟩
def d_fraction : He.DefD := ⟨("fraction", none), "fraction", "fraction", defArgs s_fraction, defBody s_fraction, defScope s_fraction, [], []⟩
def d_check_number : He.DefD := ⟨("check_number", none), "check_number", "check_number", defArgs s_check_number, defBody s_check_number, defScope s_check_number, [], []⟩
def d_check_width : He.DefD := ⟨("check_width", none), "check_width", "check_width", defArgs s_check_width, defBody s_check_width, defScope s_check_width, [], []⟩
def d_choices : He.DefD := ⟨("choices", none), "choices", "choices", defArgs s_choices, defBody s_choices, defScope s_choices, [], []⟩
def d_capped_sums : He.DefD := ⟨("capped_sums", none), "capped_sums", "capped_sums", defArgs s_capped_sums, defBody s_capped_sums, defScope s_capped_sums, [], []⟩
def d_upper_counts : He.DefD := ⟨("upper_counts", none), "upper_counts", "upper_counts", defArgs s_upper_counts, defBody s_upper_counts, defScope s_upper_counts, [], []⟩
def d_lower_count : He.DefD := ⟨("lower_count", none), "lower_count", "lower_count", defArgs s_lower_count, defBody s_lower_count, defScope s_lower_count, [], []⟩
def d_sizes_of : He.DefD := ⟨("sizes_of", none), "sizes_of", "sizes_of", defArgs s_sizes_of, defBody s_sizes_of, defScope s_sizes_of, [], []⟩
def d_check_many_bits : He.DefD := ⟨("check_many_bits", none), "check_many_bits", "check_many_bits", defArgs s_check_many_bits, defBody s_check_many_bits, defScope s_check_many_bits, [], []⟩
def d_how_many_least : He.DefD := ⟨("how_many_least", none), "how_many_least", "how_many_least", defArgs s_how_many_least, defBody s_how_many_least, defScope s_how_many_least, [], []⟩
def d_how_many_with : He.DefD := ⟨("how_many_with", none), "how_many_with", "how_many_with", defArgs s_how_many_with, defBody s_how_many_with, defScope s_how_many_with, [], []⟩
def d_mean_least : He.DefD := ⟨("mean_least", none), "mean_least", "mean_least", defArgs s_mean_least, defBody s_mean_least, defScope s_mean_least, [], []⟩
def d_law_cell : He.DefD := ⟨("_law_cell", none), "_law_cell", "_law_cell", defArgs s_law_cell, defBody s_law_cell, defScope s_law_cell, [], []⟩
def d_law_hash : He.DefD := ⟨("_law_hash", none), "_law_hash", "_law_hash", defArgs s_law_hash, defBody s_law_hash, defScope s_law_hash, [], []⟩
def d_law_generator : He.DefD := ⟨("_law_generator", none), "_law_generator", "_law_generator", defArgs s_law_generator, defBody s_law_generator, defScope s_law_generator, [], []⟩
def d_law_random : He.DefD := ⟨("_law_random", none), "_law_random", "_law_random", defArgs s_law_random, defBody s_law_random, defScope s_law_random, [], []⟩
def d_law_price : He.DefD := ⟨("_law_price", none), "_law_price", "_law_price", defArgs s_law_price, defBody s_law_price, defScope s_law_price, [], []⟩
def d_law_below : He.DefD := ⟨("_law_below", none), "_law_below", "_law_below", defArgs s_law_below, defBody s_law_below, defScope s_law_below, [], []⟩
def d_law_lowest : He.DefD := ⟨("_law_lowest", none), "_law_lowest", "_law_lowest", defArgs s_law_lowest, defBody s_law_lowest, defScope s_law_lowest, [], []⟩
def d_law_told_right : He.DefD := ⟨("_law_told_right", none), "_law_told_right", "_law_told_right", defArgs s_law_told_right, defBody s_law_told_right, defScope s_law_told_right, [], []⟩
def d_law_small_right : He.DefD := ⟨("_law_small_right", none), "_law_small_right", "_law_small_right", defArgs s_law_small_right, defBody s_law_small_right, defScope s_law_small_right, [], []⟩
def d_law_choices : He.DefD := ⟨("_law_choices", none), "_law_choices", "_law_choices", defArgs s_law_choices, defBody s_law_choices, defScope s_law_choices, [], []⟩
def d_law_by_bits_right : He.DefD := ⟨("_law_by_bits_right", none), "_law_by_bits_right", "_law_by_bits_right", defArgs s_law_by_bits_right, defBody s_law_by_bits_right, defScope s_law_by_bits_right, [], []⟩
def d_law : He.DefD := ⟨("law", none), "law", "law", defArgs s_law, defBody s_law, defScope s_law, [], []⟩
def fn : List He.DefD := [d_is_whole, d_is_between, d_common_divisor, d_fraction, d_check_number, d_check_width, d_choices, d_capped_sums, d_upper_counts, d_lower_count, d_sizes_of, d_check_many_bits, d_how_many_least, d_how_many_with, d_mean_least, d_law_cell, d_law_hash, d_law_generator, d_law_random, d_law_price, d_law_below, d_law_lowest, d_law_told_right, d_law_small_right, d_law_choices, d_law_by_bits_right, d_law]
def fa0 : List He.Fa := [.glo "is_whole", .glo "is_between", .glo "common_divisor", .glo "fraction", .glo "check_number", .glo "check_width", .glo "choices", .glo "capped_sums", .glo "upper_counts", .glo "lower_count", .glo "sizes_of", .glo "check_many_bits", .glo "how_many_least", .glo "how_many_with", .glo "mean_least", .glo "_law_cell", .glo "_law_hash", .glo "_law_generator", .glo "_law_random", .glo "_law_price", .glo "_law_below", .glo "_law_lowest", .glo "_law_told_right", .glo "_law_small_right", .glo "_law_choices", .glo "_law_by_bits_right", .glo "law", .free "len", .free "sum", .free "max"]
def fa1 : List He.Fa := [.free "min", .free "int", .free "bool", .free "range", .free "isinstance", .free "abs", .free "enumerate", .free "zip", .free "dict", .int "MOST_WIDTH" 120]
def fa : List He.Fa := fa0 ++ fa1
/-- isinstance of an own class -/
def insB (K : PySem.W.Frag) (x : Str) : Bool := decide (PySem.W.findIn K (.ref (He.ga K x)) "__class__" = some (some (.builtin "object.__class__"))) && (decide (PySem.W.specialIn K (.builtin "object.__class__") "__get__" = some (some (.builtin "getset_descriptor.__get__"))) && (decide (PySem.W.takesIn K (.builtin "object.__class__") = some true) && (decide (PySem.W.mroIn K (He.ga K x) (.type "object") = some true) && decide (PySem.W.kitOne K (.ref (He.ga K x)) (.ref (He.ga K x)) = some true))))
theorem insB_ok {K : PySem.W.Frag} {x : Str} (cl : Cls K (He.ga K x)) (h : insB K x = true) : C8.InsC K (He.ga K x) := by
  unfold insB at h
  simp only [Bool.and_eq_true, decide_eq_true_eq] at h
  exact ⟨cl, h.1, h.2.1, h.2.2.1, h.2.2.2.1, h.2.2.2.2⟩
def eqB (K : PySem.W.Frag) (x : Str) : Bool := decide (PySem.W.findIn K (.ref (He.ga K x)) "__ne__" = some (some (.builtin "object.__ne__"))) && (decide (PySem.W.subIn K (.ref (He.ga K x)) (.type "object") = some true) && (decide (PySem.W.subIn K (.type "list") (.ref (He.ga K x)) = some false) && (decide (PySem.W.kitOne K (.type "list") (.ref (He.ga K x)) = some false) && (decide (PySem.W.subIn K (.type "tuple") (.ref (He.ga K x)) = some false) && decide (PySem.W.kitOne K (.type "tuple") (.ref (He.ga K x)) = some false)))))
def eqs : List Str := []
def own : List Str := []
def ex (K : PySem.W.Frag) : Bool := (own.all fun x => insB K x) && eqs.all fun x => eqB K x
abbrev R : PySem.W.OpenRow := PySem.W.OpenLaw.row PySem.Challenge.rw_wholesound_k44_counts_of_all_rows
abbrev Al : Type := He.AlD × Bool
def obsG (g : Addr → Option Obj) : Al := (He.obsDG 5 fa fn g, ex (He.frG g (He.asD g 5)))
def Says (K : PySem.W.Frag) : Prop := He.SaysD fa fn K ∧ ex K = true
def hk : PySem.W.Hook where
  α := Al
  obs := fun s => obsG s.heap.get?
  val := fun _ => (He.valD fn, true)
  says := fun _ h => ∃ K : PySem.W.Frag, K.In h ∧ Says K
  of := fun _ _ e => ⟨_, He.frG_in, congrArg Prod.fst e, congrArg Prod.snd e⟩
  keeps := fun _ _ _ ⟨K, hK, c⟩ k => ⟨K, PySem.W.Frag.In.keeps hK k, c⟩
def ob (s : PySem.W.SharedT) : Al := obsG (HandSHeadRun.getT s)
theorem ob_eq (s : PySem.W.SharedT) : ob s = hk.obs s.abs := by
  have e : HandSHeadRun.getT s = s.abs.heap.get? := funext (HandSHeadRun.getT_eq s)
  show obsG (HandSHeadRun.getT s) = obsG s.abs.heap.get?
  rw [e]
def loose0 : List PySem.Str := ["SoundError", "InvalidNumber", "InvalidWidth", "is_whole", "is_between", "common_divisor", "fraction", "check_number", "MOST_WIDTH", "check_width", "choices", "capped_sums", "upper_counts", "lower_count", "sizes_of", "check_many_bits", "how_many_least", "how_many_with", "mean_least", "_law_cell", "_law_hash", "_law_generator", "_law_random", "_law_price", "_law_least", "_law_below", "_law_lowest", "_law_told_right", "_law_small_right", "_law_choices"]
def loose1 : List PySem.Str := ["_law_by_bits_right"]
abbrev loose : List PySem.Str := loose0 ++ loose1
theorem run (w : World) : HandSHeadRun.RunEq R (PySem.W.view R.prog [35]) hk ob 8000 loose w := by
  intro os
  kernel_rfl
noncomputable def top_mk {K : PySem.W.Frag} {h : Heap} {mg : Str → Option Value} (X : K.In h) (G : h.Ns mainGlobals mg) (c : Says K) : Top K mg :=
  let p0 := c.1.def_ 0 (d := d_is_whole) rfl
  let p1 := c.1.def_ 1 (d := d_is_between) rfl
  let p2 := c.1.def_ 2 (d := d_common_divisor) rfl
  let p3 := c.1.def_ 3 (d := d_fraction) rfl
  let p4 := c.1.def_ 4 (d := d_check_number) rfl
  let p5 := c.1.def_ 5 (d := d_check_width) rfl
  let p6 := c.1.def_ 6 (d := d_choices) rfl
  let p7 := c.1.def_ 7 (d := d_capped_sums) rfl
  let p8 := c.1.def_ 8 (d := d_upper_counts) rfl
  let p9 := c.1.def_ 9 (d := d_lower_count) rfl
  let p10 := c.1.def_ 10 (d := d_sizes_of) rfl
  let p11 := c.1.def_ 11 (d := d_check_many_bits) rfl
  let p12 := c.1.def_ 12 (d := d_how_many_least) rfl
  let p13 := c.1.def_ 13 (d := d_how_many_with) rfl
  let p14 := c.1.def_ 14 (d := d_mean_least) rfl
  let p15 := c.1.def_ 15 (d := d_law_cell) rfl
  let p16 := c.1.def_ 16 (d := d_law_hash) rfl
  let p17 := c.1.def_ 17 (d := d_law_generator) rfl
  let p18 := c.1.def_ 18 (d := d_law_random) rfl
  let p19 := c.1.def_ 19 (d := d_law_price) rfl
  let p20 := c.1.def_ 20 (d := d_law_below) rfl
  let p21 := c.1.def_ 21 (d := d_law_lowest) rfl
  let p22 := c.1.def_ 22 (d := d_law_told_right) rfl
  let p23 := c.1.def_ 23 (d := d_law_small_right) rfl
  let p24 := c.1.def_ 24 (d := d_law_choices) rfl
  let p25 := c.1.def_ 25 (d := d_law_by_bits_right) rfl
  let p26 := c.1.def_ 26 (d := d_law) rfl
  let q0 := He.int_ok X G (c.1.fact 39 (f := .int "MOST_WIDTH" 120) rfl)
  { f_is_whole := _, fd_is_whole := p0.choose, F_is_whole := p0.choose_spec, b_is_whole := p0.choose_spec.bindsN fun _ _ _ _ _ _ us hl => match us, hl with | [_], _ => rfl, g_is_whole := He.glo_ok X G (c.1.fact 0 (f := .glo "is_whole") rfl),
    f_is_between := _, fd_is_between := p1.choose, F_is_between := p1.choose_spec, b_is_between := p1.choose_spec.bindsN fun _ _ _ _ _ _ us hl => match us, hl with | [_, _, _], _ => rfl, g_is_between := He.glo_ok X G (c.1.fact 1 (f := .glo "is_between") rfl),
    f_common_divisor := _, fd_common_divisor := p2.choose, F_common_divisor := p2.choose_spec, b_common_divisor := p2.choose_spec.bindsN fun _ _ _ _ _ _ us hl => match us, hl with | [_, _], _ => rfl, g_common_divisor := He.glo_ok X G (c.1.fact 2 (f := .glo "common_divisor") rfl),
    f_fraction := _, fd_fraction := p3.choose, F_fraction := p3.choose_spec, b_fraction := p3.choose_spec.bindsN fun _ _ _ _ _ _ us hl => match us, hl with | [_, _], _ => rfl, g_fraction := He.glo_ok X G (c.1.fact 3 (f := .glo "fraction") rfl),
    f_check_number := _, fd_check_number := p4.choose, F_check_number := p4.choose_spec, b_check_number := p4.choose_spec.bindsN fun _ _ _ _ _ _ us hl => match us, hl with | [_, _, _], _ => rfl, g_check_number := He.glo_ok X G (c.1.fact 4 (f := .glo "check_number") rfl),
    f_check_width := _, fd_check_width := p5.choose, F_check_width := p5.choose_spec, b_check_width := p5.choose_spec.bindsN fun _ _ _ _ _ _ us hl => match us, hl with | [_], _ => rfl, g_check_width := He.glo_ok X G (c.1.fact 5 (f := .glo "check_width") rfl),
    f_choices := _, fd_choices := p6.choose, F_choices := p6.choose_spec, b_choices := p6.choose_spec.bindsN fun _ _ _ _ _ _ us hl => match us, hl with | [_, _], _ => rfl, g_choices := He.glo_ok X G (c.1.fact 6 (f := .glo "choices") rfl),
    f_capped_sums := _, fd_capped_sums := p7.choose, F_capped_sums := p7.choose_spec, b_capped_sums := p7.choose_spec.bindsN fun _ _ _ _ _ _ us hl => match us, hl with | [_, _], _ => rfl, g_capped_sums := He.glo_ok X G (c.1.fact 7 (f := .glo "capped_sums") rfl),
    f_upper_counts := _, fd_upper_counts := p8.choose, F_upper_counts := p8.choose_spec, b_upper_counts := p8.choose_spec.bindsN fun _ _ _ _ _ _ us hl => match us, hl with | [_, _], _ => rfl, g_upper_counts := He.glo_ok X G (c.1.fact 8 (f := .glo "upper_counts") rfl),
    f_lower_count := _, fd_lower_count := p9.choose, F_lower_count := p9.choose_spec, b_lower_count := p9.choose_spec.bindsN fun _ _ _ _ _ _ us hl => match us, hl with | [_, _, _], _ => rfl, g_lower_count := He.glo_ok X G (c.1.fact 9 (f := .glo "lower_count") rfl),
    f_sizes_of := _, fd_sizes_of := p10.choose, F_sizes_of := p10.choose_spec, b_sizes_of := p10.choose_spec.bindsN fun _ _ _ _ _ _ us hl => match us, hl with | [_, _, _], _ => rfl, g_sizes_of := He.glo_ok X G (c.1.fact 10 (f := .glo "sizes_of") rfl),
    f_check_many_bits := _, fd_check_many_bits := p11.choose, F_check_many_bits := p11.choose_spec, b_check_many_bits := p11.choose_spec.bindsN fun _ _ _ _ _ _ us hl => match us, hl with | [_, _], _ => rfl, g_check_many_bits := He.glo_ok X G (c.1.fact 11 (f := .glo "check_many_bits") rfl),
    f_how_many_least := _, fd_how_many_least := p12.choose, F_how_many_least := p12.choose_spec, b_how_many_least := p12.choose_spec.bindsN fun _ _ _ _ _ _ us hl => match us, hl with | [_, _, _], _ => rfl, g_how_many_least := He.glo_ok X G (c.1.fact 12 (f := .glo "how_many_least") rfl),
    f_how_many_with := _, fd_how_many_with := p13.choose, F_how_many_with := p13.choose_spec, b_how_many_with := p13.choose_spec.bindsN fun _ _ _ _ _ _ us hl => match us, hl with | [_, _, _], _ => rfl, g_how_many_with := He.glo_ok X G (c.1.fact 13 (f := .glo "how_many_with") rfl),
    f_mean_least := _, fd_mean_least := p14.choose, F_mean_least := p14.choose_spec, b_mean_least := p14.choose_spec.bindsN fun _ _ _ _ _ _ us hl => match us, hl with | [_, _], _ => rfl, g_mean_least := He.glo_ok X G (c.1.fact 14 (f := .glo "mean_least") rfl),
    f_law_cell := _, fd_law_cell := p15.choose, F_law_cell := p15.choose_spec, b_law_cell := p15.choose_spec.bindsN fun _ _ _ _ _ _ us hl => match us, hl with | [_, _], _ => rfl, g_law_cell := He.glo_ok X G (c.1.fact 15 (f := .glo "_law_cell") rfl),
    f_law_hash := _, fd_law_hash := p16.choose, F_law_hash := p16.choose_spec, b_law_hash := p16.choose_spec.bindsN fun _ _ _ _ _ _ us hl => match us, hl with | [_, _], _ => rfl, g_law_hash := He.glo_ok X G (c.1.fact 16 (f := .glo "_law_hash") rfl),
    f_law_generator := _, fd_law_generator := p17.choose, F_law_generator := p17.choose_spec, b_law_generator := p17.choose_spec.bindsN fun _ _ _ _ _ _ us hl => match us, hl with | [_, _], _ => rfl, g_law_generator := He.glo_ok X G (c.1.fact 17 (f := .glo "_law_generator") rfl),
    f_law_random := _, fd_law_random := p18.choose, F_law_random := p18.choose_spec, b_law_random := p18.choose_spec.bindsN fun _ _ _ _ _ _ us hl => match us, hl with | [_, _], _ => rfl, g_law_random := He.glo_ok X G (c.1.fact 18 (f := .glo "_law_random") rfl),
    f_law_price := _, fd_law_price := p19.choose, F_law_price := p19.choose_spec, b_law_price := p19.choose_spec.bindsN fun _ _ _ _ _ _ us hl => match us, hl with | [_, _], _ => rfl, g_law_price := He.glo_ok X G (c.1.fact 19 (f := .glo "_law_price") rfl),
    f_law_below := _, fd_law_below := p20.choose, F_law_below := p20.choose_spec, b_law_below := p20.choose_spec.bindsN fun _ _ _ _ _ _ us hl => match us, hl with | [_, _], _ => rfl, g_law_below := He.glo_ok X G (c.1.fact 20 (f := .glo "_law_below") rfl),
    f_law_lowest := _, fd_law_lowest := p21.choose, F_law_lowest := p21.choose_spec, b_law_lowest := p21.choose_spec.bindsN fun _ _ _ _ _ _ us hl => match us, hl with | [_, _], _ => rfl, g_law_lowest := He.glo_ok X G (c.1.fact 21 (f := .glo "_law_lowest") rfl),
    f_law_told_right := _, fd_law_told_right := p22.choose, F_law_told_right := p22.choose_spec, b_law_told_right := p22.choose_spec.bindsN fun _ _ _ _ _ _ us hl => match us, hl with | [_, _, _, _], _ => rfl, g_law_told_right := He.glo_ok X G (c.1.fact 22 (f := .glo "_law_told_right") rfl),
    f_law_small_right := _, fd_law_small_right := p23.choose, F_law_small_right := p23.choose_spec, b_law_small_right := p23.choose_spec.bindsN fun _ _ _ _ _ _ us hl => match us, hl with | [_, _], _ => rfl, g_law_small_right := He.glo_ok X G (c.1.fact 23 (f := .glo "_law_small_right") rfl),
    f_law_choices := _, fd_law_choices := p24.choose, F_law_choices := p24.choose_spec, b_law_choices := p24.choose_spec.bindsN fun _ _ _ _ _ _ us hl => match us, hl with | [_], _ => rfl, g_law_choices := He.glo_ok X G (c.1.fact 24 (f := .glo "_law_choices") rfl),
    f_law_by_bits_right := _, fd_law_by_bits_right := p25.choose, F_law_by_bits_right := p25.choose_spec, b_law_by_bits_right := p25.choose_spec.bindsN fun _ _ _ _ _ _ us hl => match us, hl with | [_, _], _ => rfl, g_law_by_bits_right := He.glo_ok X G (c.1.fact 25 (f := .glo "_law_by_bits_right") rfl),
    f_law := _, fd_law := p26.choose, F_law := p26.choose_spec, b_law := p26.choose_spec.bindsN fun _ _ _ _ _ _ us hl => match us, hl with | [_], _ => rfl, g_law := He.glo_ok X G (c.1.fact 26 (f := .glo "law") rfl),
    n_len := He.free_ok X G (c.1.fact 27 (f := .free "len") rfl),
    n_sum := He.free_ok X G (c.1.fact 28 (f := .free "sum") rfl),
    n_max := He.free_ok X G (c.1.fact 29 (f := .free "max") rfl),
    n_min := He.free_ok X G (c.1.fact 30 (f := .free "min") rfl),
    n_int := He.free_ok X G (c.1.fact 31 (f := .free "int") rfl),
    n_bool := He.free_ok X G (c.1.fact 32 (f := .free "bool") rfl),
    n_range := He.free_ok X G (c.1.fact 33 (f := .free "range") rfl),
    n_isinstance := He.free_ok X G (c.1.fact 34 (f := .free "isinstance") rfl),
    n_abs := He.free_ok X G (c.1.fact 35 (f := .free "abs") rfl),
    n_enumerate := He.free_ok X G (c.1.fact 36 (f := .free "enumerate") rfl),
    n_zip := He.free_ok X G (c.1.fact 37 (f := .free "zip") rfl),
    n_dict := He.free_ok X G (c.1.fact 38 (f := .free "dict") rfl),
    t_MOST_WIDTH := q0.choose, m_MOST_WIDTH := q0.choose_spec }
end My

namespace My
open PySem PySem.Spec PyProof.Rows L2 Pre
section
variable {P : Program} {w : World} {K : PySem.W.Frag} {mg : Str → Option Value} {base : Heap}
/-! ### is_whole, is_between, of whole numbers -/
def sp_is_whole : Sp := fun vs H Q _ => ∃ i : Int, vs = [.int i] ∧ Q (.bl true) H
theorem G_is_whole (T : Top K mg) : FnOk P w K mg base CX0 1 T.f_is_whole T.fd_is_whole ["value"] sp_is_whole := by
  refine T.F_is_whole.ok sc_is_whole (fun vs H Q E h => by obtain ⟨i, rfl, _⟩ := h; rfl) (fun cdv A outer s H vs Q E hr h => ?_)
  obtain ⟨i, rfl, q⟩ := h
  refine ⟨_, PSs.nox (pss_one (ps_ret (pe_and (pe_callB (k_isi K rfl) (by rfl) T.n_isinstance (by decide +kernel) (pa_cons (pv 0) (pa_cons (pe_bltn (v := .ty "int") (by rfl) T.n_int (by decide +kernel) rfl) pa_nil))) (pe_one (pe_not (pe_callB (k_isi K rfl) (by rfl) T.n_isinstance (by decide +kernel) (pa_cons (pv 0) (pa_cons (pe_bltn (v := .ty "bool") (by rfl) T.n_bool (by decide +kernel) rfl) pa_nil)))))))), ?_⟩
  refine ⟨_, rfl, _, _, _, _, true, rfl, .ty _, .base (.int i), kit_ty (by decide +kernel), true, rfl, iteT ?_⟩
  exact ⟨_, rfl, _, _, _, _, false, rfl, .ty _, .base (.int i), kit_ty (by decide +kernel), false, rfl, q⟩
/-- value a whole number, low one, high None or one -/
def sp_is_between : Sp := fun vs H Q _ => ∃ (i lo : Int) (hi : Option Int), vs = [.int i, .int lo, (match hi with | some j => .int j | none => .non)] ∧ Q (.bl (decide (lo ≤ i ∧ ∀ j, hi = some j → i ≤ j))) H
theorem G_is_between (T : Top K mg) : FnOk P w K mg base CX0 2 T.f_is_between T.fd_is_between ["value", "low", "high"] sp_is_between := by
  refine T.F_is_between.ok sc_is_between (fun vs H Q E h => by obtain ⟨i, lo, hi, rfl, _⟩ := h; rfl) (fun cdv A outer s H vs Q E hr h => ?_)
  obtain ⟨i, lo, hi, rfl, q⟩ := h
  refine ⟨_, PSs.nox (pss_one (ps_ret (pe_and (pe_call (G_is_whole T) (hr.mono (by decide)) (by rfl) T.g_is_whole T.F_is_whole.kp T.b_is_whole .nil pass0 (pa_cons (pv 0) pa_nil)) (pe_and (pe_cmpR op_le (pv 1) (pv 0) (nomark _)) (pe_one (pe_or (pe_cmpR op_isN (pv 2) pe_non (nomark _)) (pe_one (pe_cmpR op_le (pv 0) (pv 2) (nomark _))))))))), ?_⟩
  refine ⟨_, rfl, i, rfl, true, rfl, iteT ?_⟩
  refine ⟨_, rfl, _, rfl, _, _, rfl, rfl, _, rfl, ite2 (fun e => ?_) (fun e => ?_)⟩
  · have e1 : lo ≤ i := of_decide_eq_true e
    cases hi with
    | none =>
      refine ⟨_, rfl, rfl, _, rfl, iteT ?_⟩
      rw [decide_eq_true ⟨e1, fun j h => nomatch h⟩] at q
      exact q
    | some j =>
      refine ⟨_, rfl, rfl, _, rfl, iteF ⟨_, rfl, _, rfl, _, _, rfl, rfl, ?_⟩⟩
      have e2 : decide (lo ≤ i ∧ ∀ j', some j = some j' → i ≤ j') = decide (i ≤ j) := by
        by_cases h : i ≤ j
        · rw [decide_eq_true h, decide_eq_true]
          exact ⟨e1, fun j' e => by cases e; exact h⟩
        · rw [decide_eq_false h, decide_eq_false]
          exact fun z => h (z.2 j rfl)
      rw [e2] at q
      exact q
  · have e1 : ¬ lo ≤ i := fun h => e (decide_eq_true h)
    rw [decide_eq_false fun z => e1 z.1] at q
    exact q
end
end My

set_option exponentiation.threshold 100000
namespace My
open PySem PySem.Spec PyProof.Rows L2 Pre
section
variable {P : Program} {w : World} {K : PySem.W.Frag} {mg : Str → Option Value} {base : Heap}
/-! ### the law's draws -/
/-- a generator: its count is at most n -/
def GenAt (H : Hp) (g : Addr) (n : Nat) : Prop := ∃ x y z : Int, H g = some (.lst [.int x, .int y, .int z]) ∧ 0 ≤ z ∧ z ≤ (n : Int)
/-- all but one thing stand as they stood -/
def But (g : Addr) (H H' : Hp) : Prop := ∀ b o, b ≠ g → H b = some o → H' b = some o
theorem But.refl {g : Addr} {H : Hp} : But g H H := fun _ _ _ h => h
theorem But.trans {g : Addr} {H H1 H2 : Hp} (a : But g H H1) (b : But g H1 H2) : But g H H2 := fun c o n h => b c o n (a c o n h)
theorem But.same {g : Addr} {H H1 H2 : Hp} (a : But g H H1) (b : Same H1 H2) : But g H H2 := fun c o n h => b c o (a c o n h)
theorem But.of {g : Addr} {H H1 : Hp} (b : Same H H1) : But g H H1 := fun c o _ h => b c o h
theorem But.upd {g : Addr} {H H1 : Hp} {o : HO} (a : But g H H1) : But g H (upd H1 g o) := fun c u n h => by
  rw [upd_ne n]
  exact a c u n h
theorem But.free {g : Addr} {H H1 : Hp} (a : But g H H1) {p : Addr} (n : p ≠ g) (h : H1 p = none) : H p = none := by
  cases e : H p with
  | none => rfl
  | some o => rw [a p o n e] at h; cases h
/-- what is changed was not there at first -/
theorem But.fresh {g : Addr} {H H1 H2 : Hp} (s : Same H H1) (n : H g = none) (b : But g H1 H2) : Same H H2 := fun c o h => b c o (ne_of_none h n) (s c o h)
theorem GenAt.mono {H : Hp} {g : Addr} {n m : Nat} (h : GenAt H g n) (l : n ≤ m) : GenAt H g m := by
  obtain ⟨x, y, z, a, b, c⟩ := h
  exact ⟨x, y, z, a, b, by omega⟩
theorem GenAt.same {H H' : Hp} {g : Addr} {n : Nat} (h : GenAt H g n) (s : Same H H') : GenAt H' g n := by
  obtain ⟨x, y, z, a, b⟩ := h
  exact ⟨x, y, z, s _ _ a, b⟩
theorem GenAt.ne {H : Hp} {g : Addr} {n : Nat} {p : Addr} (h : GenAt H g n) (np : H p = none) : p ≠ g := by
  obtain ⟨x, y, z, a, _⟩ := h
  exact (ne_of_none a np).symm
theorem small_2900 {b : Int} (h : b ≤ 2 ^ 60) : b < 2 ^ 2900 := by omega
theorem pow_pos' (w : Nat) : (0 : Int) < 2 ^ w := Int.pow_pos (by decide)
theorem pow2_le {k m : Nat} (h : k ≤ m) : (2 : Int) ^ k ≤ 2 ^ m := by
  have e := Nat.pow_le_pow_right (show 0 < 2 by decide) h
  have e2 : ((2 ^ k : Nat) : Int) ≤ ((2 ^ m : Nat) : Int) := Int.ofNat_le.mpr e
  rw [Int.natCast_pow, Int.natCast_pow] at e2
  exact e2
def sp_law_cell (K : PySem.W.Frag) : Sp := fun vs H Q _ => ∃ (a : Addr) (ns : List Int) (i : Nat), vs = [.ref a, .int i] ∧ SqL K H a (ns.map V.int) ∧ ∀ (n : Int) H', Same H H' → Q (.int n) H'
theorem G_law_cell (T : Top K mg) : FnOk P w K mg base CX0 1 T.f_law_cell T.fd_law_cell ["_law_script", "_law_index"] (sp_law_cell K) := by
  refine T.F_law_cell.ok sc_law_cell (fun vs H Q E h => by obtain ⟨a, ns, i, rfl, _⟩ := h; rfl) (fun cdv A outer s H vs Q E hr h => ?_)
  obtain ⟨a, ns, i, rfl, hS, q⟩ := h
  refine ⟨_, PSs.nox (pss_cons (ps_if (pt_cmpR op_lt (pv 1) (pe_callB (k_len K rfl) (by rfl) T.n_len (by decide +kernel) (pa_cons (pv 0) pa_nil)) (nomark _))
    (pss_one (ps_ret (pe_ix (k_ixL K rfl) (pv 0) (pv 1) (fun _ _ => rfl))))
    pss_nil)
  (pss_one (ps_ret (pe_op op_mod (pe_callB (k_sum K rfl rfl) (by rfl) T.n_sum (by decide +kernel) (pa_cons (pe_slice (k_slL K rfl) (pv 0) po_none (po_some pe_int)) pa_nil)) pe_int)))), ?_⟩
  refine ⟨_, rfl, _, rfl, a, _, rfl, .inl hS, _, _, rfl, rfl, _, rfl, ite2 (fun e => ?_) (fun e => ?_)⟩
  · have e1 : (i : Int) < (((ns.map V.int).length : Nat) : Int) := of_decide_eq_true e
    rw [List.length_map] at e1
    have hi : i < ns.length := by omega
    refine ⟨_, rfl, _, rfl, a, _, _, .int ns[i], rfl, rfl, hS, atI_nat (by rw [List.getElem?_map, List.getElem?_eq_getElem hi]; rfl), ?_⟩
    exact q _ _ (Same.refl _)
  · refine ⟨_, rfl, _, rfl, a, _, rfl, hS, fun p np => ?_⟩
    have ec : ∃ ms : List Int, cutV (ns.map V.int) none (some 1) = ms.map V.int := by
      unfold cutV
      exact ⟨(ns.drop (HT.sIx (ns.map V.int).length 0 none)).take (HT.sIx (ns.map V.int).length (ns.map V.int).length (some 1) - HT.sIx (ns.map V.int).length 0 none), by rw [List.map_take, List.map_drop]⟩
    obtain ⟨ms, em⟩ := ec
    refine ⟨p, ms, rfl, .inl (.inl (by rw [upd_same, em])), _, _, rfl, rfl, (by show (0 : Int) < 1000003; decide), ?_⟩
    exact q _ _ (same_upd np)
theorem cmul_mod (x m j : Int) (h0 : 0 < m) (h1 : m ≤ 2 ^ 60) : CMul (x % m) j := by
  have a := Int.emod_nonneg x (show m ≠ 0 by omega)
  have b := Int.emod_lt_of_pos x h0
  exact .inl ⟨by omega, by omega⟩
def sp_law_hash : Sp := fun vs H Q _ => ∃ i j : Int, vs = [.int i, .int j] ∧ 0 ≤ j ∧ j < 2 ^ 60 ∧ ∀ n : Int, Q (.int n) H
theorem G_law_hash (T : Top K mg) : FnOk P w K mg base CX0 1 T.f_law_hash T.fd_law_hash ["_law_seed", "_law_index"] sp_law_hash := by
  refine T.F_law_hash.ok sc_law_hash (fun vs H Q E h => by obtain ⟨i, j, rfl, _⟩ := h; rfl) (fun cdv A outer s H vs Q E hr h => ?_)
  obtain ⟨i, j, rfl, h0, h1, q⟩ := h
  refine ⟨_, PSs.nox (pss_cons (ps_set (i := 2) sc_law_hash.nd rfl (by first | exact Or.inl rfl | exact Or.inr rfl) (pe_op op_mod (pe_callTy call_int1 (by rfl) T.n_int (by decide +kernel) (pa_cons (pe_op op_add (pe_op op_add (pe_op op_add (pe_op op_mul (pv 0) pe_int) (pe_op op_mul (pe_op op_mul pe_int (pv 1)) (pv 1))) (pe_op op_mul pe_int (pv 1))) pe_int) pa_nil)) pe_int))
  (pss_cons (ps_set (i := 2) sc_law_hash.nd rfl (by first | exact Or.inl rfl | exact Or.inr rfl) (pe_op op_mod (pe_callTy call_int1 (by rfl) T.n_int (by decide +kernel) (pa_cons (pe_op op_add (pe_op op_add (pe_op op_mul (pv 2) (pv 2)) (pe_op op_mul pe_int (pv 1))) pe_int) pa_nil)) pe_int))
  (pss_one (ps_ret (pe_op op_mod (pe_callTy call_int1 (by rfl) T.n_int (by decide +kernel) (pa_cons (pe_op op_mul (pv 2) pe_int) pa_nil)) pe_int))))), ?_⟩
  refine ⟨_, rfl, _, _, rfl, rfl, .inr ⟨by decide, by decide⟩, _, rfl, _, _, rfl, rfl, .inl ⟨by decide, by decide⟩, _, rfl, _, _, rfl, rfl, .inr ⟨by omega, by omega⟩, _, _, rfl, rfl, _, rfl, _, _, rfl, rfl, .inl ⟨by decide, by decide⟩, _, _, rfl, rfl, _, _, rfl, rfl,
    .inl ⟨_, rfl, _, _, rfl, rfl, (by show (0 : Int) < _; decide), ?_⟩⟩
  refine ⟨_, rfl, _, rfl, _, _, rfl, rfl, cmul_mod _ _ _ (by decide) (by decide), _, rfl, _, _, rfl, rfl, .inl ⟨by decide, by decide⟩, _, _, rfl, rfl, _, _, rfl, rfl, .inl ⟨_, rfl, _, _, rfl, rfl, (by show (0 : Int) < _; decide), ?_⟩⟩
  refine ⟨_, rfl, _, _, rfl, rfl, .inr ⟨by decide, by decide⟩, .inl ⟨_, rfl, _, _, rfl, rfl, (by show (0 : Int) < _; decide), ?_⟩⟩
  exact q _

def sp_law_generator (K : PySem.W.Frag) : Sp := fun vs H Q _ => ∃ (a : Addr) (ns : List Int) (i : Nat), vs = [.ref a, .int i] ∧ SqL K H a (ns.map V.int) ∧ ∀ H' g, Same H H' → H g = none → GenAt H' g (1000 * i) → Q (.ref g) H'
theorem G_law_generator (T : Top K mg) : FnOk P w K mg base CX0 2 T.f_law_generator T.fd_law_generator ["_law_script", "_law_index"] (sp_law_generator K) := by
  refine T.F_law_generator.ok sc_law_generator (fun vs H Q E h => by obtain ⟨a, ns, i, rfl, _⟩ := h; rfl) (fun cdv A outer s H vs Q E hr h => ?_)
  obtain ⟨a, ns, i, rfl, hS, q⟩ := h
  refine ⟨_, PSs.nox (pss_cons (ps_set (i := 2) sc_law_generator.nd rfl (by first | exact Or.inl rfl | exact Or.inr rfl) (pe_call (G_law_cell T) (hr.mono (by decide)) (by rfl) T.g_law_cell T.F_law_cell.kp T.b_law_cell .nil pass0 (pa_cons (pv 0) (pa_cons (pv 1) pa_nil))))
  (pss_one (ps_ret (pe_lst (pa_cons (pe_op op_mod (pe_callTy call_int1 (by rfl) T.n_int (by decide +kernel) (pa_cons (pe_callB (call_max2 rfl) (by rfl) T.n_max (by decide +kernel) (pa_cons (pe_op op_sub (pv 2) (pe_op op_powW pe_int pe_int)) (pa_cons pe_int pa_nil))) pa_nil)) (pe_op op_powW (pe_op op_powW pe_int pe_int) pe_int)) (pa_cons (pe_op op_mod (pe_callTy call_int1 (by rfl) T.n_int (by decide +kernel) (pa_cons (pv 2) pa_nil)) pe_int) (pa_cons (pe_op op_mul pe_int (pv 1)) pa_nil))))))), ?_⟩
  refine ⟨_, rfl, _, rfl, a, ns, i, rfl, hS, fun n H1 s1 => ?_⟩
  refine ⟨_, rfl, _, _, rfl, rfl, ⟨by decide, by decide +kernel⟩, _, _, rfl, rfl, _, _, rfl, .inl ⟨_, rfl, _, _, rfl, rfl, ⟨by decide, by decide +kernel⟩, _, _, rfl, rfl, ⟨by decide, by decide +kernel⟩, _, _, rfl, rfl, (by show (0 : Int) < _; decide +kernel), ?_⟩⟩
  refine ⟨_, rfl, .inl ⟨_, rfl, _, _, rfl, rfl, (by show (0 : Int) < _; decide), ?_⟩⟩
  refine ⟨_, rfl, _, _, rfl, rfl, .inl ⟨by decide, by decide⟩, (show 3 ≤ sizeLine by decide), fun g ng => ?_⟩
  exact q _ g (s1.trans (same_upd ng)) (s1.free ng) ⟨_, _, _, upd_same, by omega, by omega⟩
def sp_law_random : Sp := fun vs H Q _ => ∃ (g : Addr) (b : Int) (n : Nat), vs = [.ref g, .int b] ∧ GenAt H g n ∧ n ≤ 10 ^ 12 ∧ 0 < b ∧ b < 2 ^ 2900 ∧ ∀ (d : Int) H', 0 ≤ d → d < b → GenAt H' g (n + 100) → But g H H' → Q (.int d) H'
theorem G_law_random (T : Top K mg) : FnOk P w K mg base CX0 2 T.f_law_random T.fd_law_random ["_law_generator_here", "_law_bound"] sp_law_random := by
  refine T.F_law_random.ok sc_law_random (fun vs H Q E h => by obtain ⟨g, b, n, rfl, _⟩ := h; rfl) (fun cdv A outer s H vs Q E hr h => ?_)
  obtain ⟨g, b, n, rfl, ⟨x, y, z, hg, z0, z1⟩, hn, b0, b1, q⟩ := h
  refine ⟨_, PSs.nox (pss_cons (ps_if (pt_cmpR op_gt (pe_ix (k_ixL K rfl) (pv 0) pe_int (fun _ _ => rfl)) pe_int (nomark _))
    (pss_cons (ps_set (i := 2) sc_law_random.nd rfl (by first | exact Or.inl rfl | exact Or.inr rfl) (pe_op op_mod (pe_callTy call_int1 (by rfl) T.n_int (by decide +kernel) (pa_cons (pe_ix (k_ixL K rfl) (pv 0) pe_int (fun _ _ => rfl)) pa_nil)) (pv 1)))
  (pss_cons (ps_asg (pe_op op_fdivW (pe_ix (k_ixL K rfl) (pv 0) pe_int (fun _ _ => rfl)) (pv 1)) (pg_sub (pv 0) pe_int set_list))
  (pss_one (ps_ret (pv 2)))))
    pss_nil)
  (pss_cons (ps_set (i := 2) sc_law_random.nd rfl (by first | exact Or.inl rfl | exact Or.inr rfl) pe_int)
  (pss_cons (ps_for PassesOwn.never rfl (pi_range1 (by rfl) T.n_range (pa_cons (pe_op op_add pe_int (pe_op op_fdivW (pe_bits (pv 1)) pe_int)) pa_nil)) (pg_name (i := 3) sc_law_random.nd rfl (by first | exact Or.inl rfl | exact Or.inr rfl))
    (pss_cons (ps_asg (pe_op op_add (pe_ix (k_ixL K rfl) (pv 0) pe_int (fun _ _ => rfl)) pe_int) (pg_sub (pv 0) pe_int set_list))
  (pss_one (ps_set (i := 2) sc_law_random.nd rfl (by first | exact Or.inl rfl | exact Or.inr rfl) (pe_op op_add (pe_op op_mul (pv 2) pe_int) (pe_call (G_law_hash T) (hr.mono (by decide)) (by rfl) T.g_law_hash T.F_law_hash.kp T.b_law_hash .nil pass0 (pa_cons (pe_ix (k_ixL K rfl) (pv 0) pe_int (fun _ _ => rfl)) (pa_cons (pe_ix (k_ixL K rfl) (pv 0) pe_int (fun _ _ => rfl)) pa_nil))))))))
  (pss_one (ps_ret (pe_op op_mod (pe_callTy call_int1 (by rfl) T.n_int (by decide +kernel) (pa_cons (pv 2) pa_nil)) (pv 1))))))), ?_⟩
  have a0 : ∀ x y z : Int, atI [V.int x, .int y, .int z] 0 = some (.int x) := fun _ _ _ => rfl
  have a1 : ∀ x y z : Int, atI [V.int x, .int y, .int z] 1 = some (.int y) := fun _ _ _ => rfl
  have a2 : ∀ x y z : Int, atI [V.int x, .int y, .int z] 2 = some (.int z) := fun _ _ _ => rfl
  have hS : SqL K H g [.int x, .int y, .int z] := .inl (.inl hg)
  have nb : b.natAbs < 2 ^ 2900 := by
    have e : ((b.natAbs : Nat) : Int) < ((2 ^ 2900 : Nat) : Int) := by
      rw [Int.natCast_pow]
      omega
    exact Int.ofNat_lt.mp e
  refine ⟨_, rfl, g, _, 0, _, rfl, rfl, hS, a0 x y z, _, _, rfl, rfl, _, rfl, ite2 (fun e => ?_) (fun e => ?_)⟩
  · refine ⟨_, rfl, g, _, 0, _, rfl, rfl, hS, a0 x y z, .inl ⟨_, rfl, _, rfl, _, _, rfl, rfl, b0, ?_⟩⟩
    refine ⟨_, rfl, g, _, 0, _, rfl, rfl, hS, a0 x y z, _, rfl, _, _, rfl, rfl, wide_div b0 nb (by decide) (by decide), _, rfl, g, _, 0, 0, rfl, rfl, hg, rfl, _, rfl, ?_⟩
    exact q _ _ (Int.emod_nonneg _ (by omega)) (Int.emod_lt_of_pos _ b0) ⟨_, _, _, upd_same, z0, by omega⟩ (But.upd But.refl)
  · have hb : Builtin.Int.intBits b ≤ 2900 := PyProof.Rows.intBits_le nb
    have hq0 : (0 : Int) ≤ ((Builtin.Int.intBits b : Nat) : Int) / 30 := Int.ediv_nonneg (Int.natCast_nonneg _) (by decide)
    have hq1 : ((Builtin.Int.intBits b : Nat) : Int) / 30 ≤ 97 := by omega
    refine ⟨_, rfl, _, rfl, _, _, rfl, rfl, ⟨by decide, by decide +kernel⟩, _, _, rfl, rfl, _, rfl, by omega, by omega, ?_⟩
    refine for_range (lo := 0) (n := (1 + ((Builtin.Int.intBits b : Nat) : Int) / 30).toNat) (fun i σ H1 => ∃ (d z' : Int) (v : Option V), σ = [some (.ref g), some (.int b), some (.int d), v] ∧ H1 g = some (.lst [.int x, .int y, .int z']) ∧ 0 ≤ z' ∧ z' ≤ (n : Int) + (i : Int) ∧ But g H H1)
      ⟨0, z, none, rfl, hg, z0, by omega, But.refl⟩ ?_ ?_
    · rintro i σ H1 hi ⟨d, z', v, rfl, hg1, y0, y1, b1⟩
      have hS1 : SqL K H1 g [.int x, .int y, .int z'] := .inl (.inl hg1)
      refine ⟨_, rfl, g, _, 2, _, rfl, rfl, hS1, a2 x y z', _, _, rfl, rfl, _, rfl, g, _, 2, 2, rfl, rfl, hg1, rfl, ?_⟩
      have hS2 : SqL K (upd H1 g (.lst [.int x, .int y, .int (z' + 1)])) g [.int x, .int y, .int (z' + 1)] := .inl (.inl upd_same)
      refine ⟨_, rfl, _, _, rfl, rfl, .inr ⟨by decide, by decide⟩, _, rfl, g, _, 1, _, rfl, rfl, hS2, a1 _ _ _, _, rfl, g, _, 2, _, rfl, rfl, hS2, a2 _ _ _, _, _, rfl, by omega, by omega, fun r => ?_⟩
      exact ⟨_, _, rfl, rfl, _, z' + 1, _, rfl, upd_same, by omega, by omega, But.upd b1⟩
    · rintro σ H1 ⟨d, z', v, rfl, hg1, y0, y1, b1⟩
      refine ⟨_, rfl, .inl ⟨_, rfl, _, rfl, _, _, rfl, rfl, b0, ?_⟩⟩
      exact q _ _ (Int.emod_nonneg _ (by omega)) (Int.emod_lt_of_pos _ b0) ⟨_, _, _, hg1, y0, by omega⟩ b1
/-- a comprehension over a range that draws whole numbers -/
theorem lc_drawR {lo : Int} {n : Nat} {j : Nat} {te : TE} {vs : List Nat} {σ : L2.St} {H1 : Hp} {D : Addr} {Qd : Hp → Prop} (g : Addr) (m step : Nat) (P : Int → Prop) (nD : H1 D = none) (hG : GenAt H1 g m) (hz : n < sizeLine)
    (hw : ∀ x, wipe ((wipe σ vs).set j (some x)) vs = wipe σ vs)
    (hs : ∀ (i : Nat) (H' : Hp), i < n → But g H1 H' → GenAt H' g (m + step * i) → ∀ Qt : V → Hp → Prop, (∀ (y : Int) H'', P y → But g H' H'' → GenAt H'' g (m + step * (i + 1)) → Qt (.int y) H'') → te ((wipe σ vs).set j (some (.int (lo + (i : Int))))) H' Qt)
    (hd : ∀ H' (ys : List Int), But g H1 H' → GenAt H' g (m + step * n) → H' D = some (.lst (ys.map V.int)) → ys.length = n → (∀ y ∈ ys, P y) → Qd H') :
    ∃ W : Nat → Nat → Hp → Prop, (∃ m, W 0 m (upd H1 D (.lst []))) ∧ ∀ i m H, W i m H →
      ((Itr lo n).stop i H ∧ Qd H) ∨ ((Itr lo n).go i H ∧ ∃ Nx : Hp → Prop, (∀ H', Nx H' → ∃ m', m' < m ∧ W (i + 1) m' H') ∧ ∀ x H', (Itr lo n).yld i H x H' → gName j x (wipe σ vs) H' fun σ2 H2 => wipe σ2 vs = wipe σ vs ∧ tYes σ2 H2 fun b H3 =>
        if b = true then te σ2 H3 fun y H4 => ∃ acc, H4 D = some (.lst acc) ∧ acc.length < sizeLine ∧ Nx (upd H4 D (.lst (acc ++ [y]))) else Nx H3) := by
  have nDg : D ≠ g := hG.ne nD
  refine lc_range (lo := lo) (n := n) (fun i H => ∃ ys : List Int, But g H1 H ∧ GenAt H g (m + step * i) ∧ H D = some (.lst (ys.map V.int)) ∧ ys.length = i ∧ ∀ y ∈ ys, P y)
    ⟨[], But.of (same_upd nD), hG.same (same_upd nD), upd_same, rfl, (fun _ h => nomatch h)⟩ ?_ ?_
  · rintro i H hi ⟨ys, b, hg, hD, hl, hP⟩
    refine ⟨hw _, ?_⟩
    unfold tYes
    dsimp only
    rw [if_pos (show true = true from rfl)]
    refine hs i H hi b hg _ fun y H2 py b2 hg2 => ?_
    refine ⟨_, b2 _ _ nDg hD, by rw [List.length_map]; omega, ys ++ [y], ?_, ?_, ?_, ?_, ?_⟩
    · intro c o nc hc
      rw [upd_ne (ne_of_none hc nD)]
      exact b2 _ _ nc (b _ _ nc hc)
    · obtain ⟨x1, x2, x3, e1, e2⟩ := hg2
      exact ⟨x1, x2, x3, by rw [upd_ne nDg.symm]; exact e1, e2⟩
    · rw [upd_same, List.map_append]
      rfl
    · rw [List.length_append, hl]
      rfl
    · intro z hz
      rcases List.mem_append.mp hz with hz | hz
      · exact hP z hz
      · rw [List.mem_singleton.mp hz]
        exact py
  · rintro H ⟨ys, b, hg, hD, hl, hP⟩
    exact hd H ys b hg hD hl hP
end
end My

namespace My
open PySem PySem.Spec PyProof.Rows L2 Pre
/-! ### min and max of a list of pairs of whole numbers -/
def pairD (p : Int × Int) : PyData := .tuple [.int p.1, .int p.2]
def ltP2 (p q : Int × Int) : Prop := p.1 < q.1 ∨ (p.1 = q.1 ∧ p.2 < q.2)
instance (p q : Int × Int) : Decidable (ltP2 p q) := by unfold ltP2; infer_instance
theorem pair_lt (p q : Int × Int) : PySem.W.dataLt (pairD p) (pairD q) = decide (ltP2 p q) := PySem.W.dataLt_ii p.1 p.2 q.1 q.2
theorem ltP2_trans {p q r : Int × Int} (h : ¬ ltP2 q p) (k : ¬ ltP2 r q) : ¬ ltP2 r p := by
  unfold ltP2 at *
  omega
def minP (p : Int × Int) (ps : List (Int × Int)) : Int × Int := ps.foldl (fun a y => if ltP2 y a then y else a) p
def maxP (p : Int × Int) (ps : List (Int × Int)) : Int × Int := ps.foldl (fun a y => if ltP2 a y then y else a) p
theorem minP_data : ∀ (ps : List (Int × Int)) (p : Int × Int), PySem.W.minD (pairD p) (ps.map pairD) = pairD (minP p ps)
  | [], _ => rfl
  | q :: ps, p => by
    show PySem.W.minD (if PySem.W.dataLt (pairD q) (pairD p) = true then pairD q else pairD p) (ps.map pairD) = pairD (minP (if ltP2 q p then q else p) ps)
    rw [pair_lt]
    by_cases h : ltP2 q p
    · rw [decide_eq_true h, if_pos rfl, if_pos h, minP_data ps q]
    · rw [decide_eq_false h, if_neg (by decide), if_neg h, minP_data ps p]
theorem maxP_data : ∀ (ps : List (Int × Int)) (p : Int × Int), PySem.W.maxD (pairD p) (ps.map pairD) = pairD (maxP p ps)
  | [], _ => rfl
  | q :: ps, p => by
    show PySem.W.maxD (if PySem.W.dataLt (pairD p) (pairD q) = true then pairD q else pairD p) (ps.map pairD) = pairD (maxP (if ltP2 p q then q else p) ps)
    rw [pair_lt]
    by_cases h : ltP2 p q
    · rw [decide_eq_true h, if_pos rfl, if_pos h, maxP_data ps q]
    · rw [decide_eq_false h, if_neg (by decide), if_neg h, maxP_data ps p]
theorem minP_spec : ∀ (ps : List (Int × Int)) (p : Int × Int), minP p ps ∈ p :: ps ∧ ∀ q ∈ p :: ps, ¬ ltP2 q (minP p ps)
  | [], p => ⟨List.mem_cons_self, fun q hq => by
      rw [List.mem_singleton.mp hq]
      show ¬ ltP2 p p
      unfold ltP2
      omega⟩
  | r :: ps, p => by
    show minP (if ltP2 r p then r else p) ps ∈ _ ∧ ∀ q ∈ p :: r :: ps, ¬ ltP2 q (minP (if ltP2 r p then r else p) ps)
    by_cases h : ltP2 r p
    · rw [if_pos h]
      obtain ⟨h1, h2⟩ := minP_spec ps r
      refine ⟨List.mem_cons_of_mem _ h1, fun q hq => ?_⟩
      rcases List.mem_cons.mp hq with rfl | hq
      · have := h2 r List.mem_cons_self
        exact fun z => this (by unfold ltP2 at *; omega)
      · exact h2 q hq
    · rw [if_neg h]
      obtain ⟨h1, h2⟩ := minP_spec ps p
      refine ⟨?_, fun q hq => ?_⟩
      · rcases List.mem_cons.mp h1 with e | e
        · rw [e]; exact List.mem_cons_self
        · exact List.mem_cons_of_mem _ (List.mem_cons_of_mem _ e)
      · rcases List.mem_cons.mp hq with rfl | hq
        · exact h2 q List.mem_cons_self
        · rcases List.mem_cons.mp hq with rfl | hq
          · have := h2 p List.mem_cons_self
            exact fun z => this (by unfold ltP2 at *; omega)
          · exact h2 q (List.mem_cons_of_mem _ hq)
theorem maxP_spec : ∀ (ps : List (Int × Int)) (p : Int × Int), maxP p ps ∈ p :: ps ∧ ∀ q ∈ p :: ps, ¬ ltP2 (maxP p ps) q
  | [], p => ⟨List.mem_cons_self, fun q hq => by
      rw [List.mem_singleton.mp hq]
      show ¬ ltP2 p p
      unfold ltP2
      omega⟩
  | r :: ps, p => by
    show maxP (if ltP2 p r then r else p) ps ∈ _ ∧ ∀ q ∈ p :: r :: ps, ¬ ltP2 (maxP (if ltP2 p r then r else p) ps) q
    by_cases h : ltP2 p r
    · rw [if_pos h]
      obtain ⟨h1, h2⟩ := maxP_spec ps r
      refine ⟨List.mem_cons_of_mem _ h1, fun q hq => ?_⟩
      rcases List.mem_cons.mp hq with rfl | hq
      · have := h2 r List.mem_cons_self
        exact fun z => this (by unfold ltP2 at *; omega)
      · exact h2 q hq
    · rw [if_neg h]
      obtain ⟨h1, h2⟩ := maxP_spec ps p
      refine ⟨?_, fun q hq => ?_⟩
      · rcases List.mem_cons.mp h1 with e | e
        · rw [e]; exact List.mem_cons_self
        · exact List.mem_cons_of_mem _ (List.mem_cons_of_mem _ e)
      · rcases List.mem_cons.mp hq with rfl | hq
        · exact h2 q List.mem_cons_self
        · rcases List.mem_cons.mp hq with rfl | hq
          · have := h2 p List.mem_cons_self
            exact fun z => this (by unfold ltP2 at *; omega)
          · exact h2 q (List.mem_cons_of_mem _ hq)
theorem pairs_alike (ps : List (Int × Int)) : PySem.W.AlikeAll (ps.map pairD) := by
  refine ⟨fun x hx y hy => ?_, fun x hx => ?_⟩
  · obtain ⟨p, _, rfl⟩ := List.mem_map.mp hx
    obtain ⟨q, _, rfl⟩ := List.mem_map.mp hy
    rfl
  · obtain ⟨p, _, rfl⟩ := List.mem_map.mp hx
    exact fun z => nomatch z
theorem pairs_lay : ∀ ps : List (Int × Int), PyData.canLayAll0 (ps.map pairD) = true
  | [] => rfl
  | p :: ps => by simp [PyData.canLayAll0, PyData.canLay0, pairD, pairs_lay ps]
theorem pairs_depth : ∀ ps : List (Int × Int), PyData.depthAll (ps.map pairD) ≤ 2
  | [] => by simp [PyData.depthAll]
  | p :: ps => by
    have := pairs_depth ps
    simp only [List.map_cons, PyData.depthAll, pairD, PyData.depth]
    omega
/-- a list of pairs, at a -/
def PairsAt (K : PySem.W.Frag) (H : Hp) (a : Addr) (ps : List (Int × Int)) : Prop := ∃ as : List Addr, SqL K H a (as.map V.ref) ∧ as.length = ps.length ∧ ∀ (i : Nat) (t : Addr) (p : Int × Int), as[i]? = some t → ps[i]? = some p → SqT K H t [.int p.1, .int p.2]
theorem pairs_dp {K : PySem.W.Frag} {H : Hp} : ∀ {as : List Addr} {ps : List (Int × Int)}, as.length = ps.length → (∀ (i : Nat) (t : Addr) (p : Int × Int), as[i]? = some t → ps[i]? = some p → SqT K H t [.int p.1, .int p.2]) → DpAll K H (as.map V.ref) (ps.map pairD)
  | [], [], _, _ => .nil
  | [], _ :: _, h, _ => by simp at h
  | _ :: _, [], h, _ => by simp at h
  | a :: as, p :: ps, h, k => .cons (.tup (k 0 a p rfl rfl) (.cons (.int _) (.cons (.int _) .nil))) (pairs_dp (by simpa using h) fun i t q ht hq => k (i + 1) t q (by simpa using ht) (by simpa using hq))
def rMnP (K : PySem.W.Frag) (best : Int × Int → List (Int × Int) → Int × Int) : List V → Hp → VK → Prop := fun xs H Q => ∃ (a : Addr) (p : Int × Int) (ps : List (Int × Int)), xs = [.ref a] ∧ PairsAt K H a (p :: ps) ∧ ∀ t, SqT K H t [.int (best p ps).1, .int (best p ps).2] → Q (.ref t) H
section
variable {X : Cx} {K : PySem.W.Frag}
theorem pick {H : Hp} {s : Shared} {as : List Addr} {ps : List (Int × Int)} {its : List Value} {i : Nat} {v : Value} {h' : Heap} {bs cs : List Addr} {b : Int × Int} (hl : as.length = ps.length)
    (hT : ∀ (i : Nat) (t : Addr) (p : Int × Int), as[i]? = some t → ps[i]? = some p → SqT K H t [.int p.1, .int p.2]) (rv : Vals (as.map V.ref) its) (hr : ReadsAll s.heap its (ps.map pairD) cs) (hv : its.toArray[i]? = some v) (rd : Reads h' v (pairD b) bs)
    (hk : ∀ b o, s.heap.get? b = some o → h'.get? b = some o) : ∃ t, v = .ref t ∧ SqT K H t [.int b.1, .int b.2] := by
  have hv' : its[i]? = some v := by simpa using hv
  have hil : i < its.length := (List.getElem?_eq_some_iff.mp hv').1
  have hvl := rv.length
  rw [List.length_map] at hvl
  obtain ⟨u, hu, ru⟩ := rv.get (show (as.map V.ref)[i]? = some (.ref (as[i]'(by omega))) by rw [List.getElem?_map, List.getElem?_eq_getElem (by omega)]; rfl)
  rw [hv'] at hu
  cases hu
  have hp : ps[i]? = some (ps[i]'(by omega)) := List.getElem?_eq_getElem (by omega)
  obtain ⟨ds, r1, _, _, _⟩ := PySem.W.readsAll_at hr i v hv'
  have e1 : (ps.map pairD).getD i .none = pairD (ps[i]'(by omega)) := by
    rw [List.getD_eq_getElem?_getD, List.getElem?_map, hp]
    rfl
  rw [e1] at r1
  have e2 := PySem.SeqAt.Reads.unique (pairD b) _ v _ _ (by simp [pairD, PyData.canLay0, PyData.canLayAll0]) rd (Reads.keeps hk r1)
  have e3 : b = ps[i]'(by omega) := by
    unfold pairD at e2
    injection e2 with e2
    injection e2 with e4 e5
    injection e5 with e5 _
    injection e4 with e4
    injection e5 with e5
    exact Prod.ext e4 e5
  refine ⟨as[i]'(by omega), ru, ?_⟩
  rw [e3]
  exact hT i _ _ (List.getElem?_eq_getElem (by omega)) hp
theorem k_minP (K : PySem.W.Frag) (h : X.K = K) (hc : X.calm = true) (hu : X.A.units + 65 < cLine) : CallR X (.builtin "min") (rMnP K minP) := by
  subst h
  intro pins s σ H xs us Q I r h
  obtain ⟨a, p, ps, rfl, ⟨as, hS, hl, hT⟩, q⟩ := h
  obtain ⟨its, rv, hL, _⟩ := I.list hS
  rw [Vals.ref1 r]
  obtain ⟨cs, hr⟩ := Dp.readsAll I _ _ its (pairs_dp hl hT) rv
  have hd := pairs_depth (p :: ps)
  refine PySem.W.min_list_data (I.ok.hd hc) hL.isList (show ReadsAll s.heap its.toArray.toList (pairD p :: ps.map pairD) cs by simpa using hr) (pairs_alike (p :: ps)) (by rw [List.map_cons] at hd; omega) fun i v h' tk bs hv rd hk => ?_
  rw [minP_data] at rd
  obtain ⟨t, rfl, ht⟩ := pick hl hT rv hr hv rd hk
  exact ⟨.ref t, H, I.kept hk, rfl, q t ht⟩
theorem k_maxP (K : PySem.W.Frag) (h : X.K = K) (hc : X.calm = true) (hu : X.A.units + 65 < cLine) : CallR X (.builtin "max") (rMnP K maxP) := by
  subst h
  intro pins s σ H xs us Q I r h
  obtain ⟨a, p, ps, rfl, ⟨as, hS, hl, hT⟩, q⟩ := h
  obtain ⟨its, rv, hL, _⟩ := I.list hS
  rw [Vals.ref1 r]
  obtain ⟨cs, hr⟩ := Dp.readsAll I _ _ its (pairs_dp hl hT) rv
  have hd := pairs_depth (p :: ps)
  refine PySem.W.max_list_data (I.ok.hd hc) hL.isList (show ReadsAll s.heap its.toArray.toList (pairD p :: ps.map pairD) cs by simpa using hr) (pairs_alike (p :: ps)) (by rw [List.map_cons] at hd; omega) fun i v h' tk bs hv rd hk => ?_
  rw [maxP_data] at rd
  obtain ⟨t, rfl, ht⟩ := pick hl hT rv hr hv rd hk
  exact ⟨.ref t, H, I.kept hk, rfl, q t ht⟩
theorem huM {k : Nat} {A : Around} (r : Room k A) : A.units + 65 < cLine := by have := r.un; omega
end
end My

namespace My
open PySem PySem.Spec PyProof.Rows L2 Pre
/-- a comprehension over a list that makes new things: R tells what is known of the i-th -/
theorem lc_relL {K : PySem.W.Frag} {a : Addr} {xs : List V} {j : Nat} {te : TE} {vs : List Nat} {σ : L2.St} {H1 : Hp} {D : Addr} {Qd : Hp → Prop} (R : Nat → V → Hp → Prop) (nD : H1 D = none) (hS : SqL K H1 a xs) (hz : xs.length < sizeLine)
    (mono : ∀ (i : Nat) (y : V) (H H' : Hp), Pre.Off D H H' → R i y H → R i y H') (hw : ∀ x, wipe ((wipe σ vs).set j (some x)) vs = wipe σ vs)
    (hs : ∀ (i : Nat) (x : V) (H' : Hp) (zs : List V), xs[i]? = some x → Same H1 H' → H' D = some (.lst zs) → ∀ Qt : V → Hp → Prop, (∀ y H'', Same H' H'' → R i y H'' → Qt y H'') → te ((wipe σ vs).set j (some x)) H' Qt)
    (hd : ∀ H' ys, Same H1 H' → H' D = some (.lst ys) → ys.length = xs.length → (∀ (i : Nat) (y : V), ys[i]? = some y → R i y H') → Qd H') :
    ∃ W : Nat → Nat → Hp → Prop, (∃ m, W 0 m (upd H1 D (.lst []))) ∧ ∀ i m H, W i m H →
      ((Itl K a).stop i H ∧ Qd H) ∨ ((Itl K a).go i H ∧ ∃ Nx : Hp → Prop, (∀ H', Nx H' → ∃ m', m' < m ∧ W (i + 1) m' H') ∧ ∀ x H', (Itl K a).yld i H x H' → gName j x (wipe σ vs) H' fun σ2 H2 => wipe σ2 vs = wipe σ vs ∧ tYes σ2 H2 fun b H3 =>
        if b = true then te σ2 H3 fun y H4 => ∃ acc, H4 D = some (.lst acc) ∧ acc.length < sizeLine ∧ Nx (upd H4 D (.lst (acc ++ [y]))) else Nx H3) := by
  refine lc_list (K := K) (a := a) (xs := xs) (RelPv R H1 D) ⟨[], same_upd nD, upd_same, rfl, fun k y h => by simp at h⟩ (fun i H _ ⟨_, s, _⟩ => s.seq hS) ?_ ?_
  · rintro i x H hx ⟨ys, s, hD, hl, hR⟩
    have hi : i < xs.length := (List.getElem?_eq_some_iff.mp hx).1
    refine ⟨hw _, ?_⟩
    unfold tYes
    dsimp only
    rw [if_pos (show true = true from rfl)]
    refine hs i x H ys hx s hD _ fun y H4 s4 r4 => ?_
    refine ⟨ys, s4 _ _ hD, by omega, ys ++ [y], same_over nD (s.trans s4), upd_same, by rw [List.length_append, hl]; rfl, fun k z hz => ?_⟩
    have off : Pre.Off D H4 (upd H4 D (.lst (ys ++ [y]))) := fun b o nb h => by rw [upd_ne nb]; exact h
    by_cases hk : k < ys.length
    · rw [List.getElem?_append_left hk] at hz
      exact mono k z H _ (fun b o nb h => off b o nb (s4 b o h)) (hR k z hz)
    · rw [List.getElem?_append_right (by omega)] at hz
      have hk2 : k - ys.length = 0 := by
        have h2 := (List.getElem?_eq_some_iff.mp hz).1
        rw [List.length_singleton] at h2
        omega
      rw [hk2] at hz
      cases hz
      have ek : k = i := by omega
      rw [ek]
      exact mono i y H4 _ off r4
  · rintro H ⟨ys, s, hD, hl, hR⟩
    exact hd H ys s hD hl hR
/-- a list of lists of whole numbers -/
def RowsIn (H : Hp) (p : Addr) (rows : List (List Int)) : Prop := ∃ as : List Addr, H p = some (.lst (as.map V.ref)) ∧ as.length = rows.length ∧ ∀ (i : Nat) (a : Addr) (r : List Int), as[i]? = some a → rows[i]? = some r → H a = some (.lst (r.map V.int))
theorem RowsIn.same {H H' : Hp} {p : Addr} {rows : List (List Int)} (h : RowsIn H p rows) (s : Same H H') : RowsIn H' p rows := by
  obtain ⟨as, h1, h2, h3⟩ := h
  exact ⟨as, s _ _ h1, h2, fun i a r ha hr => s _ _ (h3 i a r ha hr)⟩
section
variable {X : Cx}
theorem huD {k : Nat} {A : Around} (r : Room k A) : A.units + 65 < cLine := by have := r.un; omega
theorem k_inD (K : PySem.W.Frag) (h : X.K = K) (hu : X.A.units + 65 < cLine) : OpR X (compareOp .In) (rInD K) := by subst h; exact op_inD hu
theorem k_notInD (K : PySem.W.Frag) (h : X.K = K) (hu : X.A.units + 65 < cLine) : OpR X (compareOp .NotIn) (rNotInD K) := by subst h; exact op_notInD hu
theorem k_indexD (K : PySem.W.Frag) (h : X.K = K) (hu : X.A.units + 65 < cLine) : MtR X "list.index" (rIndexD K) := by subst h; exact mt_indexD hu
end
/-- rows as data -/
def rowD (r : List Int) : PyData := .list (r.map PyData.int)
theorem rows_dp {K : PySem.W.Frag} {H : Hp} : ∀ {as : List Addr} {rows : List (List Int)}, as.length = rows.length → (∀ (i : Nat) (a : Addr) (r : List Int), as[i]? = some a → rows[i]? = some r → H a = some (.lst (r.map V.int))) → DpAll K H (as.map V.ref) (rows.map rowD)
  | [], [], _, _ => .nil
  | [], _ :: _, h, _ => by simp at h
  | _ :: _, [], h, _ => by simp at h
  | a :: as, r :: rows, h, k => .cons (.lst (.inl (.inl (k 0 a r rfl rfl))) (Pre.dp_ints r)) (rows_dp (by simpa using h) fun i t q ht hq => k (i + 1) t q (by simpa using ht) (by simpa using hq))
theorem rowD_eqv (r q : List Int) : PyData.eqv (rowD r) (rowD q) = decide (r = q) := by
  unfold rowD
  rw [PyData.eqv, eqv_ints]
theorem rows_shaped (rows : List (List Int)) : SeqAt.shaped (.list (rows.map rowD)) = true := by
  have h1 : ∀ l : List (List Int), PyData.canLayAll0 (l.map rowD) = true := fun l => by
    induction l with
    | nil => rfl
    | cons r l ih =>
      show (PyData.canLay0 (rowD r) && PyData.canLayAll0 (l.map rowD)) = true
      rw [ih]
      unfold rowD
      rw [PyData.canLay0, lay_ints]
      rfl
  have h2 : ∀ l : List (List Int), PyData.depthAll (l.map rowD) ≤ 1 := fun l => by
    induction l with
    | nil => simp [PyData.depthAll]
    | cons r l ih =>
      show PyData.depthAll (rowD r :: l.map rowD) ≤ 1
      rw [PyData.depthAll]
      unfold rowD at *
      rw [PyData.depth, depth_ints]
      omega
  show (PyData.canLay0 (.list (rows.map rowD)) && decide (PyData.depth (.list (rows.map rowD)) ≤ 64)) = true
  rw [Bool.and_eq_true]
  have := h2 rows
  exact ⟨by rw [PyData.canLay0]; exact h1 rows, decide_eq_true (by rw [PyData.depth]; omega)⟩
end My

namespace My
/-! ### the mathematics: prices by widths -/
def price (ns : List Int) (w : Nat) : Int := (ns.map fun n => n / 2 ^ w + 1 + (w : Int)).sum
def cc (ns : List Int) (w : Nat) : Int := (ns.map fun n => (n + 2 ^ w) / 2 ^ (w + 1)).sum
def Folds (ns : List Int) : Prop := ∀ n ∈ ns, 0 ≤ n ∧ n < 2 ^ 40
theorem half_step (n : Int) (w : Nat) : n / 2 ^ w - n / 2 ^ (w + 1) = (n + 2 ^ w) / 2 ^ (w + 1) := by
  have hp := pow_pos' w
  have e1 : n / 2 ^ (w + 1) = n / 2 ^ w / 2 := by
    rw [Int.pow_succ, Int.ediv_ediv_of_nonneg (Int.le_of_lt hp)]
  have e2 : (n + 2 ^ w) / 2 ^ (w + 1) = (n / 2 ^ w + 1) / 2 := by
    rw [Int.pow_succ, ← Int.ediv_ediv_of_nonneg (Int.le_of_lt hp), Int.add_ediv_of_dvd_right (Int.dvd_refl _), Int.ediv_self (Int.ne_of_gt hp)]
  rw [e1, e2]
  omega
theorem price_step : ∀ (ns : List Int) (w : Nat), price ns (w + 1) = price ns w + ns.length - cc ns w
  | [], _ => rfl
  | n :: r, w => by
    have ih := price_step r w
    have h := half_step n w
    unfold price cc at ih ⊢
    simp only [List.map_cons, List.sum_cons, List.length_cons]
    rw [ih]
    push_cast
    omega
theorem cc_anti : ∀ (ns : List Int), (∀ n ∈ ns, 0 ≤ n) → ∀ w, cc ns (w + 1) ≤ cc ns w
  | [], _, _ => Int.le_refl _
  | n :: r, h, w => by
    have ih := cc_anti r (fun x hx => h x (List.mem_cons_of_mem _ hx)) w
    have hn := h n List.mem_cons_self
    have hp := pow_pos' w
    have e1 : (n + 2 ^ w) / 2 ^ (w + 1) = (n / 2 ^ w + 1) / 2 := by
      rw [Int.pow_succ, ← Int.ediv_ediv_of_nonneg (Int.le_of_lt hp), Int.add_ediv_of_dvd_right (Int.dvd_refl _), Int.ediv_self (Int.ne_of_gt hp)]
    have hp2 := pow_pos' (w + 1)
    have e2 : (n + 2 ^ (w + 1)) / 2 ^ (w + 1 + 1) = (n / 2 ^ (w + 1) + 1) / 2 := by
      rw [Int.pow_succ 2 (w + 1), ← Int.ediv_ediv_of_nonneg (Int.le_of_lt hp2), Int.add_ediv_of_dvd_right (Int.dvd_refl _), Int.ediv_self (Int.ne_of_gt hp2)]
    have e3 : n / 2 ^ (w + 1) = n / 2 ^ w / 2 := by
      rw [Int.pow_succ, Int.ediv_ediv_of_nonneg (Int.le_of_lt hp)]
    have hq : 0 ≤ n / 2 ^ w := Int.ediv_nonneg hn (Int.le_of_lt hp)
    unfold cc at ih ⊢
    simp only [List.map_cons, List.sum_cons]
    rw [e1, e2, e3]
    omega
theorem cc_le (ns : List Int) (h : ∀ n ∈ ns, 0 ≤ n) (v : Nat) : ∀ d, cc ns (v + d) ≤ cc ns v
  | 0 => Int.le_refl _
  | d + 1 => Int.le_trans (cc_anti ns h (v + d)) (cc_le ns h v d)
theorem cc_40 : ∀ (ns : List Int), Folds ns → cc ns 40 = 0
  | [], _ => rfl
  | n :: r, h => by
    have ih := cc_40 r fun x hx => h x (List.mem_cons_of_mem _ hx)
    have hn := h n List.mem_cons_self
    have e : (n + 2 ^ 40) / 2 ^ (40 + 1) = 0 := Int.ediv_eq_zero_of_lt (by omega) (by omega)
    unfold cc at ih ⊢
    simp only [List.map_cons, List.sum_cons]
    rw [ih, e]
    rfl
theorem Folds.nn {ns : List Int} (h : Folds ns) : ∀ n ∈ ns, 0 ≤ n := fun n hn => (h n hn).1
/-- m is the least price, f the first and l the last width that has it -/
structure IsLeast (ns : List Int) (m : Int) (f l : Nat) : Prop where
  fl : f ≤ l
  l40 : l ≤ 40
  at_ : ∀ w, f ≤ w → w ≤ l → price ns w = m
  lo : ∀ w, w < f → m < price ns w
  hi : ∀ w, l < w → m < price ns w
theorem IsLeast.le {ns : List Int} {m : Int} {f l : Nat} (h : IsLeast ns m f l) (w : Nat) : m ≤ price ns w := by
  by_cases h1 : w < f
  · exact Int.le_of_lt (h.lo w h1)
  · by_cases h2 : l < w
    · exact Int.le_of_lt (h.hi w h2)
    · exact Int.le_of_eq (h.at_ w (by omega) (by omega)).symm
theorem IsLeast.uniq {ns : List Int} {m m' : Int} {f l f' l' : Nat} (a : IsLeast ns m f l) (b : IsLeast ns m' f' l') : m = m' ∧ f = f' ∧ l = l' := by
  have e : m = m' := Int.le_antisymm (by rw [← b.at_ f' (Nat.le_refl _) b.fl]; exact a.le f') (by rw [← a.at_ f (Nat.le_refl _) a.fl]; exact b.le f)
  subst e
  have z : ∀ {f l f' l' : Nat}, IsLeast ns m f l → IsLeast ns m f' l' → f ≤ f' ∧ l' ≤ l := fun {f l f' l'} a b => by
    constructor
    · by_cases h : f ≤ f'
      · exact h
      · have h1 := a.lo f' (by omega)
        rw [b.at_ f' (Nat.le_refl _) b.fl] at h1
        omega
    · by_cases h : l' ≤ l
      · exact h
      · have h1 := a.hi l' (by omega)
        rw [b.at_ l' b.fl (Nat.le_refl _)] at h1
        omega
  have h1 := z a b
  have h2 := z b a
  omega
theorem fall (ns : List Int) (f : Nat) (h : ∀ w, w < f → (ns.length : Int) < cc ns w) : ∀ d, d ≤ f → 0 < d → price ns f < price ns (f - d)
  | 0, _, h0 => absurd h0 (by omega)
  | d + 1, hd, _ => by
    have e := price_step ns (f - (d + 1))
    have hw := h (f - (d + 1)) (by omega)
    have e2 : f - (d + 1) + 1 = f - d := by omega
    rw [e2] at e
    by_cases h0 : d = 0
    · subst h0
      rw [Nat.sub_zero] at e
      omega
    · have ih := fall ns f h d (by omega) (by omega)
      omega
theorem rise (ns : List Int) (nn : ∀ n ∈ ns, 0 ≤ n) (v : Nat) (h : cc ns v < ns.length) : ∀ d, price ns v < price ns (v + d + 1)
  | 0 => by
    have e := price_step ns v
    show price ns v < price ns (v + 1)
    omega
  | d + 1 => by
    have ih := rise ns nn v h d
    have e := price_step ns (v + d + 1)
    have c := cc_le ns nn v (d + 1)
    have c' : cc ns (v + d + 1) ≤ cc ns v := c
    show price ns v < price ns (v + d + 1 + 1)
    omega
/-- what the program's two loops find is the least price -/
theorem told_least (ns : List Int) (hF : Folds ns) (ne : ns ≠ []) (f l : Nat) (hf : cc ns f ≤ ns.length) (hlo : ∀ w, w < f → (ns.length : Int) < cc ns w) (hfl : f ≤ l) (hat : ∀ w, f ≤ w → w ≤ l → price ns w = price ns f)
    (hne : price ns (l + 1) ≠ price ns f) : IsLeast ns (price ns f) f l := by
  have hlen : 0 < ns.length := by cases ns with | nil => exact absurd rfl ne | cons _ _ => simp
  have c40 := cc_40 ns hF
  have hf40 : f ≤ 40 := by
    by_cases h : f ≤ 40
    · exact h
    · have := hlo 40 (by omega)
      omega
  have el := hat l hfl (Nat.le_refl _)
  have hcl : cc ns l < ns.length := by
    have e := price_step ns l
    obtain ⟨d, rfl⟩ : ∃ d, l = f + d := ⟨l - f, by omega⟩
    have c := cc_le ns hF.nn f d
    omega
  refine ⟨hfl, ?_, hat, fun w hw => ?_, fun w hw => ?_⟩
  · by_cases h : l ≤ 40
    · exact h
    · have e : price ns 41 = price ns 40 + ns.length - cc ns 40 := price_step ns 40
      have h1 := hat 40 hf40 (by omega)
      have h2 := hat 41 (by omega) (by omega)
      omega
  · have h := fall ns f hlo (f - w) (by omega) (by omega)
    rw [show f - (f - w) = w by omega] at h
    exact h
  · obtain ⟨d, rfl⟩ : ∃ d, w = l + d + 1 := ⟨w - l - 1, by omega⟩
    have h := rise ns hF.nn l hcl d
    omega
theorem least_ex (P : Nat → Prop) [DecidablePred P] : ∀ n, P n → ∃ k, P k ∧ k ≤ n ∧ ∀ w, w < k → ¬ P w := by
  intro n
  induction n using Nat.strongRecOn with
  | _ n ih =>
    intro hn
    by_cases h : ∃ w, w < n ∧ P w
    · obtain ⟨w, hw, pw⟩ := h
      obtain ⟨k, a, b, c⟩ := ih w hw pw
      exact ⟨k, a, by omega, c⟩
    · exact ⟨n, hn, Nat.le_refl _, fun w hw pw => h ⟨w, hw, pw⟩⟩
theorem least_is (ns : List Int) (hF : Folds ns) (ne : ns ≠ []) : ∃ m f l, IsLeast ns m f l := by
  have hlen : 0 < ns.length := by cases ns with | nil => exact absurd rfl ne | cons _ _ => simp
  have c40 := cc_40 ns hF
  obtain ⟨f, h1, h2, h3⟩ := least_ex (fun w => cc ns w ≤ ns.length) 40 (by show cc ns 40 ≤ ns.length; omega)
  obtain ⟨l, g1, g2, g3⟩ := least_ex (fun w => f ≤ w ∧ price ns (w + 1) ≠ price ns f) 40 ⟨h2, by
    have r := rise ns hF.nn 40 (by omega) 0
    have q : price ns f ≤ price ns 40 := by
      obtain ⟨d, hd⟩ : ∃ d, 40 = f + d := ⟨40 - f, by omega⟩
      have up : ∀ d, price ns f ≤ price ns (f + d) := fun d => by
        induction d with
        | zero => exact Int.le_refl _
        | succ d ih =>
          have e := price_step ns (f + d)
          have c := cc_le ns hF.nn f d
          show price ns f ≤ price ns (f + d + 1)
          omega
      rw [hd]
      exact up d
    have r' : price ns 40 < price ns 41 := r
    show price ns 41 ≠ price ns f
    omega⟩
  refine ⟨_, f, l, told_least ns hF ne f l h1 (fun w hw => by have := h3 w hw; omega) g1.1 (fun w hw hl => ?_) g1.2⟩
  have key : ∀ d, f + d ≤ l → price ns (f + d) = price ns f := fun d => by
    induction d with
    | zero => intro _; rfl
    | succ d ih =>
      intro hd
      have := g3 (f + d) (by omega)
      by_cases hq : price ns (f + d + 1) = price ns f
      · exact hq
      · exact absurd ⟨by omega, hq⟩ this
  have := key (w - f) (by omega)
  rw [show f + (w - f) = w by omega] at this
  exact this
/-- what the law finds over 45 widths -/
theorem law_least (ns : List Int) (m0 : Int) (f0 l0 : Nat) (h : IsLeast ns m0 f0 l0) (m : Int) (hm : m ∈ (List.range 45).map (price ns)) (hle : ∀ y ∈ (List.range 45).map (price ns), m ≤ y) :
    m = m0 ∧ ((List.range 45).filter fun w => decide (price ns w = m)) = (List.range (l0 + 1 - f0)).map (fun d => f0 + d) := by
  have e : m = m0 := by
    obtain ⟨w, hw, ew⟩ := List.mem_map.mp hm
    have a := h.le w
    have b := hle (price ns f0) (List.mem_map.mpr ⟨f0, List.mem_range.mpr (by have := h.fl; have := h.l40; omega), rfl⟩)
    rw [h.at_ f0 (Nat.le_refl _) h.fl] at b
    omega
  refine ⟨e, ?_⟩
  subst e
  have e1 : (List.range 45).filter (fun w => decide (price ns w = m)) = (List.range 45).filter (fun w => decide (f0 ≤ w ∧ w ≤ l0)) := by
    refine List.filter_congr fun w _ => ?_
    have : price ns w = m ↔ f0 ≤ w ∧ w ≤ l0 := by
      constructor
      · intro hp
        constructor
        · by_cases q : f0 ≤ w
          · exact q
          · have := h.lo w (by omega); omega
        · by_cases q : w ≤ l0
          · exact q
          · have := h.hi w (by omega); omega
      · rintro ⟨a, b⟩
        exact h.at_ w a b
    simp only [this]
  rw [e1]
  have hfl := h.fl
  have h40 := h.l40
  have key : ∀ n, (List.range n).filter (fun w => decide (f0 ≤ w ∧ w ≤ l0)) = (List.range (min n (l0 + 1) - f0)).map (fun d => f0 + d) := fun n => by
    induction n with
    | zero => simp
    | succ n ih =>
      rw [List.range_succ, List.filter_append, ih]
      by_cases c : f0 ≤ n ∧ n ≤ l0
      · rw [List.filter_cons_of_pos (by simpa using c)]
        rw [show min (n + 1) (l0 + 1) - f0 = (min n (l0 + 1) - f0) + 1 by omega, List.range_succ, List.map_append]
        simp
        omega
      · rw [List.filter_cons_of_neg (by simpa using c)]
        rw [show min (n + 1) (l0 + 1) - f0 = (min n (l0 + 1) - f0) by omega]
        simp
  rw [key 45, show min 45 (l0 + 1) - f0 = l0 + 1 - f0 by omega]
theorem price_app (a b : List Int) (w : Nat) : price (a ++ b) w = price a w + price b w := by
  unfold price
  rw [List.map_append, List.sum_append]
theorem price_rev (a : List Int) (w : Nat) : price a.reverse w = price a w := by
  unfold price
  rw [List.map_reverse, List.sum_reverse]
theorem IsLeast.rev {a : List Int} {m : Int} {f l : Nat} (h : IsLeast a m f l) : IsLeast a.reverse m f l :=
  ⟨h.fl, h.l40, fun w x y => by rw [price_rev]; exact h.at_ w x y, fun w x => by rw [price_rev]; exact h.lo w x, fun w x => by rw [price_rev]; exact h.hi w x⟩
theorem convex {ns : List Int} (h : Folds ns) (w : Nat) : ¬ price ns (w + 2) - price ns (w + 1) < price ns (w + 1) - price ns w := by
  have a := price_step ns w
  have b := price_step ns (w + 1)
  have c := cc_anti ns h.nn w
  have b' : price ns (w + 2) = price ns (w + 1) + ns.length - cc ns (w + 1) := b
  omega
/-- a sum of prices, as the program says it -/
theorem price_raw : ∀ (ns : List Int) (w : Nat), (ns.length : Int) * ((w : Int) + 1) + (ns.map fun n => n / 2 ^ w).sum = price ns w
  | [], w => by simp [price]
  | n :: r, w => by
    have ih := price_raw r w
    unfold price at ih ⊢
    simp only [List.map_cons, List.sum_cons, List.length_cons]
    rw [← ih]
    push_cast
    rw [Int.add_mul]
    omega
def minI : List Int → Int
  | [] => 0
  | x :: xs => xs.foldl min x
def maxI : List Int → Int
  | [] => 0
  | x :: xs => xs.foldl max x
theorem fold_min : ∀ (xs : List Int) (x : Int), xs.foldl min x ∈ x :: xs ∧ ∀ y ∈ x :: xs, xs.foldl min x ≤ y
  | [], x => ⟨List.mem_cons_self, fun y hy => by rw [List.mem_singleton.mp hy]; exact Int.le_refl _⟩
  | a :: xs, x => by
    obtain ⟨h1, h2⟩ := fold_min xs (min x a)
    show xs.foldl min (min x a) ∈ _ ∧ ∀ y ∈ x :: a :: xs, xs.foldl min (min x a) ≤ y
    have h3 := h2 (min x a) List.mem_cons_self
    refine ⟨?_, fun y hy => ?_⟩
    · rcases List.mem_cons.mp h1 with e | e
      · rw [e]
        rcases Int.le_total x a with h | h
        · rw [Int.min_eq_left h]; exact List.mem_cons_self
        · rw [Int.min_eq_right h]; exact List.mem_cons_of_mem _ List.mem_cons_self
      · exact List.mem_cons_of_mem _ (List.mem_cons_of_mem _ e)
    · rcases List.mem_cons.mp hy with rfl | hy
      · omega
      · rcases List.mem_cons.mp hy with rfl | hy
        · omega
        · exact h2 y (List.mem_cons_of_mem _ hy)
theorem fold_max : ∀ (xs : List Int) (x : Int), xs.foldl max x ∈ x :: xs ∧ ∀ y ∈ x :: xs, y ≤ xs.foldl max x
  | [], x => ⟨List.mem_cons_self, fun y hy => by rw [List.mem_singleton.mp hy]; exact Int.le_refl _⟩
  | a :: xs, x => by
    obtain ⟨h1, h2⟩ := fold_max xs (max x a)
    show xs.foldl max (max x a) ∈ _ ∧ ∀ y ∈ x :: a :: xs, y ≤ xs.foldl max (max x a)
    have h3 := h2 (max x a) List.mem_cons_self
    refine ⟨?_, fun y hy => ?_⟩
    · rcases List.mem_cons.mp h1 with e | e
      · rw [e]
        rcases Int.le_total x a with h | h
        · rw [Int.max_eq_right h]; exact List.mem_cons_of_mem _ List.mem_cons_self
        · rw [Int.max_eq_left h]; exact List.mem_cons_self
      · exact List.mem_cons_of_mem _ (List.mem_cons_of_mem _ e)
    · rcases List.mem_cons.mp hy with rfl | hy
      · omega
      · rcases List.mem_cons.mp hy with rfl | hy
        · omega
        · exact h2 y (List.mem_cons_of_mem _ hy)
theorem min_uniq {l : List Int} {m : Int} (h1 : m ∈ l) (h2 : ∀ y ∈ l, m ≤ y) : m = minI l := by
  cases l with
  | nil => cases h1
  | cons x xs =>
    obtain ⟨h3, h4⟩ := fold_min xs x
    exact Int.le_antisymm (h2 _ h3) (h4 _ h1)
theorem max_uniq {l : List Int} {m : Int} (h1 : m ∈ l) (h2 : ∀ y ∈ l, y ≤ m) : m = maxI l := by
  cases l with
  | nil => cases h1
  | cons x xs =>
    obtain ⟨h3, h4⟩ := fold_max xs x
    exact Int.le_antisymm (h4 _ h1) (h2 _ h3)
theorem price_take (ns : List Int) (w : Nat) {i : Nat} {n : Int} (h : ns[i]? = some n) : price (ns.take (i + 1)) w = price (ns.take i) w + n / 2 ^ w + 1 + (w : Int) := by
  unfold price
  rw [List.take_add_one, h, List.map_append, List.sum_append]
  show _ + ([n / 2 ^ w + 1 + (w : Int)]).sum = _
  rw [List.sum_singleton]
  omega
end My

namespace My
open PySem PySem.Spec PyProof.Rows L2 Pre
theorem at_ints {l : List Int} {k : Nat} (h : k < l.length) : atI (l.map V.int) (k : Int) = some (.int (l.getD k 0)) := by
  refine at_of (j := k) (by omega) ?_
  rw [List.getElem?_map, List.getElem?_eq_getElem h, List.getD_eq_getElem?_getD, List.getElem?_eq_getElem h]
  rfl
section
variable {P : Program} {w : World} {K : PySem.W.Frag} {mg : Str → Option Value} {base : Heap}
def sp_law_price (K : PySem.W.Frag) : Sp := fun vs H Q _ => ∃ (a : Addr) (ns : List Int) (v : Nat), vs = [.ref a, .int v] ∧ SqL K H a (ns.map V.int) ∧ v ≤ 200 ∧ Q (.int (price ns v)) H
theorem G_law_price (T : Top K mg) : FnOk P w K mg base CX0 1 T.f_law_price T.fd_law_price ["_law_folds", "_law_width"] (sp_law_price K) := by
  refine T.F_law_price.ok sc_law_price (fun vs H Q E h => by obtain ⟨a, ns, v, rfl, _⟩ := h; rfl) (fun cdv A outer s H vs Q E hr h => ?_)
  obtain ⟨a, ns, v, rfl, hA, hv, q⟩ := h
  refine ⟨_, PSs.nox (pss_cons (ps_set (i := 2) sc_law_price.nd rfl (by first | exact Or.inl rfl | exact Or.inr rfl) pe_int)
  (pss_cons (ps_for PassesOwn.never rfl (k_piL K rfl (pv 0)) (pg_name (i := 3) sc_law_price.nd rfl (by first | exact Or.inl rfl | exact Or.inr rfl))
    (pss_one (ps_set (i := 2) sc_law_price.nd rfl (by first | exact Or.inl rfl | exact Or.inr rfl) (pe_op op_add (pe_op op_add (pe_op op_add (pv 2) (pe_op op_fdivW (pv 3) (pe_op op_shl pe_int (pv 1)))) pe_int) (pv 1)))))
  (pss_one (ps_ret (pv 2))))), ?_⟩
  refine ⟨_, rfl, a, rfl, ⟨_, hA⟩, for_list (K := K) (a := a) (xs := ns.map V.int) (fun i σ H1 => ∃ v3, σ = [some (.ref a), some (.int v), some (.int (price (ns.take i) v)), v3] ∧ H1 = H) ⟨none, rfl, rfl⟩ (fun i σ H1 _ ⟨_, _, e⟩ => by rw [e]; exact hA) ?_ ?_⟩
  · rintro i x σ H1 hx ⟨v3, rfl, rfl⟩
    obtain ⟨n, hn, rfl⟩ := int_at hx
    have hp := pow_pos' v
    have hp2 : (2 : Int) ^ v ≤ 2 ^ 200 := pow2_le hv
    refine ⟨_, rfl, _, rfl, _, rfl, _, _, rfl, rfl, ⟨by omega, by omega, by decide⟩, _, _, rfl, rfl, ?_, ?_⟩
    · show CDivW n (1 * 2 ^ ((v : Int)).toNat)
      rw [Int.one_mul, Int.toNat_natCast]
      exact wide_div (b := 201) hp (by omega) (by decide) (by decide)
    dsimp only
    rw [Int.one_mul, Int.toNat_natCast]
    refine ⟨_, _, rfl, rfl, _, _, rfl, rfl, _, rfl, _, _, rfl, rfl, some (.int n), ?_, rfl⟩
    rw [price_take ns v hn]
    rfl
  · rintro σ H1 ⟨v3, rfl, rfl⟩
    rw [List.length_map, List.take_length]
    exact ⟨_, rfl, q⟩
end
end My

namespace My
open PySem PySem.Spec PyProof.Rows L2 Pre
/-! ### data in a heap: what is told of a value by lists and tuples that stand there (none of them frozen) -/
mutual
inductive Dt (H : Hp) : V → PyData → Prop
  | non : Dt H .non .none
  | bl (b : Bool) : Dt H (.bl b) (.bool b)
  | int (n : Int) : Dt H (.int n) (.int n)
  | str (x : Str) : Dt H (.str x) (.str x)
  | lst {a : Addr} {xs : List V} {ds : List PyData} : H a = some (.lst xs) → DtA H xs ds → Dt H (.ref a) (.list ds)
  | tup {a : Addr} {xs : List V} {ds : List PyData} : H a = some (.tup xs) → DtA H xs ds → Dt H (.ref a) (.tuple ds)
inductive DtA (H : Hp) : List V → List PyData → Prop
  | nil : DtA H [] []
  | cons {v : V} {vs : List V} {d : PyData} {ds : List PyData} : Dt H v d → DtA H vs ds → DtA H (v :: vs) (d :: ds)
end
mutual
theorem Dt.same {H H' : Hp} (s : Same H H') : ∀ {d : PyData} {v : V}, Dt H v d → Dt H' v d
  | .none, _, h => by cases h; exact .non
  | .bool _, _, h => by cases h; exact .bl _
  | .int _, _, h => by cases h; exact .int _
  | .str _, _, h => by cases h; exact .str _
  | .list _, _, h => by cases h with | lst a b => exact .lst (s _ _ a) (DtA.same s b)
  | .tuple _, _, h => by cases h with | tup a b => exact .tup (s _ _ a) (DtA.same s b)
  | .dict _, _, h => nomatch h
theorem DtA.same {H H' : Hp} (s : Same H H') : ∀ {ds : List PyData} {vs : List V}, DtA H vs ds → DtA H' vs ds
  | [], _, h => by cases h; exact .nil
  | _ :: _, _, h => by cases h with | cons a b => exact .cons (Dt.same s a) (DtA.same s b)
end
mutual
theorem Dt.dp {K : PySem.W.Frag} {H : Hp} : ∀ {d : PyData} {v : V}, Dt H v d → Dp K H v d
  | .none, _, h => by cases h; exact .non
  | .bool _, _, h => by cases h; exact .bl _
  | .int _, _, h => by cases h; exact .int _
  | .str _, _, h => by cases h; exact .str _
  | .list _, _, h => by cases h with | lst a b => exact .lst (.inl (.inl a)) (DtA.dp b)
  | .tuple _, _, h => by cases h with | tup a b => exact .tup (.inl (.inl a)) (DtA.dp b)
  | .dict _, _, h => nomatch h
theorem DtA.dp {K : PySem.W.Frag} {H : Hp} : ∀ {ds : List PyData} {vs : List V}, DtA H vs ds → DpAll K H vs ds
  | [], _, h => by cases h; exact .nil
  | _ :: _, _, h => by cases h with | cons a b => exact .cons (Dt.dp a) (DtA.dp b)
end
theorem DtA.len {H : Hp} : ∀ {ds : List PyData} {vs : List V}, DtA H vs ds → vs.length = ds.length
  | [], _, h => by cases h; rfl
  | _ :: _, _, h => by cases h with | cons a b => rw [List.length_cons, List.length_cons, DtA.len b]
theorem DtA.app {H : Hp} : ∀ {ds : List PyData} {vs : List V} {es : List PyData} {us : List V}, DtA H vs ds → DtA H us es → DtA H (vs ++ us) (ds ++ es)
  | [], _, _, _, h, k => by cases h; exact k
  | _ :: _, _, _, _, h, k => by cases h with | cons a b => exact .cons a (DtA.app b k)
theorem DtA.get {H : Hp} : ∀ {ds : List PyData} {vs : List V} {i : Nat} {d : PyData}, DtA H vs ds → ds[i]? = some d → ∃ v, vs[i]? = some v ∧ Dt H v d
  | [], _, _, _, _, k => by simp at k
  | _ :: _, _, 0, _, h, k => by
    cases h with
    | cons a b => rw [List.getElem?_cons_zero] at k; cases k; exact ⟨_, rfl, a⟩
  | _ :: _, _, i + 1, _, h, k => by
    cases h with
    | cons a b => rw [List.getElem?_cons_succ] at k; rw [List.getElem?_cons_succ]; exact DtA.get b k
theorem DtA.got {H : Hp} {ds : List PyData} {vs : List V} {i : Nat} {v : V} (h : DtA H vs ds) (k : vs[i]? = some v) : ∃ d, ds[i]? = some d ∧ Dt H v d := by
  have hi := (List.getElem?_eq_some_iff.mp k).1
  have hl := h.len
  obtain ⟨u, hu, d⟩ := h.get (List.getElem?_eq_getElem (show i < ds.length by omega))
  rw [k] at hu
  cases hu
  exact ⟨_, List.getElem?_eq_getElem (by omega), d⟩
theorem DtA.take {H : Hp} : ∀ {ds : List PyData} {vs : List V} (n : Nat), DtA H vs ds → DtA H (vs.take n) (ds.take n)
  | _, _, 0, _ => .nil
  | [], _, _ + 1, h => by cases h; exact .nil
  | _ :: _, _, n + 1, h => by cases h with | cons a b => exact .cons a (DtA.take n b)
theorem DtA.drop {H : Hp} : ∀ {ds : List PyData} {vs : List V} (n : Nat), DtA H vs ds → DtA H (vs.drop n) (ds.drop n)
  | _, _, 0, h => h
  | [], _, _ + 1, h => by cases h; exact .nil
  | _ :: _, _, n + 1, h => by cases h with | cons a b => exact DtA.drop n b
theorem DtA.rev {H : Hp} : ∀ {ds : List PyData} {vs : List V}, DtA H vs ds → DtA H vs.reverse ds.reverse
  | [], _, h => by cases h; exact .nil
  | _ :: _, _, h => by
    cases h with
    | cons a b => rw [List.reverse_cons, List.reverse_cons]; exact DtA.app (DtA.rev b) (.cons a .nil)
theorem DtA.ints {H : Hp} : ∀ ns : List Int, DtA H (ns.map V.int) (ns.map PyData.int)
  | [] => .nil
  | n :: r => .cons (.int n) (DtA.ints r)
theorem DtA.intsE {H : Hp} : ∀ {ns : List Int} {vs : List V}, DtA H vs (ns.map PyData.int) → vs = ns.map V.int
  | [], _, h => by cases h; rfl
  | n :: r, _, h => by
    cases h with
    | cons a b => cases a; rw [DtA.intsE b]; rfl
/-- a list of whole numbers -/
theorem Dt.ints {H : Hp} {a : Addr} {ns : List Int} (h : H a = some (.lst (ns.map V.int))) : Dt H (.ref a) (rowD ns) := .lst h (DtA.ints ns)
theorem Dt.intsE {H : Hp} {v : V} {ns : List Int} (h : Dt H v (rowD ns)) : ∃ a, v = .ref a ∧ H a = some (.lst (ns.map V.int)) := by
  unfold rowD at h
  cases h with
  | lst a b => rw [DtA.intsE b] at a; exact ⟨_, rfl, a⟩
theorem Dt.listE {H : Hp} {v : V} {ds : List PyData} (h : Dt H v (.list ds)) : ∃ a xs, v = .ref a ∧ H a = some (.lst xs) ∧ DtA H xs ds := by
  cases h with
  | lst a b => exact ⟨_, _, rfl, a, b⟩
theorem Dt.tupE {H : Hp} {v : V} {ds : List PyData} (h : Dt H v (.tuple ds)) : ∃ a xs, v = .ref a ∧ H a = some (.tup xs) ∧ DtA H xs ds := by
  cases h with
  | tup a b => exact ⟨_, _, rfl, a, b⟩
/-! ### what is owned (and changes) is left out -/
def rs (S : List Addr) (H : Hp) : Hp := fun a => if a ∈ S then none else H a
theorem rs_nil (H : Hp) : rs [] H = H := by funext a; simp [rs]
theorem rs_in {S : List Addr} {H : Hp} {a : Addr} (h : a ∈ S) : rs S H a = none := if_pos h
theorem rs_out {S : List Addr} {H : Hp} {a : Addr} (h : a ∉ S) : rs S H a = H a := if_neg h
theorem rs_some {S : List Addr} {H : Hp} {a : Addr} {o : HO} (h : rs S H a = some o) : a ∉ S ∧ H a = some o := by
  by_cases m : a ∈ S
  · rw [rs_in m] at h; cases h
  · rw [rs_out m] at h; exact ⟨m, h⟩
theorem rs_le {S : List Addr} {H : Hp} : Same (rs S H) H := fun _ _ h => (rs_some h).2
theorem rs_same {S : List Addr} {H H' : Hp} (s : Same H H') : Same (rs S H) (rs S H') := fun b o h => by
  obtain ⟨m, e⟩ := rs_some h
  rw [rs_out m]
  exact s b o e
theorem rs_upd {S : List Addr} {H : Hp} {p : Addr} {o : HO} (h : p ∈ S) : rs S (L2.upd H p o) = rs S H := by
  funext a
  by_cases m : a ∈ S
  · rw [rs_in m, rs_in m]
  · rw [rs_out m, rs_out m, upd_ne (fun e => m (by rw [e]; exact h))]
/-- all of them stand -/
def Has (S : List Addr) (H : Hp) : Prop := ∀ a ∈ S, ∃ o, H a = some o
theorem Has.nil {H : Hp} : Has [] H := fun _ h => nomatch h
theorem Has.same {S : List Addr} {H H' : Hp} (h : Has S H) (s : Same H H') : Has S H' := fun a m => by
  obtain ⟨o, e⟩ := h a m
  exact ⟨o, s a o e⟩
theorem Has.cons {S : List Addr} {H : Hp} {p : Addr} {o : HO} (h : Has S H) (e : H p = some o) : Has (p :: S) H := fun a m => by
  rcases List.mem_cons.mp m with rfl | m
  · exact ⟨o, e⟩
  · exact h a m
theorem Has.upd {S : List Addr} {H : Hp} {p : Addr} {o : HO} (h : Has S H) : Has S (L2.upd H p o) := fun a m => by
  by_cases e : a = p
  · subst e; exact ⟨o, upd_same⟩
  · rw [upd_ne e]; exact h a m
theorem Has.out {S : List Addr} {H : Hp} {p : Addr} (h : Has S H) (n : H p = none) : p ∉ S := fun m => by
  obtain ⟨o, e⟩ := h p m
  rw [n] at e
  cases e
theorem GenAt.has {H : Hp} {g : Addr} {n : Nat} (h : GenAt H g n) : Has [g] H := by
  obtain ⟨x, y, z, e, _⟩ := h
  exact Has.nil.cons e
/-- all but what is owned stays -/
def Sta (S : List Addr) (H H' : Hp) : Prop := Same (rs S H) (rs S H')
theorem Sta.of {S : List Addr} {H H' : Hp} (s : Same H H') : Sta S H H' := rs_same s
theorem Sta.trans {S : List Addr} {H H1 H2 : Hp} (a : Sta S H H1) (b : Sta S H1 H2) : Sta S H H2 := fun c o h => b c o (a c o h)
theorem Sta.at_ {S : List Addr} {H H' : Hp} (s : Sta S H H') {a : Addr} {o : HO} (m : a ∉ S) (h : H a = some o) : H' a = some o := (rs_some (s a o (by rw [rs_out m]; exact h))).2
theorem Sta.upd {S : List Addr} {H : Hp} {p : Addr} {o : HO} (h : p ∈ S) : Sta S H (L2.upd H p o) := fun c u e => by rw [rs_upd h]; exact e
theorem Sta.more {S : List Addr} {H H' : Hp} {p : Addr} (s : Sta S H H') : Sta (p :: S) H H' := fun c o h => by
  obtain ⟨m, e⟩ := rs_some h
  have m2 : c ∉ S := fun z => m (List.mem_cons_of_mem _ z)
  rw [rs_out m]
  exact s.at_ m2 e
theorem But.sta {g : Addr} {H H' : Hp} (b : But g H H') : Sta [g] H H' := fun c o h => by
  obtain ⟨m, e⟩ := rs_some h
  rw [rs_out m]
  exact b c o (fun z => m (by rw [z]; exact List.mem_cons_self)) e
/-- what was there ahead of a new thing does not speak of it -/
theorem under {S : List Addr} {H H' : Hp} {p : Addr} (n : H p = none) (s : Same H H') : Same (rs S H) (rs (p :: S) H') := fun c o h => by
  obtain ⟨m, e⟩ := rs_some h
  rw [rs_out (fun z => by
    rcases List.mem_cons.mp z with rfl | z
    · rw [n] at e; cases e
    · exact m z)]
  exact s c o e
theorem over {S : List Addr} {H : Hp} {p : Addr} : Same (rs (p :: S) H) (rs S H) := fun c o h => by
  obtain ⟨m, e⟩ := rs_some h
  rw [rs_out (fun z => m (List.mem_cons_of_mem _ z))]
  exact e
/-! ### a new list, a new tuple, a sum of lists -/
theorem dt_new {S : List Addr} {H : Hp} {p : Addr} {xs : List V} {ds : List PyData} (hS : Has S H) (n : H p = none) (h : DtA (rs S H) xs ds) : Dt (rs S (upd H p (.lst xs))) (.ref p) (.list ds) :=
  .lst (by rw [rs_out (hS.out n)]; exact upd_same) (h.same (rs_same (same_upd n)))
theorem dt_newT {S : List Addr} {H : Hp} {p : Addr} {xs : List V} {ds : List PyData} (hS : Has S H) (n : H p = none) (h : DtA (rs S H) xs ds) : Dt (rs S (upd H p (.tup xs))) (.ref p) (.tuple ds) :=
  .tup (by rw [rs_out (hS.out n)]; exact upd_same) (h.same (rs_same (same_upd n)))
theorem d_lst {S : List Addr} {H : Hp} {xs : List V} {ds : List PyData} {Q : VK} (hS : Has S H) (h : DtA (rs S H) xs ds) (hz : xs.length ≤ sizeLine) (k : ∀ p H', Same H H' → H p = none → H' p = some (.lst xs) → Dt (rs S H') (.ref p) (.list ds) → Q (.ref p) H') : xs.length ≤ sizeLine ∧ ∀ p, H p = none → Q (.ref p) (upd H p (.lst xs)) :=
  ⟨hz, fun p n => k p _ (same_upd n) n upd_same (dt_new hS n h)⟩
theorem d_tup {S : List Addr} {H : Hp} {xs : List V} {ds : List PyData} {Q : VK} (hS : Has S H) (h : DtA (rs S H) xs ds) (hz : xs.length ≤ sizeLine) (k : ∀ p H', Same H H' → H p = none → H' p = some (.tup xs) → Dt (rs S H') (.ref p) (.tuple ds) → Q (.ref p) H') : xs.length ≤ sizeLine ∧ ∀ p, H p = none → Q (.ref p) (upd H p (.tup xs)) :=
  ⟨hz, fun p n => k p _ (same_upd n) n upd_same (dt_newT hS n h)⟩
theorem d_cat {S : List Addr} {H : Hp} {v w : V} {ds es : List PyData} {Q : VK} (hS : Has S H) (hv : Dt (rs S H) v (.list ds)) (hw : Dt (rs S H) w (.list es)) (hz : ds.length + es.length ≤ sizeLine) (k : ∀ p H', Same H H' → H p = none → Dt (rs S H') (.ref p) (.list (ds ++ es)) → Q (.ref p) H') : rCat v w H Q := by
  obtain ⟨a, xs, rfl, ha, hx⟩ := hv.listE
  obtain ⟨b, ys, rfl, hb, hy⟩ := hw.listE
  exact ⟨a, b, xs, ys, rfl, rfl, (rs_some ha).2, (rs_some hb).2, by rw [hx.len, hy.len]; exact hz, fun p n => k p _ (same_upd n) n (dt_new hS n (hx.app hy))⟩
theorem d_eq {K : PySem.W.Frag} {H : Hp} {v w : V} {d e : PyData} {Q : VK} (hv : Dt H v d) (hw : Dt H w e) (sd : SeqAt.shaped d = true) (se : SeqAt.shaped e = true) (q : Q (.bl (PyData.eqv d e)) H) : rEqD K v w H Q := ⟨d, e, hv.dp, hw.dp, sd, se, q⟩
theorem d_ne {K : PySem.W.Frag} {H : Hp} {v w : V} {d e : PyData} {Q : VK} (hv : Dt H v d) (hw : Dt H w e) (sd : SeqAt.shaped d = true) (se : SeqAt.shaped e = true) (q : Q (.bl (!PyData.eqv d e)) H) : rNeD K v w H Q := ⟨d, e, hv.dp, hw.dp, sd, se, q⟩
/-! ### comprehensions -/
/-- what comes of an item: nothing, or data -/
def Out (S : List Addr) (H : Hp) : Option PyData → Option V → Prop
  | some d, some v => Dt (rs S H) v d
  | none, none => True
  | _, _ => False
def accP (S : List Addr) (H1 : Hp) (D : Addr) (ds : List PyData) (H : Hp) : Prop := Same H1 H ∧ ∃ ys, H D = some (.lst ys) ∧ DtA (rs (D :: S) H) ys ds
theorem acc_step {S : List Addr} {H1 : Hp} {D : Addr} {sel : List (Option PyData)} {i : Nat} {o : Option PyData} {H H4 : Hp} (nD : H1 D = none) (ho : sel[i]? = some o) (hz : sel.length < sizeLine) (h : accP S H1 D ((sel.take i).filterMap id) H) (s4 : Same H H4) :
    ∀ y : Option V, Out (D :: S) H4 o y → match y with
      | some v => ∃ acc, H4 D = some (.lst acc) ∧ acc.length < sizeLine ∧ accP S H1 D ((sel.take (i + 1)).filterMap id) (upd H4 D (.lst (acc ++ [v])))
      | none => accP S H1 D ((sel.take (i + 1)).filterMap id) H4 := by
  obtain ⟨s, ys, hD, hy⟩ := h
  intro y hO
  rw [take_fm ho]
  cases o with
  | none =>
    cases y with
    | none => exact ⟨s.trans s4, ys, s4 _ _ hD, by simpa using hy.same (rs_same s4)⟩
    | some v => exact absurd hO (fun z => z)
  | some d =>
    cases y with
    | none => exact absurd hO (fun z => z)
    | some v =>
      refine ⟨ys, s4 _ _ hD, ?_, same_over nD (s.trans s4), ys ++ [v], upd_same, ?_⟩
      · rw [hy.len]
        exact Nat.lt_of_le_of_lt (fm_len sel i) hz
      · rw [rs_upd List.mem_cons_self]
        exact (hy.same (rs_same s4)).app (.cons hO .nil)
theorem acc_end {S : List Addr} {H1 : Hp} {D : Addr} {ds : List PyData} {H : Hp} (hS : Has S H1) (nD : H1 D = none) (h : accP S H1 D ds H) : Dt (rs S H) (.ref D) (.list ds) := by
  obtain ⟨s, ys, hD, hy⟩ := h
  exact .lst (by rw [rs_out (hS.out nD)]; exact hD) (hy.same over)
theorem lc_dR {lo : Int} {n : Nat} {j : Nat} {tt : TT} {te : TE} {vs : List Nat} {σ : L2.St} {H1 : Hp} {D : Addr} {Qd : Hp → Prop} {S : List Addr} (hS : Has S H1) (sel : List (Option PyData)) (nD : H1 D = none) (hlen : sel.length = n) (hz : n < sizeLine)
    (hw : ∀ x, wipe ((wipe σ vs).set j (some x)) vs = wipe σ vs)
    (hs : ∀ (i : Nat) (o : Option PyData) (H' : Hp), i < n → sel[i]? = some o → Same H1 H' → Has (D :: S) H' → ∀ Qt : Option V → Hp → Prop, (∀ y H'', Same H' H'' → Out (D :: S) H'' o y → Qt y H'') →
      tt ((wipe σ vs).set j (some (.int (lo + (i : Int))))) H' fun b H3 => if b = true then te ((wipe σ vs).set j (some (.int (lo + (i : Int))))) H3 fun y H4 => Qt (some y) H4 else Qt none H3)
    (hd : ∀ H', Same H1 H' → H' D ≠ none → Dt (rs S H') (.ref D) (.list (sel.filterMap id)) → Qd H') :
    ∃ W : Nat → Nat → Hp → Prop, (∃ m, W 0 m (upd H1 D (.lst []))) ∧ ∀ i m H, W i m H →
      ((Itr lo n).stop i H ∧ Qd H) ∨ ((Itr lo n).go i H ∧ ∃ Nx : Hp → Prop, (∀ H', Nx H' → ∃ m', m' < m ∧ W (i + 1) m' H') ∧ ∀ x H', (Itr lo n).yld i H x H' → gName j x (wipe σ vs) H' fun σ2 H2 => wipe σ2 vs = wipe σ vs ∧ tt σ2 H2 fun b H3 =>
        if b = true then te σ2 H3 fun y H4 => ∃ acc, H4 D = some (.lst acc) ∧ acc.length < sizeLine ∧ Nx (upd H4 D (.lst (acc ++ [y]))) else Nx H3) := by
  refine lc_range (lo := lo) (n := n) (fun i H => accP S H1 D ((sel.take i).filterMap id) H) ⟨same_upd nD, [], upd_same, .nil⟩ ?_ ?_
  · rintro i H hi h
    refine ⟨hw _, ?_⟩
    have ho : sel[i]? = some (sel[i]'(by omega)) := List.getElem?_eq_getElem (by omega)
    obtain ⟨s, ys, hD, hy⟩ := id h
    exact hs i _ H hi ho s ((hS.same s).cons hD) (fun o H4 => match o with
      | some y => ∃ acc, H4 D = some (.lst acc) ∧ acc.length < sizeLine ∧ accP S H1 D ((sel.take (i + 1)).filterMap id) (upd H4 D (.lst (acc ++ [y])))
      | none => accP S H1 D ((sel.take (i + 1)).filterMap id) H4) fun y H4 s4 hO => acc_step nD ho (by omega) h s4 y hO
  · rintro H h
    rw [← hlen, List.take_length] at h
    refine hd H h.1 ?_ (acc_end hS nD h)
    obtain ⟨_, ys, hD, _⟩ := h
    rw [hD]
    exact fun z => nomatch z
theorem lc_dL {K : PySem.W.Frag} {a : Addr} {xs : List V} {j : Nat} {tt : TT} {te : TE} {vs : List Nat} {σ : L2.St} {H1 : Hp} {D : Addr} {Qd : Hp → Prop} {S : List Addr} (hS : Has S H1) (sel : List (Option PyData)) (nD : H1 D = none) (hA : SqL K H1 a xs) (hlen : sel.length = xs.length) (hz : xs.length < sizeLine)
    (hw : ∀ x, wipe ((wipe σ vs).set j (some x)) vs = wipe σ vs)
    (hs : ∀ (i : Nat) (x : V) (o : Option PyData) (H' : Hp), xs[i]? = some x → sel[i]? = some o → Same H1 H' → Has (D :: S) H' → ∀ Qt : Option V → Hp → Prop, (∀ y H'', Same H' H'' → Out (D :: S) H'' o y → Qt y H'') →
      tt ((wipe σ vs).set j (some x)) H' fun b H3 => if b = true then te ((wipe σ vs).set j (some x)) H3 fun y H4 => Qt (some y) H4 else Qt none H3)
    (hd : ∀ H', Same H1 H' → H' D ≠ none → Dt (rs S H') (.ref D) (.list (sel.filterMap id)) → Qd H') :
    ∃ W : Nat → Nat → Hp → Prop, (∃ m, W 0 m (upd H1 D (.lst []))) ∧ ∀ i m H, W i m H →
      ((Itl K a).stop i H ∧ Qd H) ∨ ((Itl K a).go i H ∧ ∃ Nx : Hp → Prop, (∀ H', Nx H' → ∃ m', m' < m ∧ W (i + 1) m' H') ∧ ∀ x H', (Itl K a).yld i H x H' → gName j x (wipe σ vs) H' fun σ2 H2 => wipe σ2 vs = wipe σ vs ∧ tt σ2 H2 fun b H3 =>
        if b = true then te σ2 H3 fun y H4 => ∃ acc, H4 D = some (.lst acc) ∧ acc.length < sizeLine ∧ Nx (upd H4 D (.lst (acc ++ [y]))) else Nx H3) := by
  refine lc_list (K := K) (a := a) (xs := xs) (fun i H => accP S H1 D ((sel.take i).filterMap id) H) ⟨same_upd nD, [], upd_same, .nil⟩ (fun i H _ p => p.1.seq hA) ?_ ?_
  · rintro i x H hx h
    refine ⟨hw _, ?_⟩
    have hi := (List.getElem?_eq_some_iff.mp hx).1
    have ho : sel[i]? = some (sel[i]'(by omega)) := List.getElem?_eq_getElem (by omega)
    obtain ⟨s, ys, hD, hy⟩ := id h
    exact hs i x _ H hx ho s ((hS.same s).cons hD) (fun o H4 => match o with
      | some y => ∃ acc, H4 D = some (.lst acc) ∧ acc.length < sizeLine ∧ accP S H1 D ((sel.take (i + 1)).filterMap id) (upd H4 D (.lst (acc ++ [y])))
      | none => accP S H1 D ((sel.take (i + 1)).filterMap id) H4) fun y H4 s4 hO => acc_step nD ho (by omega) h s4 y hO
  · rintro H h
    rw [← hlen, List.take_length] at h
    refine hd H h.1 ?_ (acc_end hS nD h)
    obtain ⟨_, ys, hD, _⟩ := h
    rw [hD]
    exact fun z => nomatch z
/-- maps: each item's data -/
theorem sel_map {α : Type} (l : List α) (f : α → PyData) : (l.map fun x => some (f x)).filterMap id = l.map f := by
  induction l with
  | nil => rfl
  | cons x l ih =>
    show f x :: (l.map fun x => some (f x)).filterMap id = _
    rw [ih]
    rfl
/-- over any walk -/
theorem lc_dW {J : It} {n : Nat} {G : Hp → Prop} {Y : Nat → Hp → V → Hp → Prop} (w : Walk J n G Y) {g : TG} {tt : TT} {te : TE} {vs : List Nat} {σ : L2.St} {H1 : Hp} {D : Addr} {Qd : Hp → Prop} {S : List Addr} (hS : Has S H1) (sel : List (Option PyData)) (nD : H1 D = none) (hlen : sel.length = n) (hz : n < sizeLine)
    (hG : ∀ H', Same H1 H' → G H')
    (hs : ∀ (i : Nat) (o : Option PyData) (H0 : Hp) (x : V) (H' : Hp), i < n → sel[i]? = some o → Same H1 H0 → Has (D :: S) H0 → Y i H0 x H' → ∀ Qt : Option V → Hp → Prop, (∀ y H'', Same H0 H'' → Out (D :: S) H'' o y → Qt y H'') →
      g x (wipe σ vs) H' fun σ2 H2 => wipe σ2 vs = wipe σ vs ∧ tt σ2 H2 fun b H3 => if b = true then te σ2 H3 fun y H4 => Qt (some y) H4 else Qt none H3)
    (hd : ∀ H', Same H1 H' → H' D ≠ none → Dt (rs S H') (.ref D) (.list (sel.filterMap id)) → Qd H') :
    ∃ W : Nat → Nat → Hp → Prop, (∃ m, W 0 m (upd H1 D (.lst []))) ∧ ∀ i m H, W i m H →
      (J.stop i H ∧ Qd H) ∨ (J.go i H ∧ ∃ Nx : Hp → Prop, (∀ H', Nx H' → ∃ m', m' < m ∧ W (i + 1) m' H') ∧ ∀ x H', J.yld i H x H' → g x (wipe σ vs) H' fun σ2 H2 => wipe σ2 vs = wipe σ vs ∧ tt σ2 H2 fun b H3 =>
        if b = true then te σ2 H3 fun y H4 => ∃ acc, H4 D = some (.lst acc) ∧ acc.length < sizeLine ∧ Nx (upd H4 D (.lst (acc ++ [y]))) else Nx H3) := by
  refine lc_it w (fun i H => accP S H1 D ((sel.take i).filterMap id) H) ⟨same_upd nD, [], upd_same, .nil⟩ (fun i H _ p => hG H p.1) ?_ ?_
  · rintro i x H H' hi h y
    have ho : sel[i]? = some (sel[i]'(by omega)) := List.getElem?_eq_getElem (by omega)
    obtain ⟨s, ys, hD, hy⟩ := id h
    exact hs i _ H x H' hi ho s ((hS.same s).cons hD) y (fun o H4 => match o with
      | some y => ∃ acc, H4 D = some (.lst acc) ∧ acc.length < sizeLine ∧ accP S H1 D ((sel.take (i + 1)).filterMap id) (upd H4 D (.lst (acc ++ [y])))
      | none => accP S H1 D ((sel.take (i + 1)).filterMap id) H4) fun y H4 s4 hO => acc_step nD ho (by omega) h s4 y hO
  · rintro H h
    rw [← hlen, List.take_length] at h
    refine hd H h.1 ?_ (acc_end hS nD h)
    obtain ⟨_, ys, hD, _⟩ := h
    rw [hD]
    exact fun z => nomatch z
theorem dt_pairs {K : PySem.W.Frag} {H : Hp} {a : Addr} {ps : List (Int × Int)} (h : Dt H (.ref a) (.list (ps.map pairD))) : PairsAt K H a ps := by
  cases h with
  | lst ha hx =>
    rename_i xs
    have key : ∀ (ps : List (Int × Int)) (xs : List V), DtA H xs (ps.map pairD) → ∃ as : List Addr, xs = as.map V.ref ∧ as.length = ps.length ∧ ∀ (i : Nat) (t : Addr) (p : Int × Int), as[i]? = some t → ps[i]? = some p → SqT K H t [.int p.1, .int p.2] := fun ps => by
      induction ps with
      | nil => intro xs h; cases h; exact ⟨[], rfl, rfl, fun i t p ht => by simp at ht⟩
      | cons p ps ih =>
        intro xs h
        cases h with
        | cons b c =>
          obtain ⟨as, rfl, hl, k⟩ := ih _ c
          obtain ⟨t, ys, rfl, ht, hy⟩ := (show Dt H _ (.tuple [.int p.1, .int p.2]) from b).tupE
          rw [DtA.intsE (ns := [p.1, p.2]) hy] at ht
          refine ⟨t :: as, rfl, by rw [List.length_cons, List.length_cons, hl], fun i u q hu hq => ?_⟩
          cases i with
          | zero =>
            rw [List.getElem?_cons_zero] at hu hq
            cases hu
            cases hq
            exact .inl (.inl ht)
          | succ i =>
            rw [List.getElem?_cons_succ] at hu hq
            exact k i u q hu hq
    obtain ⟨as, rfl, hl, k⟩ := key ps xs hx
    exact ⟨as, .inl (.inl ha), hl, k⟩
end My

namespace My
open PySem PySem.Spec PyProof.Rows L2 Pre
/-! ### all rows of so many numbers below t -/
def rowsD (rows : List (List Int)) : PyData := .list (rows.map rowD)
def moreK (t : Nat) (r : List Int) : List (List Int) := (List.range t).map fun (o : Nat) => r ++ [(o : Int)]
def belowK : Nat → Nat → List (List Int)
  | 0, _ => [[]]
  | m + 1, t => (belowK m t).flatMap (moreK t)
theorem below_mem : ∀ (m t : Nat) (r : List Int), r ∈ belowK m t ↔ r.length = m ∧ ∀ x ∈ r, 0 ≤ x ∧ x < (t : Int)
  | 0, t, r => by
    show r ∈ [[]] ↔ _
    rw [List.mem_singleton]
    constructor
    · rintro rfl; exact ⟨rfl, fun x h => nomatch h⟩
    · rintro ⟨h, _⟩; exact List.length_eq_zero_iff.mp h
  | m + 1, t, r => by
    show r ∈ (belowK m t).flatMap (moreK t) ↔ _
    rw [List.mem_flatMap]
    constructor
    · rintro ⟨q, hq, hr⟩
      obtain ⟨o, ho, rfl⟩ := List.mem_map.mp hr
      obtain ⟨h1, h2⟩ := (below_mem m t q).mp hq
      refine ⟨by rw [List.length_append, h1]; rfl, fun x hx => ?_⟩
      rcases List.mem_append.mp hx with hx | hx
      · exact h2 x hx
      · rw [List.mem_singleton.mp hx]
        have := List.mem_range.mp ho
        omega
    · rintro ⟨h1, h2⟩
      have hne : r ≠ [] := fun z => by rw [z] at h1; cases h1
      refine ⟨r.dropLast, (below_mem m t _).mpr ⟨by rw [List.length_dropLast, h1]; rfl, fun x hx => h2 x (List.dropLast_subset r hx)⟩, List.mem_map.mpr ⟨(r.getLast hne).toNat, ?_, ?_⟩⟩
      · have := h2 _ (List.getLast_mem hne)
        exact List.mem_range.mpr (by omega)
      · have := h2 _ (List.getLast_mem hne)
        rw [Int.toNat_of_nonneg this.1]
        exact List.dropLast_concat_getLast hne
theorem flatm_len {α β : Type} (f : α → List β) (c : Nat) : ∀ l : List α, (∀ x ∈ l, (f x).length = c) → (l.flatMap f).length = l.length * c
  | [], _ => by simp
  | x :: l, h => by
    rw [List.flatMap_cons, List.length_append, h x List.mem_cons_self, flatm_len f c l fun y hy => h y (List.mem_cons_of_mem _ hy), List.length_cons, Nat.succ_mul]
    omega
theorem below_len : ∀ m t : Nat, (belowK m t).length = t ^ m
  | 0, _ => rfl
  | m + 1, t => by
    show ((belowK m t).flatMap (moreK t)).length = _
    rw [flatm_len (moreK t) t _ (fun r _ => by unfold moreK; rw [List.length_map, List.length_range]), below_len m t, Nat.pow_succ]
theorem flat_nextR {α β : Type} (f : α → List β) (l : List α) (i : Nat) (x : α) (h : l[i]? = some x) : (l.take (i + 1)).flatMap f = (l.take i).flatMap f ++ f x := by
  rw [List.take_add_one, h, List.flatMap_append]
  simp
theorem flat_take_len {α β : Type} (f : α → List β) (l : List α) (i : Nat) : ((l.take i).flatMap f).length ≤ (l.flatMap f).length := by
  have h : l.flatMap f = (l.take i).flatMap f ++ (l.drop i).flatMap f := by rw [← List.flatMap_append, List.take_append_drop]
  rw [h, List.length_append]
  omega
local macro_rules | `(tactic| walk_at "go") => `(tactic| repeat (first | (with_reducible first | refine iteT ?_ | refine iteF ?_ | refine iteNtt ?_ | refine iteNff ?_ | refine iteET (by omega) ?_ | refine iteEF (by omega) ?_ | refine iteENT (by omega) ?_ | refine iteENF (by omega) ?_ | refine iteDT (by omega) ?_ | refine iteDF (by omega) ?_ | refine iteNT (by omega) ?_ | refine iteNF (by omega) ?_) | refine ⟨_, rfl, ?_⟩ | refine ⟨_, _, rfl, rfl, ?_⟩ | refine ⟨_, _, rfl, ?_⟩ | refine ⟨rfl, ?_⟩ | refine .inl ⟨_, rfl, ?_⟩ | refine .inr ⟨_, rfl, ?_⟩))
local macro_rules | `(tactic| walk_at "b") => `(tactic| try dsimp (config := { proj := false, iota := false, eta := false, zeta := false }) only)
section
variable {P : Program} {w : World} {K : PySem.W.Frag} {mg : Str → Option Value} {base : Heap}
def sp_law_below : Sp := fun vs H Q _ => ∃ (S : List Addr) (m t : Nat), vs = [.int m, .int t] ∧ Has S H ∧ m ≤ 100 ∧ t ≤ 1000 ∧ (∀ i, i ≤ m → t ^ i ≤ 5000) ∧ ∀ H' p, Same H H' → H p = none → Dt (rs S H') (.ref p) (rowsD (belowK m t)) → Q (.ref p) H'
theorem G_law_below (T : Top K mg) : FnOk P w K mg base CX0 1 T.f_law_below T.fd_law_below ["_law_many", "_law_top"] sp_law_below := by
  refine T.F_law_below.ok sc_law_below (fun vs H Q E h => by obtain ⟨S, m, t, rfl, _⟩ := h; rfl) (fun cdv A outer s H vs Q E hr h => ?_)
  obtain ⟨S, m, t, rfl, hS, hm, ht, hb, q⟩ := h
  refine ⟨_, PSs.nox (pss_cons (ps_set (i := 2) sc_law_below.nd rfl (by first | exact Or.inl rfl | exact Or.inr rfl) (pe_lst (pa_cons (pe_lst pa_nil) pa_nil)))
  (pss_cons (ps_for PassesOwn.never rfl (pi_range1 (by rfl) T.n_range (pa_cons (pv 0) pa_nil)) (pg_name (i := 3) sc_law_below.nd rfl (by first | exact Or.inl rfl | exact Or.inr rfl))
    (pss_cons (ps_set (i := 4) sc_law_below.nd rfl (by first | exact Or.inl rfl | exact Or.inr rfl) (pe_lst pa_nil))
  (pss_cons (ps_for PassesOwn.never rfl (k_piL K rfl (pv 2)) (pg_name (i := 5) sc_law_below.nd rfl (by first | exact Or.inl rfl | exact Or.inr rfl))
    (pss_one (ps_set (i := 4) sc_law_below.nd rfl (by first | exact Or.inl rfl | exact Or.inr rfl) (pe_op op_cat (pv 4) (pe_lc (own := [("_law_one", 6)]) (g := gName 6) (tt := tYes) (by rfl) sc_law_below.nd (pi_range1 (by rfl) T.n_range (pa_cons (pv 1) pa_nil)) (blkOk_by (own := [("_law_one", 6)]) (N := N_law_below) (sc := defScope s_law_below) (by decide +kernel)) (fun _ _ _ _ _ => (pg_name (i := 6) sc_law_below.nd rfl (by first | exact Or.inl rfl | exact Or.inr rfl))) (fun _ _ _ _ _ => pts_nil) (fun _ _ _ _ _ => (pe_op op_cat (pv 5) (pe_lst (pa_cons (pv 6) pa_nil)))))))))
  (pss_one (ps_set (i := 2) sc_law_below.nd rfl (by first | exact Or.inl rfl | exact Or.inr rfl) (pv 4))))))
  (pss_one (ps_ret (pv 2))))), ?_⟩
  refine ⟨Nat.zero_le _, fun c nc => ?_⟩
  have d0 := dt_new hS nc (xs := []) (ds := []) .nil
  have s0 := same_upd (o := .lst []) nc
  generalize upd H c (.lst []) = H1 at d0 s0
  refine ⟨(show 1 ≤ sizeLine by decide), fun f nf => ?_⟩
  have hS1 := hS.same s0
  have d1 := dt_new hS1 nf (xs := [.ref c]) (ds := [rowD []]) (.cons d0 .nil)
  have s1 := same_upd (o := .lst [.ref c]) nf
  generalize upd H1 f (.lst [.ref c]) = H2 at d1 s1
  walk_at "go"
  refine ⟨by omega, by omega, ?_⟩
  rw [Int.toNat_natCast]
  refine for_range (lo := 0) (n := m) (fun i σ H3 => ∃ (p : Addr) (v3 v4 v5 v6 : Option V), σ = [some (.int m), some (.int t), some (.ref p), v3, v4, v5, v6] ∧ Same H H3 ∧ H p = none ∧ Dt (rs S H3) (.ref p) (rowsD (belowK i t))) ⟨f, none, none, none, none, rfl, s0.trans s1, s0.free nf, d1⟩ ?_ ?_
  · rintro i σ H3 hi ⟨p, v3, v4, v5, v6, rfl, s3, np, d3⟩
    refine ⟨Nat.zero_le _, fun g ng => ?_⟩
    have hS3 := hS.same s3
    have d4 := dt_new hS3 ng (xs := []) (ds := []) .nil
    have s4 := same_upd (o := .lst []) ng
    generalize upd H3 g (.lst []) = H4 at d4 s4
    walk_at "go"
    obtain ⟨p', xs, e, hp, hx⟩ := d3.listE
    cases e
    have hxl := hx.len
    rw [List.length_map, below_len] at hxl
    have hti := hb i (by omega)
    have hti1 := hb (i + 1) (by omega)
    rw [← below_len] at hti1
    refine ⟨⟨_, .inl (.inl (s4 _ _ (rs_le _ _ hp)))⟩, for_list (K := K) (a := p) (xs := xs) (fun k σ H5 => ∃ (g' : Addr) (v3 v5 v6 : Option V), σ = [some (.int m), some (.int t), some (.ref p), v3, some (.ref g'), v5, v6] ∧ Same H3 H5 ∧ H3 g' = none ∧ Dt (rs S H5) (.ref g') (rowsD (((belowK i t).take k).flatMap (moreK t)))) ⟨g, some (.int (0 + (i : Int))), v5, v6, rfl, s4, ng, d4⟩ (fun k σ H5 _ ⟨_, _, _, _, _, s, _⟩ => .inl (.inl (s _ _ (rs_le _ _ hp)))) ?_ ?_⟩
    · rintro k x σ H5 hxk ⟨g', v3, v5, v6, rfl, s5, ng', d5⟩
      obtain ⟨dx, hdx, hxd⟩ := hx.got hxk
      rw [List.getElem?_map] at hdx
      obtain ⟨r, hr, rfl⟩ := Option.map_eq_some_iff.mp hdx
      have hrl := ((below_mem i t r).mp (List.mem_of_getElem? hr)).1
      walk_at "go"
      refine ⟨by omega, by omega, fun D nD => ?_⟩
      rw [Int.toNat_natCast]
      have hS5 := hS3.same s5
      refine lc_dR (lo := 0) (n := t) (S := S) hS5 ((moreK t r).map fun z => some (rowD z)) nD (by unfold moreK; simp) (by rw [sizeLine_eq]; omega) (fun x => rfl) ?_ ?_
      · intro o dd H' ho hdd s' hH Qt qt
        unfold moreK at hdd
        rw [List.getElem?_map, List.getElem?_map, List.getElem?_range ho] at hdd
        cases hdd
        walk_at "go"
        refine ⟨(show 1 ≤ sizeLine by decide), fun c1 nc1 => ?_⟩
        have d6 := dt_new hH nc1 (xs := [.int (0 + (o : Int))]) (ds := [.int (0 + (o : Int))]) (.cons (.int _) .nil)
        have s6 := same_upd (o := .lst [.int (0 + (o : Int))]) nc1
        generalize upd H' c1 (.lst [.int (0 + (o : Int))]) = H6 at d6 s6
        have hxr : Dt (rs (D :: S) H6) x (rowD r) := hxd.same (fun b u hb => under (S := S) (H := H5) nD (s'.trans s6) b u (rs_same s5 b u hb))
        refine d_cat (hH.same s6) hxr d6 (by rw [List.length_map, hrl, sizeLine_eq]; show i + 1 ≤ _; omega) fun c2 H7 s7 nc2 d7 => ?_
        refine qt _ _ (s6.trans s7) ?_
        show Dt (rs (D :: S) H7) (.ref c2) (rowD (r ++ [(o : Int)]))
        rw [Int.zero_add] at d7
        unfold rowD
        rw [List.map_append]
        exact d7
      · intro H6 s6 _ d6
        rw [sel_map] at d6
        have hl1 := flat_take_len (moreK t) (belowK i t) k
        refine d_cat (hS5.same s6) (d5.same (rs_same s6)) d6 ?_ fun g2 H7 s7 ng2 d7 => ?_
        · rw [List.length_map, List.length_map, sizeLine_eq]
          have : (moreK t r).length = t := by unfold moreK; rw [List.length_map, List.length_range]
          have e2 : ((belowK i t).flatMap (moreK t)).length ≤ 5000 := hti1
          omega
        · refine ⟨g2, v3, some x, v6, rfl, (s5.trans s6).trans s7, (s5.trans s6).free ng2, ?_⟩
          unfold rowsD
          rw [flat_nextR _ _ _ r hr, List.map_append]
          exact d7
    · rintro σ H5 ⟨g', v3, v5, v6, rfl, s5, ng', d5⟩
      walk_at "go"
      refine ⟨g', v3, some (.ref g'), v5, v6, rfl, s3.trans s5, s3.free ng', ?_⟩
      rw [hxl, ← below_len, List.take_length] at d5
      exact d5
  · rintro σ H3 ⟨p, v3, v4, v5, v6, rfl, s3, np, d3⟩
    walk_at "go"
    exact q _ p s3 np d3
end
end My

namespace My
open PySem PySem.Spec PyProof.Rows L2 Pre
local macro_rules | `(tactic| walk_at "go") => `(tactic| repeat (first | (with_reducible first | refine iteT ?_ | refine iteF ?_ | refine iteNtt ?_ | refine iteNff ?_ | refine iteET (by omega) ?_ | refine iteEF (by omega) ?_ | refine iteENT (by omega) ?_ | refine iteENF (by omega) ?_ | refine iteDT (by omega) ?_ | refine iteDF (by omega) ?_ | refine iteNT (by omega) ?_ | refine iteNF (by omega) ?_) | refine ⟨_, rfl, ?_⟩ | refine ⟨_, _, rfl, rfl, ?_⟩ | refine ⟨_, _, rfl, ?_⟩ | refine ⟨rfl, ?_⟩ | refine .inl ⟨_, rfl, ?_⟩ | refine .inr ⟨_, rfl, ?_⟩))
local macro_rules | `(tactic| walk_at "b") => `(tactic| try dsimp (config := { proj := false, iota := false, eta := false, zeta := false }) only)
section
variable {P : Program} {w : World} {K : PySem.W.Frag} {mg : Str → Option Value} {base : Heap}
/-! ### common divisors and fractions, of whole numbers of either sign -/
def sp_common_divisor : Sp := fun vs H Q _ => ∃ a b : Int, vs = [.int a, .int b] ∧ Q (.int (Int.gcd a b : Nat)) H
theorem abs_int (a : Int) : (if a < 0 then -a else a) = (a.natAbs : Int) := by split <;> omega
theorem G_common_divisor (T : Top K mg) : FnOk P w K mg base CX0 1 T.f_common_divisor T.fd_common_divisor ["one", "other"] sp_common_divisor := by
  refine T.F_common_divisor.ok sc_common_divisor (fun vs H Q E h => by obtain ⟨a, b, rfl, _⟩ := h; rfl) (fun cdv A outer s H vs Q E hr h => ?_)
  obtain ⟨a, b, rfl, q⟩ := h
  refine ⟨_, PSs.nox (pss_cons (ps_par (by rfl) sc_common_divisor.nd (i := 0) (j := 1) rfl rfl (by decide) rfl rfl (pa_cons (pe_callB call_abs (by rfl) T.n_abs (by decide +kernel) (pa_cons (pv 0) pa_nil)) (pa_cons (pe_callB call_abs (by rfl) T.n_abs (by decide +kernel) (pa_cons (pv 1) pa_nil)) pa_nil)) (by rfl))
  (pss_cons (ps_while PassesOwn.never (pt_cmpR op_ne (pv 1) pe_int (nomark _))
    (pss_one (ps_par (by rfl) sc_common_divisor.nd (i := 0) (j := 1) rfl rfl (by decide) rfl rfl (pa_cons (pv 1) (pa_cons (pe_op op_mod (pv 0) (pv 1)) pa_nil)) (by rfl))))
  (pss_one (ps_ret (pv 0))))), ?_⟩
  refine ⟨_, rfl, _, rfl, _, rfl, _, rfl, _, _, rfl, ?_⟩
  rw [abs_int, abs_int]
  refine ⟨fun m σ H2 => ∃ x y : Nat, σ = [some (.int x), some (.int y)] ∧ y = m ∧ Nat.gcd x y = Int.gcd a b ∧ H2 = H, ⟨b.natAbs, a.natAbs, b.natAbs, rfl, rfl, rfl, rfl⟩, ?_⟩
  rintro m σ H2 ⟨x, y, rfl, rfl, hg, rfl⟩
  refine ⟨_, rfl, rfl, _, rfl, ?_⟩
  by_cases hy : y = 0
  · subst hy
    refine iteENF rfl ⟨_, rfl, ?_⟩
    rw [← hg, Nat.gcd_zero_right] at q
    exact q
  · refine iteENT (by omega) ?_
    refine ⟨fun σ' H' => ∃ x' y' : Nat, σ' = [some (.int x'), some (.int y')] ∧ y' < y ∧ Nat.gcd x' y' = Int.gcd a b ∧ H' = H2, fun σ' H' ⟨x', y', e1, e2, e3, e4⟩ => ⟨y', e2, x', y', e1, rfl, e3, e4⟩, ?_⟩
    refine ⟨_, rfl, _, rfl, _, rfl, _, _, rfl, rfl, (by show (0 : Int) < _; omega), _, _, rfl, y, x % y, ?_, Nat.mod_lt _ (by omega), ?_, rfl⟩
    · show [some (V.int (y : Int)), some (.int ((x : Int) % (y : Int)))] = _
      rw [Int.natCast_emod]
    · rw [← hg, Nat.gcd_comm y, ← Nat.gcd_rec, Nat.gcd_comm]
/-- a fraction in lowest terms -/
def lowF (t u : Int) : Int × Int := (t / (Int.gcd t u : Nat), u / (Int.gcd t u : Nat))
def sp_fraction : Sp := fun vs H Q _ => ∃ t u : Int, vs = [.int t, .int u] ∧ 0 < u ∧ u < 2 ^ 1000 ∧ ∀ H' p, Same H H' → H p = none → H' p = some (.tup ([(lowF t u).1, (lowF t u).2].map V.int)) → Q (.ref p) H'
theorem G_fraction (T : Top K mg) : FnOk P w K mg base CX0 2 T.f_fraction T.fd_fraction ["top", "under"] sp_fraction := by
  refine T.F_fraction.ok sc_fraction (fun vs H Q E h => by obtain ⟨t, u, rfl, _⟩ := h; rfl) (fun cdv A outer s H vs Q E hr h => ?_)
  obtain ⟨t, u, rfl, hu, hz, q⟩ := h
  refine ⟨_, PSs.nox (pss_cons (ps_set (i := 2) sc_fraction.nd rfl (by first | exact Or.inl rfl | exact Or.inr rfl) (pe_call (G_common_divisor T) (hr.mono (by decide)) (by rfl) T.g_common_divisor T.F_common_divisor.kp T.b_common_divisor .nil pass0 (pa_cons (pv 0) (pa_cons (pv 1) pa_nil))))
  (pss_cons (ps_if (pt_cmpR op_lt (pv 1) pe_int (nomark _))
    (pss_one (ps_set (i := 2) sc_fraction.nd rfl (by first | exact Or.inl rfl | exact Or.inr rfl) (pe_op op_sub pe_int (pv 2))))
    pss_nil)
  (pss_one (ps_ret (pe_tup (pa_cons (pe_op op_fdivW (pv 0) (pv 2)) (pa_cons (pe_op op_fdivW (pv 1) (pv 2)) pa_nil))))))), ?_⟩
  have h1 : 0 < Int.gcd t u := Int.gcd_pos_of_ne_zero_right _ (by omega)
  have h2 : (Int.gcd t u : Int) ≤ u := Int.le_of_dvd hu (Int.gcd_dvd_right ..)
  have hw : ∀ x, CDivW x ((Int.gcd t u : Nat) : Int) := fun x => wide_div (b := 1000) (by omega) (by rw [Int.natAbs_natCast]; omega) (by decide) (by decide)
  walk_at "go"
  refine ⟨hw _, ?_⟩
  walk_at "go"
  refine ⟨hw _, (show 2 ≤ sizeLine by decide), fun p np => ?_⟩
  exact q _ p (same_upd np) np upd_same
theorem lowF_ok {t u : Int} (hu : 0 < u) : ∃ g : Int, 0 < g ∧ t = g * (lowF t u).1 ∧ u = g * (lowF t u).2 ∧ 0 < (lowF t u).2 := by
  have h1 : 0 < Int.gcd t u := Int.gcd_pos_of_ne_zero_right _ (by omega)
  have e1 := Int.mul_ediv_cancel' (Int.gcd_dvd_left (a := t) (b := u))
  have e2 := Int.mul_ediv_cancel' (Int.gcd_dvd_right (a := t) (b := u))
  refine ⟨(Int.gcd t u : Nat), by omega, e1.symm, e2.symm, ?_⟩
  show 0 < u / (Int.gcd t u : Nat)
  by_cases h : 0 < u / (Int.gcd t u : Nat)
  · exact h
  · have h3 : ((Int.gcd t u : Nat) : Int) * (u / (Int.gcd t u : Nat)) ≤ 0 := Int.mul_nonpos_of_nonneg_of_nonpos (by omega) (by omega)
    omega
theorem lowF_scale (t u : Int) {s : Int} (hs : 0 < s) : lowF (t * s) (u * s) = lowF t u := by
  unfold lowF
  rw [Int.gcd_mul_right]
  have e : ((t.gcd u * s.natAbs : Nat) : Int) = (t.gcd u : Nat) * s := by rw [Int.natCast_mul]; congr 1; omega
  rw [e, Int.mul_ediv_mul_of_pos_left _ _ hs, Int.mul_ediv_mul_of_pos_left _ _ hs]
/-- alike just if the products are -/
theorem lowF_eq {t u t' u' : Int} (hu : 0 < u) (hu' : 0 < u') : lowF t u = lowF t' u' ↔ t * u' = t' * u := by
  constructor
  · intro h
    obtain ⟨g, _, e1, e2, _⟩ := lowF_ok (t := t) hu
    obtain ⟨g', _, e1', e2', _⟩ := lowF_ok (t := t') hu'
    rw [h] at e1 e2
    generalize (lowF t' u').1 = x at *
    generalize (lowF t' u').2 = y at *
    rw [e1, e2, e1', e2']
    rw [Int.mul_assoc, Int.mul_assoc, Int.mul_left_comm x g' y, Int.mul_left_comm g g' , Int.mul_left_comm x g y]
  · intro h
    rw [← lowF_scale t u hu', ← lowF_scale t' u' hu, h, Int.mul_comm u u']
end
end My

namespace My
open PySem PySem.Spec PyProof.Rows L2 Pre
/-! ### what the counts compute, step by step -/
def chS (m n a : Nat) : Nat := n * (m - a) / (a + 1)
def chK (m f : Nat) : Nat := if m < f then 0 else (List.range f).foldl (chS m) 1
def lineS (last : List Int) (top : Nat) (line : List Int) (t : Nat) : List Int := line ++ [line.getLastD 0 + last.getD t 0 - (if top ≤ t then last.getD (t - top) 0 else 0)]
def lineK (last : List Int) (top m : Nat) : List Int := (List.range m).foldl (lineS last top) [0]
def rowK (m top : Nat) : Nat → List Int
  | 0 => 1 :: List.replicate m 0
  | r + 1 => lineK (rowK m top r) top m
def addAt (l : List Int) (k : Nat) (x : Int) : List Int := l.set k (l.getD k 0 + x)
def uS3 (L : Int) (h s t : Nat) (l : List Int) (o : Nat) : List Int := addAt l (2 * h - t - o) (L * (chK (s - t) o : Int))
def uL (m g h s t : Nat) : Int := (chK m s : Int) * (chK s t : Int) * (rowK m (g - 1) (s - t)).getD (h - t * g) 0
def uS2 (m g h s : Nat) (l : List Int) (t : Nat) : List Int := (List.range (if 0 < uL m g h s t then s - t + 1 else 0)).foldl (uS3 (uL m g h s t) h s t) l
def uS1 (m g h : Nat) (l : List Int) (s : Nat) : List Int := (List.range (min s (h / g) + 1)).foldl (uS2 m g h s) l
def uS0 (m g : Nat) (l : List Int) (h : Nat) : List Int := (List.range (min m h + 1)).foldl (uS1 m g h) l
def greatK (m d : Nat) : Nat := min (2 ^ (d - 1)) (m + 1)
def ucK (m d : Nat) : List Int := if d = 0 then 1 :: List.replicate (2 * m) 0 else (List.range (m + 1)).foldl (uS0 m (greatK m d)) (List.replicate (2 * m + 1) 0)
def lowK (m w c : Nat) : Int := if w = 0 then 1 else ((List.range (m + 1 - (m + 1 - c))).map fun i => (chK m ((m + 1 - c) + i) : Int)).sum * 2 ^ (m * (w - 1))
def sizesK (m b w : Nat) : List Int := (List.range (2 * m + 1)).map fun c => (ucK m (b - w)).getD c 0 * lowK m w c
def hmlS (m b size : Nat) (n : Int) (w : Nat) : Int := if m * (w + 1) ≤ size ∧ size - m * (w + 1) ≤ 2 * m then n + (sizesK m b w).getD (size - m * (w + 1)) 0 else n
def hmlK (m b size : Nat) : Int := (List.range (b + 1)).foldl (hmlS m b size) 0
def hmwK (m b w : Nat) : Int := if w ≤ b then (sizesK m b w).sum else 0
def meanS (m b : Nat) (t : Int) (w : Nat) : Int := (List.range (2 * m + 1)).foldl (fun (t : Int) (c : Nat) => t + (sizesK m b w).getD c 0 * ((m : Int) * ((w : Int) + 1) + (c : Int))) t
def meanT (m b : Nat) : Int := (List.range (b + 1)).foldl (meanS m b) 0
theorem fold_next {α : Type} (f : α → Nat → α) (a : α) (i : Nat) : (List.range (i + 1)).foldl f a = f ((List.range i).foldl f a) i := by
  rw [List.range_succ, List.foldl_append]
  rfl
/-! ### bounds -/
theorem ch_fold (m : Nat) : ∀ i, i ≤ m → (List.range i).foldl (chS m) 1 ≤ m ^ i
  | 0, _ => Nat.le_refl _
  | i + 1, h => by
    rw [fold_next]
    have e := ch_fold m i (Nat.le_of_succ_le h)
    unfold chS
    refine Nat.le_trans (Nat.div_le_self _ _) ?_
    rw [Nat.pow_succ]
    exact Nat.mul_le_mul e (Nat.sub_le _ _)
theorem pow_le40 {m i n : Nat} (hm : m ≤ n) (hi : i ≤ n) (h1 : 1 ≤ n) : m ^ i ≤ n ^ n := Nat.le_trans (Nat.pow_le_pow_left hm i) (Nat.pow_le_pow_right h1 hi)
theorem ch_le {m f : Nat} (hm : m ≤ 40) : chK m f < 2 ^ 300 := by
  unfold chK
  split
  · exact Nat.pow_pos (by decide)
  · rename_i h
    exact Nat.lt_of_le_of_lt (Nat.le_trans (ch_fold m f (by omega)) (pow_le40 (n := 40) hm (by omega) (by decide))) (by decide)
def Bnd (B : Nat) (l : List Int) : Prop := ∀ x ∈ l, x.natAbs ≤ B
theorem Bnd.mono {B C : Nat} {l : List Int} (h : Bnd B l) (k : B ≤ C) : Bnd C l := fun x hx => Nat.le_trans (h x hx) k
theorem Bnd.get {B : Nat} {l : List Int} (h : Bnd B l) (i : Nat) : (l.getD i 0).natAbs ≤ B := by
  rw [List.getD_eq_getElem?_getD]
  cases e : l[i]? with
  | none => exact Nat.zero_le _
  | some x => exact h x (List.mem_of_getElem? e)
theorem Bnd.last {B : Nat} {l : List Int} (h : Bnd B l) : (l.getLastD 0).natAbs ≤ B := by
  cases l with
  | nil => exact Nat.zero_le _
  | cons a l =>
    rw [List.getLastD_cons]
    cases e : l.getLast? with
    | none => rw [List.getLastD_eq_getLast?, e]; exact h a List.mem_cons_self
    | some x => rw [List.getLastD_eq_getLast?, e]; exact h x (List.mem_cons_of_mem _ (List.mem_of_getLast? e))
theorem line_bnd {B : Nat} {last : List Int} (top : Nat) (hl : Bnd B last) : ∀ t, Bnd (2 * B * t) ((List.range t).foldl (lineS last top) [0])
  | 0 => fun x hx => by rw [List.mem_singleton.mp hx]; exact Nat.zero_le _
  | t + 1 => by
    rw [fold_next]
    have ih := line_bnd top hl t
    generalize (List.range t).foldl (lineS last top) [0] = l at ih
    have e : 2 * B * (t + 1) = 2 * B * t + 2 * B := Nat.mul_succ _ _
    intro x hx
    rcases List.mem_append.mp hx with hx | hx
    · have := ih x hx
      omega
    · rw [List.mem_singleton.mp hx]
      have h1 := ih.last
      have h2 := hl.get t
      have h3 := hl.get (t - top)
      split <;> omega
theorem row_bnd (m top : Nat) : ∀ r, Bnd ((2 * m + 1) ^ r) (rowK m top r)
  | 0 => fun x hx => by
    rcases List.mem_cons.mp hx with rfl | hx
    · exact Nat.le_refl _
    · rw [(List.mem_replicate.mp hx).2]
      exact Nat.zero_le _
  | r + 1 => by
    refine Bnd.mono (line_bnd top (row_bnd m top r) m) ?_
    rw [Nat.pow_succ, Nat.mul_comm 2, Nat.mul_assoc]
    exact Nat.mul_le_mul_left _ (Nat.le_succ _)
theorem row_le {m top r : Nat} (hm : m ≤ 40) (hr : r ≤ 81) (i : Nat) : ((rowK m top r).getD i 0).natAbs < 2 ^ 600 :=
  Nat.lt_of_le_of_lt (Nat.le_trans ((row_bnd m top r).get i) (pow_le40 (n := 81) (by omega) hr (by decide))) (by decide)
theorem nat_wide {n a : Nat} (h : n < 2 ^ a) : ((n : Int)).natAbs < 2 ^ a := by rw [Int.natAbs_natCast]; exact h
theorem uL_le {m g h s t : Nat} (hm : m ≤ 40) (hs : s ≤ m) : (uL m g h s t).natAbs < 2 ^ 1200 :=
  wide_lt (a := 600) (b := 600) (wide_lt (a := 300) (b := 300) (nat_wide (ch_le hm)) (nat_wide (ch_le (Nat.le_trans hs hm)))) (row_le hm (by omega) _)
theorem Bnd.add {B L k : Nat} {l : List Int} {x : Int} (h : Bnd B l) (hx : x.natAbs ≤ L) : Bnd (B + L) (addAt l k x) := by
  intro y hy
  rcases List.mem_or_eq_of_mem_set hy with hy | rfl
  · have := h y hy
    omega
  · have := h.get k
    omega
theorem fold_bnd {D : Nat} {f : List Int → Nat → List Int} : ∀ {l : List Nat} {B : Nat} {a : List Int}, (∀ x ∈ l, ∀ (B : Nat) (a : List Int), Bnd B a → Bnd (B + D) (f a x)) → Bnd B a → Bnd (B + l.length * D) (l.foldl f a)
  | [], B, a, _, h => by simpa using h
  | x :: l, B, a, hf, h => by
    have ih := fold_bnd (l := l) (fun y hy => hf y (List.mem_cons_of_mem _ hy)) (hf x List.mem_cons_self B a h)
    rw [List.foldl_cons, List.length_cons, Nat.succ_mul]
    exact ih.mono (by omega)
theorem uc_bnd {m d : Nat} (hm : m ≤ 40) : Bnd (2 ^ 1600) (ucK m d) := by
  unfold ucK
  split
  · intro x hx
    rcases List.mem_cons.mp hx with rfl | hx
    · exact Nat.one_le_two_pow
    · rw [(List.mem_replicate.mp hx).2]
      exact Nat.zero_le _
  · have z : Bnd 0 (List.replicate (2 * m + 1) 0) := fun x hx => by rw [(List.mem_replicate.mp hx).2]; exact Nat.le_refl _
    have b3 : ∀ (h s t o B : Nat) (a : List Int), h ≤ m → s ≤ m → Bnd B a → Bnd (B + 2 ^ 1500) (uS3 (uL m (greatK m d) h s t) h s t a o) := fun h s t o B a _ hs hb =>
      hb.add (Nat.le_of_lt (wide_lt (a := 1200) (b := 300) (uL_le hm hs) (nat_wide (ch_le (by omega)))))
    have b2 : ∀ (h s t B : Nat) (a : List Int), h ≤ m → s ≤ m → Bnd B a → Bnd (B + 41 * 2 ^ 1500) (uS2 m (greatK m d) h s a t) := fun h s t B a hh hs hb => by
      refine (fold_bnd (D := 2 ^ 1500) (fun o _ B a hb => b3 h s t o B a hh hs hb) hb).mono (Nat.add_le_add_left (Nat.mul_le_mul_right _ ?_) _)
      rw [List.length_range]
      split <;> omega
    have b1 : ∀ (h s B : Nat) (a : List Int), h ≤ m → s ≤ m → Bnd B a → Bnd (B + 41 * (41 * 2 ^ 1500)) (uS1 m (greatK m d) h a s) := fun h s B a hh hs hb => by
      refine (fold_bnd (D := 41 * 2 ^ 1500) (fun t _ B a hb => b2 h s t B a hh hs hb) hb).mono (Nat.add_le_add_left (Nat.mul_le_mul_right _ ?_) _)
      rw [List.length_range]
      omega
    have b0 : ∀ (h B : Nat) (a : List Int), h ≤ m → Bnd B a → Bnd (B + 41 * (41 * (41 * 2 ^ 1500))) (uS0 m (greatK m d) a h) := fun h B a hh hb => by
      refine (fold_bnd (D := 41 * (41 * 2 ^ 1500)) (fun s hs B a hb => b1 h s B a hh (by have := List.mem_range.mp hs; omega) hb) hb).mono (Nat.add_le_add_left (Nat.mul_le_mul_right _ ?_) _)
      rw [List.length_range]
      omega
    refine (fold_bnd (D := 41 * (41 * (41 * 2 ^ 1500))) (fun h hh B a hb => b0 h B a (by have := List.mem_range.mp hh; omega) hb) z).mono ?_
    rw [List.length_range, Nat.zero_add]
    refine Nat.le_trans (Nat.mul_le_mul_right _ (show m + 1 ≤ 41 by omega)) (by decide)
/-! ### lengths -/
theorem line_len (last : List Int) (top : Nat) : ∀ t, ((List.range t).foldl (lineS last top) [0]).length = t + 1
  | 0 => rfl
  | t + 1 => by
    rw [fold_next]
    have ih := line_len last top t
    generalize (List.range t).foldl (lineS last top) [0] = l at ih
    show (l ++ [_]).length = _
    rw [List.length_append, ih]
    rfl
theorem row_len (m top r : Nat) : (rowK m top r).length = m + 1 := by
  cases r with
  | zero => show (1 :: List.replicate m 0).length = _; rw [List.length_cons, List.length_replicate]
  | succ r => exact line_len _ _ m
theorem add_len (l : List Int) (k : Nat) (x : Int) : (addAt l k x).length = l.length := List.length_set ..
theorem fold_len {f : List Int → Nat → List Int} (hf : ∀ a x, (f a x).length = a.length) : ∀ (l : List Nat) (a : List Int), (l.foldl f a).length = a.length
  | [], _ => rfl
  | x :: l, a => by rw [List.foldl_cons, fold_len hf l, hf]
theorem u3_len (L : Int) (h s t : Nat) (a : List Int) (o : Nat) : (uS3 L h s t a o).length = a.length := add_len ..
theorem u2_len (m g h s : Nat) (a : List Int) (t : Nat) : (uS2 m g h s a t).length = a.length := fold_len (u3_len _ h s t) _ _
theorem u1_len (m g h : Nat) (a : List Int) (s : Nat) : (uS1 m g h a s).length = a.length := fold_len (u2_len m g h s) _ _
theorem u0_len (m g : Nat) (a : List Int) (h : Nat) : (uS0 m g a h).length = a.length := fold_len (u1_len m g h) _ _
theorem uc_len (m d : Nat) : (ucK m d).length = 2 * m + 1 := by
  unfold ucK
  split
  · rw [List.length_cons, List.length_replicate]
  · rw [fold_len (u0_len m _), List.length_replicate]
theorem sizes_len (m b w : Nat) : (sizesK m b w).length = 2 * m + 1 := by unfold sizesK; rw [List.length_map, List.length_range]
end My

namespace My
open PySem PySem.Spec PyProof.Rows L2 Pre
theorem mulX_ok {i j : Int} {a b : Nat} (hi : i.natAbs < 2 ^ a) (hj : j.natAbs < 2 ^ b) (h : a + b ≤ 100000) : CMulX i j := by
  have x := PyProof.Rows.intBits_le hi
  have y := PyProof.Rows.intBits_le hj
  unfold CMulX
  omega
theorem rep0 (m : Nat) : (List.replicate m [V.int 0]).flatten = (List.replicate m (0 : Int)).map V.int := by
  induction m with
  | zero => rfl
  | succ n ih => rw [List.replicate_succ, List.flatten_cons, ih, List.replicate_succ]; rfl
theorem at_neg1 {α : Type} {xs : List α} {n : Nat} (h : xs.length = n + 1) : atI xs (-1) = xs[n]? := by
  have e : ixN xs.length (-1) = some n := by
    unfold ixN
    rw [if_neg (by omega)]
    simp
    omega
  unfold atI
  rw [e]
  rfl
local macro_rules | `(tactic| walk_at "go") => `(tactic| repeat (first | (with_reducible first | refine iteT ?_ | refine iteF ?_ | refine iteNtt ?_ | refine iteNff ?_ | refine iteET (by omega) ?_ | refine iteEF (by omega) ?_ | refine iteENT (by omega) ?_ | refine iteENF (by omega) ?_ | refine iteDT (by omega) ?_ | refine iteDF (by omega) ?_ | refine iteNT (by omega) ?_ | refine iteNF (by omega) ?_) | refine ⟨_, rfl, ?_⟩ | refine ⟨_, _, rfl, rfl, ?_⟩ | refine ⟨_, _, rfl, ?_⟩ | refine ⟨rfl, ?_⟩ | refine .inl ⟨_, rfl, ?_⟩ | refine .inr ⟨_, rfl, ?_⟩))
local macro_rules | `(tactic| walk_at "b") => `(tactic| try dsimp (config := { proj := false, iota := false, eta := false, zeta := false }) only)
section
variable {P : Program} {w : World} {K : PySem.W.Frag} {mg : Str → Option Value} {base : Heap}
def sp_choices : Sp := fun vs H Q _ => ∃ m f : Nat, vs = [.int m, .int f] ∧ m ≤ 40 ∧ Q (.int (chK m f)) H
theorem G_choices (T : Top K mg) : FnOk P w K mg base CX0 1 T.f_choices T.fd_choices ["many", "few"] sp_choices := by
  refine T.F_choices.ok sc_choices (fun vs H Q E h => by obtain ⟨m, f, rfl, _⟩ := h; rfl) (fun cdv A outer s H vs Q E hr h => ?_)
  obtain ⟨m, f, rfl, hm, q⟩ := h
  refine ⟨_, PSs.nox (pss_cons (ps_if (PW.pt (pw_or (pt_cmpR op_lt (pv 1) pe_int (nomark _)) (pw_or1 (pt_cmpR op_gt (pv 1) (pv 0) (nomark _)))))
    (pss_one (ps_ret pe_int))
    pss_nil)
  (pss_cons (ps_set (i := 2) sc_choices.nd rfl (by first | exact Or.inl rfl | exact Or.inr rfl) pe_int)
  (pss_cons (ps_for PassesOwn.never rfl (pi_range1 (by rfl) T.n_range (pa_cons (pv 1) pa_nil)) (pg_name (i := 3) sc_choices.nd rfl (by first | exact Or.inl rfl | exact Or.inr rfl))
    (pss_one (ps_set (i := 2) sc_choices.nd rfl (by first | exact Or.inl rfl | exact Or.inr rfl) (pe_op op_fdivW (pe_op op_mul (pv 2) (pe_op op_sub (pv 0) (pv 3))) (pe_op op_add (pv 3) pe_int)))))
  (pss_one (ps_ret (pv 2)))))), ?_⟩
  walk_at "go"
  refine ite2 (fun e => ?_) (fun e => ?_)
  · have h : (f : Int) > m := of_decide_eq_true e
    rw [show chK m f = 0 from if_pos (by omega)] at q
    exact q
  · have h : ¬ (f : Int) > m := of_decide_eq_false (by rwa [Bool.not_eq_true] at e)
    walk_at "go"
    refine ⟨by omega, by omega, ?_⟩
    rw [Int.toNat_natCast]
    refine for_range (lo := 0) (n := f) (fun i σ H1 => ∃ v3, σ = [some (.int m), some (.int f), some (.int (((List.range i).foldl (chS m) 1 : Nat) : Int)), v3] ∧ H1 = H) ⟨none, rfl, rfl⟩ ?_ ?_
    · rintro i σ H1 hi ⟨v3, rfl, rfl⟩
      walk_at "go"
      refine ⟨.inr ⟨by omega, by omega⟩, ?_⟩
      walk_at "go"
      refine ⟨wide_div (b := 60) (by omega) (by omega) (by decide) (by decide), ?_⟩
      walk_at "go"
      refine ⟨some (.int (0 + (i : Int))), ?_, rfl⟩
      rw [fold_next]
      generalize (List.range i).foldl (chS m) 1 = n
      show _ = [some (V.int (m : Int)), some (.int (f : Int)), some (.int ((n * (m - i) / (i + 1) : Nat) : Int)), some (.int (0 + (i : Int)))]
      rw [Int.natCast_ediv, Int.natCast_mul, Int.natCast_sub (by omega)]
      simp only [Int.zero_add, Int.natCast_add]
      rfl
    · rintro σ H1 ⟨v3, rfl, rfl⟩
      rw [show chK m f = (List.range f).foldl (chS m) 1 from if_neg (by omega)] at q
      walk_at "go"
      exact q
def sp_capped_sums : Sp := fun vs H Q _ => ∃ m t : Nat, vs = [.int m, .int t] ∧ m ≤ 40 ∧ ∀ H' p, Same H H' → H p = none → RowsIn H' p ((List.range (m + 1)).map (rowK m t)) → Q (.ref p) H'
theorem G_capped_sums (T : Top K mg) : FnOk P w K mg base CX0 1 T.f_capped_sums T.fd_capped_sums ["many", "top"] sp_capped_sums := by
  refine T.F_capped_sums.ok sc_capped_sums (fun vs H Q E h => by obtain ⟨m, t, rfl, _⟩ := h; rfl) (fun cdv A outer s H vs Q E hr h => ?_)
  obtain ⟨m, t, rfl, hm, q⟩ := h
  refine ⟨_, PSs.nox (pss_cons (ps_set (i := 2) sc_capped_sums.nd rfl (by first | exact Or.inl rfl | exact Or.inr rfl) (pe_lst (pa_cons (pe_op op_cat (pe_lst (pa_cons pe_int pa_nil)) (pe_op op_rep (pe_lst (pa_cons pe_int pa_nil)) (pv 0))) pa_nil)))
  (pss_cons (ps_for PassesOwn.never rfl (pi_range1 (by rfl) T.n_range (pa_cons (pv 0) pa_nil)) (pg_name (i := 3) sc_capped_sums.nd rfl (by first | exact Or.inl rfl | exact Or.inr rfl))
    (pss_cons (ps_par (by rfl) sc_capped_sums.nd (i := 5) (j := 6) rfl rfl (by decide) rfl rfl (pa_cons (pe_lst (pa_cons pe_int pa_nil)) (pa_cons (pe_ix (k_ixL K rfl) (pv 2) (pe_un un_neg pe_int) (fun _ _ => rfl)) pa_nil)) (by rfl))
  (pss_cons (ps_for PassesOwn.never rfl (pi_range2 (by rfl) T.n_range (pa_cons pe_int (pa_cons (pe_op op_add (pv 0) pe_int) pa_nil))) (pg_name (i := 4) sc_capped_sums.nd rfl (by first | exact Or.inl rfl | exact Or.inr rfl))
    (pss_one (ps_expr (pe_bm PySem.F.plainAttrs_list PySem.F.slot_list_append PySem.F.type_list_append mt_append (pv 5) (pa_cons (pe_op op_sub (pe_op op_add (pe_ix (k_ixL K rfl) (pv 5) (pe_un un_neg pe_int) (fun _ _ => rfl)) (pe_ix (k_ixL K rfl) (pv 6) (pe_op op_sub (pv 4) pe_int) (fun _ _ => rfl))) (pe_ifExp (pt_cmpR op_ge (pe_op op_sub (pe_op op_sub (pv 4) pe_int) (pv 1)) pe_int (nomark _)) (pe_ix (k_ixL K rfl) (pv 6) (pe_op op_sub (pe_op op_sub (pv 4) pe_int) (pv 1)) (fun _ _ => rfl)) pe_int)) pa_nil)))))
  (pss_one (ps_expr (pe_bm PySem.F.plainAttrs_list PySem.F.slot_list_append PySem.F.type_list_append mt_append (pv 2) (pa_cons (pv 5) pa_nil)))))))
  (pss_one (ps_ret (pv 2))))), ?_⟩
  refine ⟨(show 1 ≤ sizeLine by decide), fun a1 n1 => ?_⟩
  obtain ⟨H1, e1, s1, h1⟩ := fresh (.lst [V.int 1]) n1
  rw [e1]
  refine ⟨(show 1 ≤ sizeLine by decide), fun a2 n2 => ?_⟩
  obtain ⟨H2, e2, s2, h2⟩ := fresh (.lst [V.int 0]) n2
  rw [e2]
  refine ⟨_, rfl, a2, _, _, rfl, rfl, h2, by omega, by omega, by rw [Int.toNat_natCast]; show 1 * m ≤ _; rw [sizeLine_eq]; omega, fun a3 n3 => ?_⟩
  rw [Int.toNat_natCast, rep0]
  obtain ⟨H3, e3, s3, h3⟩ := fresh (.lst ((List.replicate m (0 : Int)).map V.int)) n3
  rw [e3]
  refine ⟨a1, a3, _, _, rfl, rfl, s3 _ _ (s2 _ _ h1), h3, by rw [List.length_map, List.length_replicate, sizeLine_eq]; show 1 + m ≤ _; omega, fun a4 n4 => ?_⟩
  obtain ⟨H4, e4, s4, h4⟩ := fresh (.lst ([V.int 1] ++ (List.replicate m (0 : Int)).map V.int)) n4
  rw [e4]
  refine ⟨(show 1 ≤ sizeLine by decide), fun p np => ?_⟩
  obtain ⟨H5, e5, s5, h5⟩ := fresh (.lst [V.ref a4]) np
  rw [e5]
  have s05 := (((s1.trans s2).trans s3).trans s4).trans s5
  have npH := (((s1.trans s2).trans s3).trans s4).free np
  walk_at "go"
  refine ⟨by omega, by omega, ?_⟩
  rw [Int.toNat_natCast]
  refine for_range (lo := 0) (n := m) (fun i σ H6 => ∃ (v3 v4 v5 v6 : Option V), σ = [some (.int m), some (.int t), some (.ref p), v3, v4, v5, v6] ∧ Same H H6 ∧ RowsIn H6 p ((List.range (i + 1)).map (rowK m t))) ⟨none, none, none, none, rfl, s05, [a4], h5, rfl, ?_⟩ ?_ ?_
  · intro i a r ha hr
    cases i with
    | succ i => cases ha
    | zero =>
      cases ha
      cases hr
      exact s5 _ _ h4
  · rintro i σ H6 hi ⟨v3, v4, v5, v6, rfl, s6, as, hp, hl, hrows⟩
    rw [List.length_map, List.length_range] at hl
    obtain ⟨b, hb⟩ : ∃ b, as[i]? = some b := ⟨_, List.getElem?_eq_getElem (by omega)⟩
    have hB := hrows i b (rowK m t i) hb (by rw [List.getElem?_map, List.getElem?_range (by omega)]; rfl)
    refine ⟨(show 1 ≤ sizeLine by decide), fun a na => ?_⟩
    obtain ⟨H7, e7, s7, h7⟩ := fresh (.lst [V.int 0]) na
    rw [e7]
    have npa := ne_of_none hp na
    refine ⟨_, rfl, _, rfl, p, _, _, .ref b, rfl, rfl, .inl (.inl (s7 _ _ hp)), ?_, ?_⟩
    · show atI (as.map V.ref) (-1) = _
      rw [at_neg1 (n := i) (by rw [List.length_map]; exact hl), List.getElem?_map, hb]
      rfl
    walk_at "go"
    refine ⟨⟨by omega, by omega, by omega, by omega⟩, ?_⟩
    rw [show ((m : Int) + 1 - 1).toNat = m by omega]
    walk_at "b"
    refine for_range (lo := 1) (n := m) (fun j σ H8 => ∃ (v4 : Option V), σ = [some (.int m), some (.int t), some (.ref p), some (.int (0 + (i : Int))), v4, some (.ref a), some (.ref b)] ∧ Same H6 H8 ∧ H8 a = some (.lst (((List.range j).foldl (lineS (rowK m t i) t) [0]).map V.int))) ⟨v4, rfl, s7, h7⟩ ?_ ?_
    · rintro j σ H8 hj ⟨v4, rfl, s8, ha⟩
      have hl8 := line_len (rowK m t i) t j
      have hr8 := row_len m t i
      have hn8 := fold_next (lineS (rowK m t i) t) [0] j
      generalize (List.range j).foldl (lineS (rowK m t i) t) [0] = l at ha hl8 hn8
      have naH6 : ∀ x o, H6 x = some o → x ≠ a := fun x o hx => ne_of_none hx na
      have hlast : atI (l.map V.int) (-1) = some (.int (l.getLastD 0)) := by
        rw [at_neg1 (n := j) (by rw [List.length_map]; exact hl8), List.getElem?_map, List.getLastD_eq_getLast?, List.getLast?_eq_getElem?, show l.length - 1 = j by omega, List.getElem?_eq_getElem (by omega)]
        rfl
      have hB8 : SqL K H8 b ((rowK m t i).map V.int) := .inl (.inl (s8 _ _ hB))
      walk_at "go"
      refine ⟨.inl ⟨rfl, _, .inl (.inl ha)⟩, ?_⟩
      walk_at "go"
      refine ⟨a, _, _, _, rfl, rfl, .inl (.inl ha), hlast, ?_⟩
      walk_at "go"
      refine ⟨b, _, _, .int ((rowK m t i).getD j 0), rfl, rfl, hB8, ?_, ?_⟩
      · rw [show (1 + (j : Int)) - 1 = (j : Int) by omega]
        exact at_ints (by omega)
      walk_at "go"
      have tail : ∀ z : Int, (if t ≤ j then (rowK m t i).getD (j - t) 0 else 0) = z → L2.upd H8 a (.lst (l.map V.int ++ [.int (l.getLastD 0 + (rowK m t i).getD j 0 - z)])) a = some (.lst ((lineS (rowK m t i) t l j).map V.int)) := fun z hz => by
        rw [upd_same]
        unfold lineS
        rw [hz, List.map_append]
        rfl
      refine ite2 (fun e => ?_) (fun e => ?_)
      · have e1 : (0 : Int) ≤ 1 + (j : Int) - 1 - t := of_decide_eq_true e
        walk_at "go"
        refine ⟨b, _, _, .int ((rowK m t i).getD (j - t) 0), rfl, rfl, hB8, ?_, ?_⟩
        · rw [show (1 + (j : Int)) - 1 - t = ((j - t : Nat) : Int) by omega]
          exact at_ints (by omega)
        walk_at "go"
        refine ⟨a, _, _, rfl, rfl, ha, by rw [List.length_map, hl8]; exact small1000 (by omega), ?_⟩
        refine ⟨_, rfl, fun x o hx => ?_, ?_⟩
        · rw [upd_ne (naH6 x o hx)]
          exact s8 x o hx
        · rw [hn8]
          exact tail _ (if_pos (by omega))
      · have e1 : ¬ (0 : Int) ≤ 1 + (j : Int) - 1 - t := of_decide_eq_false (by rwa [Bool.not_eq_true] at e)
        walk_at "go"
        refine ⟨a, _, _, rfl, rfl, ha, by rw [List.length_map, hl8]; exact small1000 (by omega), ?_⟩
        refine ⟨_, rfl, fun x o hx => ?_, ?_⟩
        · rw [upd_ne (naH6 x o hx)]
          exact s8 x o hx
        · rw [hn8]
          exact tail _ (if_neg (by omega))
    · rintro σ H8 ⟨v4, rfl, s8, ha⟩
      walk_at "go"
      refine ⟨.inl ⟨rfl, _, .inl (.inl (s8 _ _ hp))⟩, ?_⟩
      walk_at "go"
      refine ⟨p, _, _, rfl, rfl, s8 _ _ hp, by rw [List.length_map, hl]; exact small1000 (by omega), ?_⟩
      have npa : p ≠ a := ne_of_none hp na
      refine ⟨_, _, _, _, rfl, fun x o hx => ?_, as ++ [a], ?_, ?_, ?_⟩
      · rw [upd_ne (ne_of_none hx npH)]
        exact s8 _ _ (s6 x o hx)
      · rw [upd_same, List.map_append]
        rfl
      · rw [List.length_append, hl, List.length_map, List.length_range]
        rfl
      · intro k c r hk hr
        have hkl : k < i + 1 + 1 := by have := (List.getElem?_eq_some_iff.mp hr).1; rwa [List.length_map, List.length_range] at this
        rw [List.getElem?_map, List.getElem?_range hkl] at hr
        cases hr
        by_cases hki : k < i + 1
        · rw [List.getElem?_append_left (by omega)] at hk
          have h9 := hrows k c (rowK m t k) hk (by rw [List.getElem?_map, List.getElem?_range hki]; rfl)
          have ncp : c ≠ p := fun z => by
            rw [z, hp] at h9
            have := HO.lst.inj (Option.some.inj h9)
            rw [show as = _ from rfl] at this
            have l1 := congrArg (fun l => l[0]?) this
            cases as with
            | nil => simp at hl
            | cons x as => cases hq : rowK m t k with
              | nil => have := row_len m t k; rw [hq] at this; simp at this
              | cons y ys => rw [hq] at l1; simp at l1
          rw [upd_ne ncp]
          exact s8 _ _ h9
        · have hke : k = i + 1 := by omega
          subst hke
          rw [List.getElem?_append_right (by omega), hl, Nat.sub_self] at hk
          cases hk
          rw [upd_ne npa.symm]
          exact ha
  · rintro σ H6 ⟨v3, v4, v5, v6, rfl, s6, hR⟩
    walk_at "go"
    exact q _ p s6 npH hR
end
end My

namespace My
open PySem PySem.Spec PyProof.Rows L2 Pre
theorem great_pos (m d : Nat) : 1 ≤ greatK m d := Nat.le_min.mpr ⟨Nat.one_le_two_pow, Nat.le_add_left _ _⟩
theorem great_le (m d : Nat) : greatK m d ≤ m + 1 := Nat.min_le_right _ _
theorem great_eq (m d : Nat) (hd : 1 ≤ d) : (if ((m : Int) + 1) < 1 * 2 ^ ((d : Int) - 1).toNat then (m : Int) + 1 else 1 * 2 ^ ((d : Int) - 1).toNat) = (greatK m d : Int) := by
  have e : ((d : Int) - 1).toNat = d - 1 := by omega
  have e2 : (1 : Int) * 2 ^ (d - 1) = ((2 ^ (d - 1) : Nat) : Int) := by rw [Int.natCast_pow, Int.one_mul]; rfl
  unfold greatK
  rw [e, e2]
  generalize 2 ^ (d - 1) = k
  split <;> omega
theorem min_eqI (a b : Nat) : (if (b : Int) < (a : Int) then (b : Int) else (a : Int)) = ((min a b : Nat) : Int) := by split <;> omega
local macro_rules | `(tactic| walk_at "go") => `(tactic| repeat (first | (with_reducible first | refine iteT ?_ | refine iteF ?_ | refine iteNtt ?_ | refine iteNff ?_ | refine iteET (by omega) ?_ | refine iteEF (by omega) ?_ | refine iteENT (by omega) ?_ | refine iteENF (by omega) ?_ | refine iteDT (by omega) ?_ | refine iteDF (by omega) ?_ | refine iteNT (by omega) ?_ | refine iteNF (by omega) ?_) | refine ⟨_, rfl, ?_⟩ | refine ⟨_, _, rfl, rfl, ?_⟩ | refine ⟨_, _, rfl, ?_⟩ | refine ⟨rfl, ?_⟩ | refine .inl ⟨_, rfl, ?_⟩ | refine .inr ⟨_, rfl, ?_⟩))
local macro_rules | `(tactic| walk_at "b") => `(tactic| try dsimp (config := { proj := false, iota := false, eta := false, zeta := false }) only)
section
variable {P : Program} {w : World} {K : PySem.W.Frag} {mg : Str → Option Value} {base : Heap}
def sp_upper_counts : Sp := fun vs H Q _ => ∃ m d : Nat, vs = [.int m, .int d] ∧ 1 ≤ m ∧ m ≤ 40 ∧ d ≤ 100 ∧ ∀ H' p, Same H H' → H p = none → H' p = some (.lst ((ucK m d).map V.int)) → Q (.ref p) H'
theorem G_upper_counts (T : Top K mg) : FnOk P w K mg base CX0 2 T.f_upper_counts T.fd_upper_counts ["many", "deep"] sp_upper_counts := by
  refine T.F_upper_counts.ok sc_upper_counts (fun vs H Q E h => by obtain ⟨m, d, rfl, _⟩ := h; rfl) (fun cdv A outer s H vs Q E hr h => ?_)
  obtain ⟨m, d, rfl, hm1, hm, hd, q⟩ := h
  refine ⟨_, PSs.nox (pss_cons (ps_if (pt_cmpR op_eq (pv 1) pe_int (nomark _))
    (pss_one (ps_ret (pe_op op_cat (pe_lst (pa_cons pe_int pa_nil)) (pe_op op_rep (pe_lst (pa_cons pe_int pa_nil)) (pe_op op_mulX pe_int (pv 0))))))
    pss_nil)
  (pss_cons (ps_set (i := 2) sc_upper_counts.nd rfl (by first | exact Or.inl rfl | exact Or.inr rfl) (pe_callB (call_min2 rfl) (by rfl) T.n_min (by decide +kernel) (pa_cons (pe_op op_shlW pe_int (pe_op op_sub (pv 1) pe_int)) (pa_cons (pe_op op_add (pv 0) pe_int) pa_nil))))
  (pss_cons (ps_par (by rfl) sc_upper_counts.nd (i := 4) (j := 5) rfl rfl (by decide) rfl rfl (pa_cons (pe_call (G_capped_sums T) (hr.mono (by decide)) (by rfl) T.g_capped_sums T.F_capped_sums.kp T.b_capped_sums .nil pass0 (pa_cons (pv 0) (pa_cons (pe_op op_sub (pv 2) pe_int) pa_nil))) (pa_cons (pe_op op_rep (pe_lst (pa_cons pe_int pa_nil)) (pe_op op_add (pe_op op_mulX pe_int (pv 0)) pe_int)) pa_nil)) (by rfl))
  (pss_cons (ps_for PassesOwn.never rfl (pi_range1 (by rfl) T.n_range (pa_cons (pe_op op_add (pv 0) pe_int) pa_nil)) (pg_name (i := 3) sc_upper_counts.nd rfl (by first | exact Or.inl rfl | exact Or.inr rfl))
    (pss_one (ps_for PassesOwn.never rfl (pi_range1 (by rfl) T.n_range (pa_cons (pe_op op_add (pe_callB (call_min2 rfl) (by rfl) T.n_min (by decide +kernel) (pa_cons (pv 0) (pa_cons (pv 3) pa_nil))) pe_int) pa_nil)) (pg_name (i := 6) sc_upper_counts.nd rfl (by first | exact Or.inl rfl | exact Or.inr rfl))
    (pss_one (ps_for PassesOwn.never rfl (pi_range1 (by rfl) T.n_range (pa_cons (pe_op op_add (pe_callB (call_min2 rfl) (by rfl) T.n_min (by decide +kernel) (pa_cons (pv 6) (pa_cons (pe_op op_fdivW (pv 3) (pv 2)) pa_nil))) pe_int) pa_nil)) (pg_name (i := 7) sc_upper_counts.nd rfl (by first | exact Or.inl rfl | exact Or.inr rfl))
    (pss_cons (ps_set (i := 8) sc_upper_counts.nd rfl (by first | exact Or.inl rfl | exact Or.inr rfl) (pe_op op_mulX (pe_op op_mulX (pe_call (G_choices T) (hr.mono (by decide)) (by rfl) T.g_choices T.F_choices.kp T.b_choices .nil pass0 (pa_cons (pv 0) (pa_cons (pv 6) pa_nil))) (pe_call (G_choices T) (hr.mono (by decide)) (by rfl) T.g_choices T.F_choices.kp T.b_choices .nil pass0 (pa_cons (pv 6) (pa_cons (pv 7) pa_nil)))) (pe_ix (k_ixL K rfl) (pe_ix (k_ixL K rfl) (pv 4) (pe_op op_sub (pv 6) (pv 7)) (fun _ _ => rfl)) (pe_op op_sub (pv 3) (pe_op op_mulX (pv 7) (pv 2))) (fun _ _ => rfl))))
  (pss_one (ps_for PassesOwn.never rfl (pi_range1 (by rfl) T.n_range (pa_cons (pe_ifExp (pt_cmpR op_gt (pv 8) pe_int (nomark _)) (pe_op op_add (pe_op op_sub (pv 6) (pv 7)) pe_int) pe_int) pa_nil)) (pg_name (i := 9) sc_upper_counts.nd rfl (by first | exact Or.inl rfl | exact Or.inr rfl))
    (pss_one (ps_augS (pv 5) (pe_op op_sub (pe_op op_sub (pe_op op_mulX pe_int (pv 3)) (pv 7)) (pv 9)) (k_getL K rfl) (pe_op op_mulX (pv 8) (pe_call (G_choices T) (hr.mono (by decide)) (by rfl) T.g_choices T.F_choices.kp T.b_choices .nil pass0 (pa_cons (pe_op op_sub (pv 6) (pv 7)) (pa_cons (pv 9) pa_nil)))) ip_add set_list))))))))))
  (pss_one (ps_ret (pv 5))))))), ?_⟩
  walk_at "go"
  have m2 : CMulX 2 (m : Int) := mulX_ok (a := 10) (b := 10) (by decide) (by omega) (by decide)
  by_cases hz : d = 0
  · subst hz
    refine iteET rfl ?_
    refine ⟨(show 1 ≤ sizeLine by decide), fun a1 n1 => ?_⟩
    obtain ⟨H1, e1, s1, h1⟩ := fresh (.lst [V.int 1]) n1
    rw [e1]
    refine ⟨(show 1 ≤ sizeLine by decide), fun a2 n2 => ?_⟩
    obtain ⟨H2, e2, s2, h2⟩ := fresh (.lst [V.int 0]) n2
    rw [e2]
    walk_at "go"
    refine ⟨m2, a2, _, _, rfl, rfl, h2, by omega, by omega, by rw [show (2 * (m : Int)).toNat = 2 * m by omega]; show 1 * (2 * m) ≤ _; rw [sizeLine_eq]; omega, fun a3 n3 => ?_⟩
    rw [show (2 * (m : Int)).toNat = 2 * m by omega, rep0]
    obtain ⟨H3, e3, s3, h3⟩ := fresh (.lst ((List.replicate (2 * m) (0 : Int)).map V.int)) n3
    rw [e3]
    refine ⟨a1, a3, _, _, rfl, rfl, s3 _ _ (s2 _ _ h1), h3, by rw [List.length_map, List.length_replicate, sizeLine_eq]; show 1 + 2 * m ≤ _; omega, fun p np => ?_⟩
    have s03 := (s1.trans s2).trans s3
    exact q _ p (s03.trans (same_upd np)) (s03.free np) upd_same
  · refine iteEF (by omega) ?_
    walk_at "go"
    refine ⟨⟨by omega, by rw [show Builtin.Int.intBits 1 = 1 by decide]; omega⟩, ?_⟩
    walk_at "go"
    rw [great_eq m d (by omega)]
    have g1 := great_pos m d
    have g2 := great_le m d
    have huc : ucK m d = (List.range (m + 1)).foldl (uS0 m (greatK m d)) (List.replicate (2 * m + 1) 0) := if_neg hz
    rw [huc] at q
    generalize greatK m d = g at *
    refine ⟨m, g - 1, by show [V.int (m : Int), V.int ((g : Int) - 1)] = _; rw [show (g : Int) - 1 = ((g - 1 : Nat) : Int) by omega], hm, fun H1 G s1 nG hG => ?_⟩
    refine ⟨(show 1 ≤ sizeLine by decide), fun a2 n2 => ?_⟩
    obtain ⟨H2, e2, s2, h2⟩ := fresh (.lst [V.int 0]) n2
    rw [e2]
    walk_at "go"
    refine ⟨m2, ?_⟩
    walk_at "go"
    refine ⟨a2, _, _, rfl, rfl, h2, by omega, by omega, by rw [show (2 * (m : Int) + 1).toNat = 2 * m + 1 by omega]; show 1 * (2 * m + 1) ≤ _; rw [sizeLine_eq]; omega, fun T nT => ?_⟩
    rw [show (2 * (m : Int) + 1).toNat = 2 * m + 1 by omega, rep0]
    obtain ⟨H3, e3, s3, h3⟩ := fresh (.lst ((List.replicate (2 * m + 1) (0 : Int)).map V.int)) nT
    rw [e3]
    have nTH : H T = none := (s1.trans s2).free nT
    obtain ⟨as, hGp, hGl, hGr⟩ := hG.same s2
    rw [List.length_map, List.length_range] at hGl
    walk_at "go"
    refine ⟨by omega, by omega, ?_⟩
    rw [show ((m : Int) + 1).toNat = m + 1 by omega]
    have z0 : (List.replicate (2 * m + 1) (0 : Int)).length = 2 * m + 1 := List.length_replicate
    generalize List.replicate (2 * m + 1) (0 : Int) = z at *
    walk_at "b"
    refine for_range (lo := 0) (n := m + 1) (fun h σ H4 => ∃ (v3 v6 v7 v8 v9 : Option V), σ = [some (.int m), some (.int d), some (.int g), v3, some (.ref G), some (.ref T), v6, v7, v8, v9] ∧ Same H2 H4 ∧ H4 T = some (.lst (((List.range h).foldl (uS0 m g) z).map V.int))) ⟨_, _, _, _, _, rfl, s3, h3⟩ ?_ ?_
    · rintro h σ H4 hh ⟨v3, v6, v7, v8, v9, rfl, s4, h4⟩
      rw [Int.zero_add, fold_next]
      have l4 : ((List.range h).foldl (uS0 m g) z).length = 2 * m + 1 := by rw [fold_len (u0_len m g), z0]
      generalize (List.range h).foldl (uS0 m g) z = la at *
      walk_at "go"
      rw [min_eqI]
      refine ⟨by omega, by omega, ?_⟩
      rw [show (((min m h : Nat) : Int) + 1).toNat = min m h + 1 by omega]
      walk_at "b"
      refine for_range (lo := 0) (n := min m h + 1) (fun s σ H5 => ∃ (v6 v7 v8 v9 : Option V), σ = [some (.int m), some (.int d), some (.int g), some (.int h), some (.ref G), some (.ref T), v6, v7, v8, v9] ∧ Same H2 H5 ∧ H5 T = some (.lst (((List.range s).foldl (uS1 m g h) la).map V.int))) ⟨_, _, _, _, rfl, s4, h4⟩ ?_ ?_
      · rintro s σ H5 hs ⟨v6, v7, v8, v9, rfl, s5, h5⟩
        rw [Int.zero_add, fold_next]
        have l5 : ((List.range s).foldl (uS1 m g h) la).length = 2 * m + 1 := by rw [fold_len (u1_len m g h), l4]
        generalize (List.range s).foldl (uS1 m g h) la = lb at *
        walk_at "go"
        refine ⟨wide_div (b := 60) (by omega) (by omega) (by decide) (by decide), ?_⟩
        walk_at "go"
        rw [← Int.natCast_ediv, min_eqI]
        obtain ⟨c, hc⟩ : ∃ c, c = min s (h / g) := ⟨_, rfl⟩
        have hc1 : c ≤ s := by rw [hc]; exact Nat.min_le_left _ _
        have hc2 : c ≤ h / g := by rw [hc]; exact Nat.min_le_right _ _
        rw [← hc]
        refine ⟨by omega, by omega, ?_⟩
        rw [show ((c : Int) + 1).toNat = c + 1 by omega]
        walk_at "b"
        refine for_range (lo := 0) (n := c + 1) (fun t σ H6 => ∃ (v7 v8 v9 : Option V), σ = [some (.int m), some (.int d), some (.int g), some (.int h), some (.ref G), some (.ref T), some (.int s), v7, v8, v9] ∧ Same H2 H6 ∧ H6 T = some (.lst (((List.range t).foldl (uS2 m g h s) lb).map V.int))) ⟨_, _, _, rfl, s5, h5⟩ ?_ ?_
        · rintro t σ H6 ht ⟨v7, v8, v9, rfl, s6, h6⟩
          rw [Int.zero_add, fold_next]
          have l6 : ((List.range t).foldl (uS2 m g h s) lb).length = 2 * m + 1 := by rw [fold_len (u2_len m g h s), l5]
          generalize (List.range t).foldl (uS2 m g h s) lb = lc at *
          have ht2 : t * g ≤ h := Nat.le_trans (Nat.mul_le_mul_right g (show t ≤ h / g by omega)) (Nat.div_mul_le_self h g)
          walk_at "go"
          refine ⟨hm, ?_⟩
          walk_at "go"
          refine ⟨by omega, ?_⟩
          have c1 := nat_wide (ch_le (f := s) hm)
          have c2 := nat_wide (ch_le (m := s) (f := t) (by omega))
          refine ⟨_, _, rfl, rfl, mulX_ok c1 c2 (by decide), ?_⟩
          walk_at "go"
          obtain ⟨b, hb⟩ : ∃ b, as[s - t]? = some b := ⟨_, List.getElem?_eq_getElem (by omega)⟩
          have hB := s6 _ _ (hGr (s - t) b (rowK m (g - 1) (s - t)) hb (by rw [List.getElem?_map, List.getElem?_range (by omega)]; rfl))
          have hrl := row_len m (g - 1) (s - t)
          have htg : h - t * g ≤ h := Nat.sub_le _ _
          refine ⟨G, _, _, .ref b, rfl, rfl, .inl (.inl (s6 _ _ hGp)), ?_, ?_⟩
          · show atI (as.map V.ref) ((s : Int) - (t : Int)) = _
            rw [show (s : Int) - (t : Int) = ((s - t : Nat) : Int) by omega, atI_nat (by rw [List.getElem?_map, hb]; rfl)]
          walk_at "go"
          have tgi : (t : Int) * (g : Int) = ((t * g : Nat) : Int) := (Int.natCast_mul t g).symm
          refine ⟨mulX_ok (a := 10) (b := 10) (by omega) (by omega) (by decide), ?_⟩
          walk_at "go"
          refine ⟨b, _, _, .int ((rowK m (g - 1) (s - t)).getD (h - t * g) 0), rfl, rfl, .inl (.inl hB), ?_, ?_⟩
          · rw [tgi, show (h : Int) - ((t * g : Nat) : Int) = ((h - t * g : Nat) : Int) by omega]
            exact at_ints (by omega)
          refine ⟨_, _, rfl, rfl, mulX_ok (wide_lt c1 c2) (row_le hm (by omega) _) (by decide), ?_⟩
          have eL : (chK m s : Int) * (chK s t : Int) * (rowK m (g - 1) (s - t)).getD (h - t * g) 0 = uL m g h s t := rfl
          have hL := uL_le (m := m) (g := g) (h := h) (s := s) (t := t) hm (by omega)
          unfold uS2
          walk_at "b"
          rw [eL]
          generalize uL m g h s t = L at *
          walk_at "go"
          refine ite2 (fun e => ?_) (fun e => ?_)
          · have e1 : 0 < L := of_decide_eq_true e
            rw [if_pos e1]
            walk_at "go"
            refine ⟨by omega, by omega, ?_⟩
            rw [show ((s : Int) - (t : Int) + 1).toNat = s - t + 1 by omega]
            walk_at "b"
            refine for_range (lo := 0) (n := s - t + 1) (fun o σ H7 => ∃ (v9 : Option V), σ = [some (.int m), some (.int d), some (.int g), some (.int h), some (.ref G), some (.ref T), some (.int s), some (.int t), some (.int L), v9] ∧ Same H2 H7 ∧ H7 T = some (.lst (((List.range o).foldl (uS3 L h s t) lc).map V.int))) ⟨_, rfl, s6, h6⟩ ?_ ?_
            · rintro o σ H7 ho ⟨v9, rfl, s7, h7⟩
              rw [Int.zero_add, fold_next]
              have l7 : ((List.range o).foldl (uS3 L h s t) lc).length = 2 * m + 1 := by rw [fold_len (u3_len L h s t), l6]
              generalize (List.range o).foldl (uS3 L h s t) lc = ld at *
              walk_at "go"
              refine ⟨mulX_ok (a := 10) (b := 10) (by decide) (by omega) (by decide), ?_⟩
              walk_at "go"
              have ei : 2 * (h : Int) - (t : Int) - (o : Int) = ((2 * h - t - o : Nat) : Int) := by omega
              have hlt : 2 * h - t - o < ld.length := by omega
              refine ⟨T, _, 2 * h - t - o, .int (ld.getD (2 * h - t - o) 0), rfl, congrArg V.int ei, .inl (.inl h7), by rw [List.getElem?_map, List.getD_eq_getElem?_getD, List.getElem?_eq_getElem hlt]; rfl, ?_⟩
              walk_at "go"
              refine ⟨s - t, o, by show [V.int ((s : Int) - (t : Int)), V.int (o : Int)] = _; rw [show (s : Int) - (t : Int) = ((s - t : Nat) : Int) by omega], by omega, ?_⟩
              have c3 := nat_wide (ch_le (m := s - t) (f := o) (by omega))
              refine ⟨_, _, rfl, rfl, mulX_ok hL c3 (by decide), _, _, rfl, rfl, ?_⟩
              refine ⟨T, _, _, 2 * h - t - o, rfl, rfl, h7, by rw [ei, List.length_map]; unfold ixN; rw [if_pos (by omega), Int.toNat_natCast, if_pos (by omega)], ?_⟩
              refine ⟨_, rfl, fun x u hx => ?_, ?_⟩
              · rw [upd_ne (ne_of_none hx nT)]
                exact s7 x u hx
              · rw [upd_same]
                unfold uS3 addAt
                rw [List.map_set]
            · rintro σ H7 ⟨v9, rfl, s7, h7⟩
              exact ⟨_, _, _, rfl, s7, h7⟩
          · have e1 : ¬ 0 < L := of_decide_eq_false (by rwa [Bool.not_eq_true] at e)
            rw [if_neg e1]
            walk_at "go"
            refine ⟨by decide, by decide, ?_⟩
            refine for_range (lo := 0) (n := 0) (fun o σ H7 => σ = [some (.int m), some (.int d), some (.int g), some (.int h), some (.ref G), some (.ref T), some (.int s), some (.int t), some (.int L), v9] ∧ H7 = H6) ⟨rfl, rfl⟩ (fun o _ _ ho => absurd ho (Nat.not_lt_zero _)) ?_
            rintro σ H7 ⟨rfl, rfl⟩
            exact ⟨_, _, _, rfl, s6, h6⟩
        · rintro σ H6 ⟨v7, v8, v9, rfl, s6, h6⟩
          rw [hc] at h6
          exact ⟨_, _, _, _, rfl, s6, h6⟩
      · rintro σ H5 ⟨v6, v7, v8, v9, rfl, s5, h5⟩
        exact ⟨_, _, _, _, _, rfl, s5, h5⟩
    · rintro σ H4 ⟨v3, v6, v7, v8, v9, rfl, s4, h4⟩
      walk_at "go"
      exact q _ T ((s1.trans s2).trans s4) nTH h4
end
end My

namespace My
open PySem PySem.Spec PyProof.Rows L2 Pre
theorem sum_bnd {B : Nat} : ∀ {l : List Int}, Bnd B l → l.sum.natAbs ≤ l.length * B
  | [], _ => Nat.zero_le _
  | x :: l, h => by
    have h1 := h x List.mem_cons_self
    have h2 := sum_bnd (l := l) fun y hy => h y (List.mem_cons_of_mem _ hy)
    rw [List.sum_cons, List.length_cons, Nat.succ_mul]
    omega
def waysK (m c : Nat) : List Int := (List.range (m + 1 - (m + 1 - c))).map fun i => (chK m ((m + 1 - c) + i) : Int)
theorem ways_le {m c : Nat} (hm : m ≤ 40) : (waysK m c).sum.natAbs < 2 ^ 310 := by
  have h : Bnd (2 ^ 300) (waysK m c) := fun x hx => by
    obtain ⟨i, _, rfl⟩ := List.mem_map.mp hx
    rw [Int.natAbs_natCast]
    exact Nat.le_of_lt (ch_le hm)
  have h2 := sum_bnd h
  have hl : (waysK m c).length ≤ 41 := by unfold waysK; rw [List.length_map, List.length_range]; omega
  exact Nat.lt_of_le_of_lt h2 (Nat.lt_of_le_of_lt (Nat.mul_le_mul_right _ hl) (by decide))
theorem low_eq {m w c : Nat} (h : w ≠ 0) : lowK m w c = (waysK m c).sum * 2 ^ (m * (w - 1)) := if_neg h
theorem pow_abs (k : Nat) : ((2 : Int) ^ k).natAbs < 2 ^ (k + 1) := by
  rw [Int.natAbs_pow]
  exact Nat.pow_lt_pow_right (by decide) (Nat.lt_succ_self _)
theorem mw_le {m w : Nat} (hm : m ≤ 40) (hw : w ≤ 100) : m * (w - 1) ≤ 4000 := Nat.le_trans (Nat.mul_le_mul hm (show w - 1 ≤ 100 by omega)) (by decide)
theorem low_le {m w c : Nat} (hm : m ≤ 40) (hw : w ≤ 100) : (lowK m w c).natAbs < 2 ^ 5000 := by
  by_cases h : w = 0
  · rw [show lowK m w c = 1 from if_pos h]
    exact Nat.one_lt_two_pow (by decide)
  · rw [low_eq h]
    refine Nat.lt_of_lt_of_le (wide_lt (ways_le hm) (pow_abs _)) (Nat.pow_le_pow_right (by decide) ?_)
    have := mw_le hm hw
    omega
local macro_rules | `(tactic| walk_at "go") => `(tactic| repeat (first | (with_reducible first | refine iteT ?_ | refine iteF ?_ | refine iteNtt ?_ | refine iteNff ?_ | refine iteET (by omega) ?_ | refine iteEF (by omega) ?_ | refine iteENT (by omega) ?_ | refine iteENF (by omega) ?_ | refine iteDT (by omega) ?_ | refine iteDF (by omega) ?_ | refine iteNT (by omega) ?_ | refine iteNF (by omega) ?_) | refine ⟨_, rfl, ?_⟩ | refine ⟨_, _, rfl, rfl, ?_⟩ | refine ⟨_, _, rfl, ?_⟩ | refine ⟨rfl, ?_⟩ | refine .inl ⟨_, rfl, ?_⟩ | refine .inr ⟨_, rfl, ?_⟩))
local macro_rules | `(tactic| walk_at "b") => `(tactic| try dsimp (config := { proj := false, iota := false, eta := false, zeta := false }) only)
section
variable {P : Program} {w : World} {K : PySem.W.Frag} {mg : Str → Option Value} {base : Heap}
def sp_lower_count : Sp := fun vs H Q _ => ∃ m w c : Nat, vs = [.int m, .int w, .int c] ∧ 1 ≤ m ∧ m ≤ 40 ∧ w ≤ 100 ∧ c ≤ 1000 ∧ ∀ H', Same H H' → Q (.int (lowK m w c)) H'
theorem G_lower_count (T : Top K mg) : FnOk P w K mg base CX0 2 T.f_lower_count T.fd_lower_count ["many", "width", "count"] sp_lower_count := by
  refine T.F_lower_count.ok sc_lower_count (fun vs H Q E h => by obtain ⟨m, w', c, rfl, _⟩ := h; rfl) (fun cdv A outer s H vs Q E hr h => ?_)
  obtain ⟨m, w', c, rfl, hm1, hm, hw, hc, q⟩ := h
  refine ⟨_, PSs.nox (pss_cons (ps_if (pt_cmpR op_eq (pv 1) pe_int (nomark _))
    (pss_one (ps_ret pe_int))
    pss_nil)
  (pss_cons (ps_set (i := 3) sc_lower_count.nd rfl (by first | exact Or.inl rfl | exact Or.inr rfl) (pe_callB (k_sum K rfl rfl) (by rfl) T.n_sum (by decide +kernel) (pa_cons (pe_lc (own := [("set_there", 4)]) (g := gName 4) (tt := tYes) (by rfl) sc_lower_count.nd (pi_range2 (by rfl) T.n_range (pa_cons (pe_callB (call_max2 rfl) (by rfl) T.n_max (by decide +kernel) (pa_cons pe_int (pa_cons (pe_op op_add (pe_op op_sub (pv 0) (pv 2)) pe_int) pa_nil))) (pa_cons (pe_op op_add (pv 0) pe_int) pa_nil))) (blkOk_by (own := [("set_there", 4)]) (N := N_lower_count) (sc := defScope s_lower_count) (by decide +kernel)) (fun _ _ _ _ _ => (pg_name (i := 4) sc_lower_count.nd rfl (by first | exact Or.inl rfl | exact Or.inr rfl))) (fun _ _ _ _ _ => pts_nil) (fun _ _ _ _ _ => (pe_call (G_choices T) (hr.mono (by decide)) (by rfl) T.g_choices T.F_choices.kp T.b_choices .nil pass0 (pa_cons (pv 0) (pa_cons (pv 4) pa_nil))))) pa_nil)))
  (pss_one (ps_ret (pe_op op_shlW (pv 3) (pe_op op_mulX (pv 0) (pe_op op_sub (pv 1) pe_int))))))), ?_⟩
  walk_at "go"
  by_cases hz : w' = 0
  · subst hz
    refine iteET rfl ?_
    exact q H (Same.refl _)
  · refine iteEF (by omega) ?_
    walk_at "go"
    have elo : (if (m : Int) - (c : Int) + 1 > 0 then (m : Int) - (c : Int) + 1 else 0) = ((m + 1 - c : Nat) : Int) := by split <;> omega
    rw [low_eq hz] at q
    have hbw := ways_le (c := c) hm
    have ew : waysK m c = (List.range (m + 1 - (m + 1 - c))).map fun i => (chK m ((m + 1 - c) + i) : Int) := rfl
    rw [elo]
    generalize m + 1 - c = lo at *
    refine ⟨⟨by omega, by omega, by omega, by omega⟩, fun D nD => ?_⟩
    rw [show ((m : Int) + 1 - (lo : Int)).toNat = m + 1 - lo by omega]
    refine lc_mapR (lo := lo) (n := m + 1 - lo) ((waysK m c).map V.int) nD (by rw [ew, List.length_map, List.length_map, List.length_range]) (small1000 (by omega)) ?_ ?_ ?_
    · exact fun x => rfl
    · intro k y H' hk hy s Qt qt
      rw [ew, List.getElem?_map, List.getElem?_map, List.getElem?_range hk] at hy
      cases hy
      walk_at "go"
      exact ⟨hm, qt _ (Same.refl _)⟩
    intro H1 s1 h1
    walk_at "go"
    refine ⟨D, _, rfl, .inl (.inl h1), ?_⟩
    have emw : (m : Int) * ((w' : Int) - 1) = ((m * (w' - 1) : Nat) : Int) := by rw [Int.natCast_mul, Int.natCast_sub (by omega)]; rfl
    have hmw := mw_le hm hw
    walk_at "go"
    refine ⟨mulX_ok (a := 10) (b := 10) (by omega) (by omega) (by decide), ?_⟩
    walk_at "go"
    have hbb := PyProof.Rows.intBits_le hbw
    refine ⟨⟨by rw [emw]; exact Int.natCast_nonneg _, by rw [emw]; omega⟩, ?_⟩
    walk_at "b"
    rw [emw, Int.toNat_natCast]
    exact q _ s1
def sp_sizes_of : Sp := fun vs H Q _ => ∃ m b w : Nat, vs = [.int m, .int b, .int w] ∧ 1 ≤ m ∧ m ≤ 40 ∧ b ≤ 100 ∧ w ≤ b ∧ ∀ H' p, Same H H' → H p = none → H' p = some (.lst ((sizesK m b w).map V.int)) → Q (.ref p) H'
theorem G_sizes_of (T : Top K mg) : FnOk P w K mg base CX0 3 T.f_sizes_of T.fd_sizes_of ["many", "bits", "width"] sp_sizes_of := by
  refine T.F_sizes_of.ok sc_sizes_of (fun vs H Q E h => by obtain ⟨m, b, w', rfl, _⟩ := h; rfl) (fun cdv A outer s H vs Q E hr h => ?_)
  obtain ⟨m, b, w', rfl, hm1, hm, hb, hw, q⟩ := h
  refine ⟨_, PSs.nox (pss_cons (ps_set (i := 3) sc_sizes_of.nd rfl (by first | exact Or.inl rfl | exact Or.inr rfl) (pe_call (G_upper_counts T) (hr.mono (by decide)) (by rfl) T.g_upper_counts T.F_upper_counts.kp T.b_upper_counts .nil pass0 (pa_cons (pv 0) (pa_cons (pe_op op_sub (pv 1) (pv 2)) pa_nil))))
  (pss_one (ps_ret (pe_lc (own := [("count", 4)]) (g := gName 4) (tt := tYes) (by rfl) sc_sizes_of.nd (pi_range1 (by rfl) T.n_range (pa_cons (pe_op op_add (pe_op op_mulX pe_int (pv 0)) pe_int) pa_nil)) (blkOk_by (own := [("count", 4)]) (N := N_sizes_of) (sc := defScope s_sizes_of) (by decide +kernel)) (fun _ _ _ _ _ => (pg_name (i := 4) sc_sizes_of.nd rfl (by first | exact Or.inl rfl | exact Or.inr rfl))) (fun _ _ _ _ _ => pts_nil) (fun _ _ _ _ _ => (pe_op op_mulX (pe_ix (k_ixL K rfl) (pv 3) (pv 4) (fun _ _ => rfl)) (pe_call (G_lower_count T) (hr.mono (by decide)) (by rfl) T.g_lower_count T.F_lower_count.kp T.b_lower_count .nil pass0 (pa_cons (pv 0) (pa_cons (pv 2) (pa_cons (pv 4) pa_nil)))))))))), ?_⟩
  walk_at "go"
  refine ⟨m, b - w', by show [V.int (m : Int), V.int ((b : Int) - (w' : Int))] = _; rw [show (b : Int) - (w' : Int) = ((b - w' : Nat) : Int) by omega], hm1, hm, by omega, fun H1 T s1 nT h1 => ?_⟩
  walk_at "go"
  refine ⟨mulX_ok (a := 10) (b := 10) (by decide) (by omega) (by decide), ?_⟩
  walk_at "go"
  refine ⟨by omega, by omega, fun D nD => ?_⟩
  rw [show (2 * (m : Int) + 1).toNat = 2 * m + 1 by omega]
  have sl := sizes_len m b w'
  refine lc_mapR (lo := 0) (n := 2 * m + 1) ((sizesK m b w').map V.int) nD (by rw [List.length_map, sl]) (small1000 (by omega)) ?_ ?_ ?_
  · exact fun x => rfl
  · intro k y H' hk hy s Qt qt
    unfold sizesK at hy
    rw [List.getElem?_map, List.getElem?_map, List.getElem?_range hk] at hy
    cases hy
    walk_at "go"
    rw [Int.zero_add]
    refine ⟨T, _, _, .int ((ucK m (b - w')).getD k 0), rfl, rfl, .inl (.inl (s _ _ h1)), at_ints (by rw [uc_len]; exact hk), ?_⟩
    walk_at "go"
    refine ⟨m, w', k, rfl, hm1, hm, by omega, by omega, fun H2 s2 => ?_⟩
    refine ⟨_, _, rfl, rfl, mulX_ok (a := 1601) (Nat.lt_of_le_of_lt ((uc_bnd hm).get k) (Nat.pow_lt_pow_right (by decide) (by decide))) (low_le hm (by omega)) (by decide), qt _ s2⟩
  intro H2 s2 h2
  exact q _ D (s1.trans s2) (s1.free nD) h2
end
end My

namespace My
open PySem PySem.Spec PyProof.Rows L2 Pre
local macro_rules | `(tactic| walk_at "go") => `(tactic| repeat (first | (with_reducible first | refine iteT ?_ | refine iteF ?_ | refine iteNtt ?_ | refine iteNff ?_ | refine iteET (by omega) ?_ | refine iteEF (by omega) ?_ | refine iteENT (by omega) ?_ | refine iteENF (by omega) ?_ | refine iteDT (by omega) ?_ | refine iteDF (by omega) ?_ | refine iteNT (by omega) ?_ | refine iteNF (by omega) ?_) | refine ⟨_, rfl, ?_⟩ | refine ⟨_, _, rfl, rfl, ?_⟩ | refine ⟨_, _, rfl, ?_⟩ | refine ⟨rfl, ?_⟩ | refine .inl ⟨_, rfl, ?_⟩ | refine .inr ⟨_, rfl, ?_⟩))
local macro_rules | `(tactic| walk_at "b") => `(tactic| try dsimp (config := { proj := false, iota := false, eta := false, zeta := false }) only)
section
variable {P : Program} {w : World} {K : PySem.W.Frag} {mg : Str → Option Value} {base : Heap}
def sp_check_number : Sp := fun vs H Q _ => ∃ (i lo : Int) (hi : Option Int), vs = [.int i, .int lo, (match hi with | some j => .int j | none => .non)] ∧ lo ≤ i ∧ (∀ j, hi = some j → i ≤ j) ∧ Q .non H
theorem G_check_number (T : Top K mg) : FnOk P w K mg base CX0 3 T.f_check_number T.fd_check_number ["number", "low", "high"] sp_check_number := by
  refine T.F_check_number.ok sc_check_number (fun vs H Q E h => by obtain ⟨i, lo, hi, rfl, _⟩ := h; rfl) (fun cdv A outer s H vs Q E hr h => ?_)
  obtain ⟨i, lo, hi, rfl, h0, h1, q⟩ := h
  refine ⟨_, PSs.nox (pss_one (ps_if (pt_not (pt_val (pe_call (G_is_between T) (hr.mono (by decide)) (by rfl) T.g_is_between T.F_is_between.kp T.b_is_between .nil pass0 (pa_cons (pv 0) (pa_cons (pv 1) (pa_cons (pv 2) pa_nil))))))
    (pss_one ps_never)
    pss_nil)), ?_⟩
  refine ⟨_, rfl, _, rfl, _, rfl, i, lo, hi, rfl, _, rfl, ?_⟩
  rw [decide_eq_true ⟨h0, h1⟩]
  exact iteF q
def sp_check_width : Sp := fun vs H Q _ => ∃ i : Int, vs = [.int i] ∧ 0 ≤ i ∧ i ≤ 120 ∧ Q .non H
theorem G_check_width (T : Top K mg) : FnOk P w K mg base CX0 3 T.f_check_width T.fd_check_width ["width"] sp_check_width := by
  refine T.F_check_width.ok sc_check_width (fun vs H Q E h => by obtain ⟨i, rfl, _⟩ := h; rfl) (fun cdv A outer s H vs Q E hr h => ?_)
  obtain ⟨i, rfl, h0, h1, q⟩ := h
  refine ⟨_, PSs.nox (pss_one (ps_if (pt_not (pt_val (pe_call (G_is_between T) (hr.mono (by decide)) (by rfl) T.g_is_between T.F_is_between.kp T.b_is_between .nil pass0 (pa_cons (pv 0) (pa_cons pe_int (pa_cons (pe_glob (v := .int 120) rfl T.m_MOST_WIDTH ⟨_, rfl⟩) pa_nil))))))
    (pss_one ps_never)
    pss_nil)), ?_⟩
  refine ⟨_, rfl, i, 0, some 120, rfl, _, rfl, ?_⟩
  rw [decide_eq_true ⟨h0, fun j h => by cases h; exact h1⟩]
  exact iteF q
def sp_check_many_bits : Sp := fun vs H Q _ => ∃ m t : Int, vs = [.int m, .int t] ∧ 1 ≤ m ∧ 0 ≤ t ∧ Q .non H
theorem G_check_many_bits (T : Top K mg) : FnOk P w K mg base CX0 4 T.f_check_many_bits T.fd_check_many_bits ["many", "bits"] sp_check_many_bits := by
  refine T.F_check_many_bits.ok sc_check_many_bits (fun vs H Q E h => by obtain ⟨m, t, rfl, _⟩ := h; rfl) (fun cdv A outer s H vs Q E hr h => ?_)
  obtain ⟨m, t, rfl, h0, h1, q⟩ := h
  refine ⟨_, PSs.nox (pss_cons (ps_expr (pe_call (G_check_number T) (hr.mono (by decide)) (by rfl) T.g_check_number T.F_check_number.kp T.b_check_number .nil pass0 (pa_cons (pv 0) (pa_cons pe_int (pa_cons pe_non pa_nil)))))
  (pss_one (ps_expr (pe_call (G_check_number T) (hr.mono (by decide)) (by rfl) T.g_check_number T.F_check_number.kp T.b_check_number .nil pass0 (pa_cons (pv 1) (pa_cons pe_int (pa_cons pe_non pa_nil))))))), ?_⟩
  refine ⟨_, rfl, m, 1, none, rfl, h0, (fun j h => nomatch h), ?_⟩
  exact ⟨_, rfl, t, 0, none, rfl, h1, (fun j h => nomatch h), q⟩
def sp_how_many_least : Sp := fun vs H Q _ => ∃ m b z : Nat, vs = [.int m, .int b, .int z] ∧ 1 ≤ m ∧ m ≤ 40 ∧ b ≤ 100 ∧ z ≤ 1000000 ∧ ∀ H', Same H H' → Q (.int (hmlK m b z)) H'
theorem G_how_many_least (T : Top K mg) : FnOk P w K mg base CX0 5 T.f_how_many_least T.fd_how_many_least ["many", "bits", "size"] sp_how_many_least := by
  refine T.F_how_many_least.ok sc_how_many_least (fun vs H Q E h => by obtain ⟨m, b, z, rfl, _⟩ := h; rfl) (fun cdv A outer s H vs Q E hr h => ?_)
  obtain ⟨m, b, z, rfl, hm1, hm, hb, hz, q⟩ := h
  refine ⟨_, PSs.nox (pss_cons (ps_expr (pe_call (G_check_many_bits T) (hr.mono (by decide)) (by rfl) T.g_check_many_bits T.F_check_many_bits.kp T.b_check_many_bits .nil pass0 (pa_cons (pv 0) (pa_cons (pv 1) pa_nil))))
  (pss_cons (ps_expr (pe_call (G_check_number T) (hr.mono (by decide)) (by rfl) T.g_check_number T.F_check_number.kp T.b_check_number .nil pass0 (pa_cons (pv 2) (pa_cons pe_int (pa_cons pe_non pa_nil)))))
  (pss_cons (ps_set (i := 3) sc_how_many_least.nd rfl (by first | exact Or.inl rfl | exact Or.inr rfl) pe_int)
  (pss_cons (ps_for PassesOwn.never rfl (pi_range1 (by rfl) T.n_range (pa_cons (pe_op op_add (pv 1) pe_int) pa_nil)) (pg_name (i := 4) sc_how_many_least.nd rfl (by first | exact Or.inl rfl | exact Or.inr rfl))
    (pss_cons (ps_set (i := 5) sc_how_many_least.nd rfl (by first | exact Or.inl rfl | exact Or.inr rfl) (pe_op op_sub (pv 2) (pe_op op_mul (pv 0) (pe_op op_add (pv 4) pe_int))))
  (pss_one (ps_if (pt_chain op_le op_le pe_int (pv 5) (pe_op op_mul pe_int (pv 0)))
    (pss_one (ps_set (i := 3) sc_how_many_least.nd rfl (by first | exact Or.inl rfl | exact Or.inr rfl) (pe_op op_add (pv 3) (pe_ix (k_ixL K rfl) (pe_call (G_sizes_of T) (hr.mono (by decide)) (by rfl) T.g_sizes_of T.F_sizes_of.kp T.b_sizes_of .nil pass0 (pa_cons (pv 0) (pa_cons (pv 1) (pa_cons (pv 4) pa_nil)))) (pv 5) (fun _ _ => rfl)))))
    pss_nil))))
  (pss_one (ps_ret (pv 3))))))), ?_⟩
  refine ⟨_, rfl, _, rfl, m, b, rfl, by omega, by omega, ?_⟩
  refine ⟨_, rfl, z, 0, none, rfl, by omega, (fun j h => nomatch h), ?_⟩
  walk_at "go"
  refine ⟨by omega, by omega, ?_⟩
  rw [show ((b : Int) + 1).toNat = b + 1 by omega]
  walk_at "b"
  refine for_range (lo := 0) (n := b + 1) (fun i σ H1 => ∃ (v4 v5 : Option V), σ = [some (.int m), some (.int b), some (.int z), some (.int ((List.range i).foldl (hmlS m b z) 0)), v4, v5] ∧ Same H H1) ⟨none, none, rfl, Same.refl _⟩ ?_ ?_
  · rintro i σ H1 hi ⟨v4, v5, rfl, s1⟩
    rw [Int.zero_add, fold_next]
    generalize (List.range i).foldl (hmlS m b z) 0 = n
    walk_at "go"
    refine ⟨.inl ⟨by omega, by omega⟩, ?_⟩
    have ek : (m : Int) * ((i : Int) + 1) = ((m * (i + 1) : Nat) : Int) := by rw [Int.natCast_mul]; rfl
    unfold hmlS
    walk_at "b"
    rw [ek]
    generalize m * (i + 1) = k
    walk_at "go"
    refine ite2 (fun e => ?_) (fun e => ?_)
    · have e1 : 0 ≤ (z : Int) - k := of_decide_eq_true e
      walk_at "go"
      refine ⟨.inl ⟨by omega, by omega⟩, ?_⟩
      walk_at "go"
      refine ite2 (fun e2 => ?_) (fun e2 => ?_)
      · have e3 : (z : Int) - k ≤ 2 * m := of_decide_eq_true e2
        rw [if_pos (show k ≤ z ∧ z - k ≤ 2 * m by omega)]
        walk_at "go"
        refine ⟨m, b, i, rfl, hm1, hm, hb, by omega, fun H2 p s2 np hp => ?_⟩
        walk_at "go"
        refine ⟨p, _, _, .int ((sizesK m b i).getD (z - k) 0), rfl, rfl, .inl (.inl hp), ?_, ?_⟩
        · rw [show (z : Int) - (k : Int) = ((z - k : Nat) : Int) by omega]
          exact at_ints (by rw [sizes_len]; omega)
        walk_at "go"
        exact s1.trans s2
      · have e3 : ¬ (z : Int) - k ≤ 2 * m := of_decide_eq_false (by rwa [Bool.not_eq_true] at e2)
        rw [if_neg (show ¬ (k ≤ z ∧ z - k ≤ 2 * m) by omega)]
        exact ⟨_, _, rfl, s1⟩
    · have e1 : ¬ 0 ≤ (z : Int) - k := of_decide_eq_false (by rwa [Bool.not_eq_true] at e)
      rw [if_neg (show ¬ (k ≤ z ∧ z - k ≤ 2 * m) by omega)]
      walk_at "go"
      exact s1
  · rintro σ H1 ⟨v4, v5, rfl, s1⟩
    exact ⟨_, rfl, q _ s1⟩
def sp_how_many_with : Sp := fun vs H Q _ => ∃ m b u : Nat, vs = [.int m, .int b, .int u] ∧ 1 ≤ m ∧ m ≤ 40 ∧ b ≤ 100 ∧ u ≤ 120 ∧ ∀ H', Same H H' → Q (.int (hmwK m b u)) H'
theorem G_how_many_with (T : Top K mg) : FnOk P w K mg base CX0 5 T.f_how_many_with T.fd_how_many_with ["many", "bits", "width"] sp_how_many_with := by
  refine T.F_how_many_with.ok sc_how_many_with (fun vs H Q E h => by obtain ⟨m, b, u, rfl, _⟩ := h; rfl) (fun cdv A outer s H vs Q E hr h => ?_)
  obtain ⟨m, b, u, rfl, hm1, hm, hb, hu, q⟩ := h
  refine ⟨_, PSs.nox (pss_cons (ps_expr (pe_call (G_check_many_bits T) (hr.mono (by decide)) (by rfl) T.g_check_many_bits T.F_check_many_bits.kp T.b_check_many_bits .nil pass0 (pa_cons (pv 0) (pa_cons (pv 1) pa_nil))))
  (pss_cons (ps_expr (pe_call (G_check_width T) (hr.mono (by decide)) (by rfl) T.g_check_width T.F_check_width.kp T.b_check_width .nil pass0 (pa_cons (pv 2) pa_nil)))
  (pss_one (ps_ret (pe_ifExp (pt_cmpR op_le (pv 2) (pv 1) (nomark _)) (pe_callB (k_sum K rfl rfl) (by rfl) T.n_sum (by decide +kernel) (pa_cons (pe_call (G_sizes_of T) (hr.mono (by decide)) (by rfl) T.g_sizes_of T.F_sizes_of.kp T.b_sizes_of .nil pass0 (pa_cons (pv 0) (pa_cons (pv 1) (pa_cons (pv 2) pa_nil)))) pa_nil)) pe_int))))), ?_⟩
  refine ⟨_, rfl, _, rfl, m, b, rfl, by omega, by omega, ?_⟩
  refine ⟨_, rfl, u, rfl, by omega, by omega, ?_⟩
  walk_at "go"
  refine ite2 (fun e => ?_) (fun e => ?_)
  · have e1 : (u : Int) ≤ b := of_decide_eq_true e
    rw [show hmwK m b u = (sizesK m b u).sum from if_pos (by omega)] at q
    walk_at "go"
    refine ⟨m, b, u, rfl, hm1, hm, hb, by omega, fun H1 p s1 np hp => ?_⟩
    refine ⟨p, _, rfl, .inl (.inl hp), q _ s1⟩
  · have e1 : ¬ (u : Int) ≤ b := of_decide_eq_false (by rwa [Bool.not_eq_true] at e)
    rw [show hmwK m b u = 0 from if_neg (by omega)] at q
    exact q _ (Same.refl _)
def sp_mean_least : Sp := fun vs H Q _ => ∃ m b : Nat, vs = [.int m, .int b] ∧ 1 ≤ m ∧ m ≤ 40 ∧ b ≤ 20 ∧ ∀ H' p, Same H H' → H p = none → H' p = some (.tup ([(lowF (meanT m b) (2 ^ (m * b))).1, (lowF (meanT m b) (2 ^ (m * b))).2].map V.int)) → Q (.ref p) H'
theorem G_mean_least (T : Top K mg) : FnOk P w K mg base CX0 5 T.f_mean_least T.fd_mean_least ["many", "bits"] sp_mean_least := by
  refine T.F_mean_least.ok sc_mean_least (fun vs H Q E h => by obtain ⟨m, b, rfl, _⟩ := h; rfl) (fun cdv A outer s H vs Q E hr h => ?_)
  obtain ⟨m, b, rfl, hm1, hm, hb, q⟩ := h
  refine ⟨_, PSs.nox (pss_cons (ps_expr (pe_call (G_check_many_bits T) (hr.mono (by decide)) (by rfl) T.g_check_many_bits T.F_check_many_bits.kp T.b_check_many_bits .nil pass0 (pa_cons (pv 0) (pa_cons (pv 1) pa_nil))))
  (pss_cons (ps_set (i := 2) sc_mean_least.nd rfl (by first | exact Or.inl rfl | exact Or.inr rfl) pe_int)
  (pss_cons (ps_for PassesOwn.never rfl (pi_range1 (by rfl) T.n_range (pa_cons (pe_op op_add (pv 1) pe_int) pa_nil)) (pg_name (i := 3) sc_mean_least.nd rfl (by first | exact Or.inl rfl | exact Or.inr rfl))
    (pss_one (ps_for PassesOwn.never rfl (k_piE K rfl (by rfl) T.n_enumerate (pa_cons (pe_call (G_sizes_of T) (hr.mono (by decide)) (by rfl) T.g_sizes_of T.F_sizes_of.kp T.b_sizes_of .nil pass0 (pa_cons (pv 0) (pa_cons (pv 1) (pa_cons (pv 3) pa_nil)))) pa_nil)) (k_pgT K rfl (by rfl) (pgs_cons (pg_name (i := 4) sc_mean_least.nd rfl (by first | exact Or.inl rfl | exact Or.inr rfl)) (pgs_cons (pg_name (i := 5) sc_mean_least.nd rfl (by first | exact Or.inl rfl | exact Or.inr rfl)) pgs_nil)))
    (pss_one (ps_set (i := 2) sc_mean_least.nd rfl (by first | exact Or.inl rfl | exact Or.inr rfl) (pe_op op_add (pv 2) (pe_op op_mul (pv 5) (pe_op op_add (pe_op op_mul (pv 0) (pe_op op_add (pv 3) pe_int)) (pv 4)))))))))
  (pss_one (ps_ret (pe_call (G_fraction T) (hr.mono (by decide)) (by rfl) T.g_fraction T.F_fraction.kp T.b_fraction .nil pass0 (pa_cons (pv 2) (pa_cons (pe_op op_shl pe_int (pe_op op_mul (pv 0) (pv 1))) pa_nil)))))))), ?_⟩
  refine ⟨_, rfl, _, rfl, m, b, rfl, by omega, by omega, ?_⟩
  walk_at "go"
  refine ⟨by omega, by omega, ?_⟩
  rw [show ((b : Int) + 1).toNat = b + 1 by omega]
  walk_at "b"
  refine for_range (lo := 0) (n := b + 1) (fun i σ H1 => ∃ (v3 v4 v5 : Option V), σ = [some (.int m), some (.int b), some (.int ((List.range i).foldl (meanS m b) 0)), v3, v4, v5] ∧ Same H H1) ⟨none, none, none, rfl, Same.refl _⟩ ?_ ?_
  · rintro i σ H1 hi ⟨v3, v4, v5, rfl, s1⟩
    rw [Int.zero_add, fold_next]
    generalize (List.range i).foldl (meanS m b) 0 = t0
    walk_at "go"
    refine ⟨m, b, i, rfl, hm1, hm, by omega, by omega, fun H2 p s2 np hp => ?_⟩
    refine ⟨p, _, rfl, .inl (.inl hp), ?_⟩
    have sl := sizes_len m b i
    refine for_it (walk_enum (K := K) (a := p) (xs := (sizesK m b i).map V.int)) (fun c σ H3 => ∃ (v4 v5 : Option V), σ = [some (.int m), some (.int b), some (.int ((List.range c).foldl (fun (t : Int) (c : Nat) => t + (sizesK m b i).getD c 0 * ((m : Int) * ((i : Int) + 1) + (c : Int))) t0)), some (.int i), v4, v5] ∧ Same H2 H3) ⟨_, _, rfl, Same.refl _⟩ (fun c σ H3 _ ⟨_, _, _, s⟩ => .inl (.inl (s _ _ hp))) ?_ ?_
    · rintro c x σ H3 H4 hc ⟨v4, v5, rfl, s3⟩ ⟨t, y, y2, rfl, nt, rfl, ey, ez⟩
      cases ey
      obtain ⟨n, hn, rfl⟩ := int_at ez
      have s4 : Same H3 (upd H3 t (.tup [.int (c : Nat), .int n])) := same_upd nt
      refine ⟨t, _, rfl, .inl (.inl upd_same), rfl, _, _, rfl, _, _, rfl, rfl, ?_⟩
      walk_at "go"
      refine ⟨.inl ⟨by omega, by omega⟩, ?_⟩
      walk_at "go"
      rw [List.length_map, sl] at hc
      have ek : (m : Int) * ((i : Int) + 1) = ((m * (i + 1) : Nat) : Int) := by rw [Int.natCast_mul]; rfl
      have hk : m * (i + 1) ≤ 40 * 21 := Nat.mul_le_mul hm (by omega)
      have ei : (sizesK m b i).getD c 0 = n := by rw [List.getD_eq_getElem?_getD, hn]; rfl
      rw [fold_next, ei]
      generalize (List.range c).foldl (fun (t : Int) (c : Nat) => t + (sizesK m b i).getD c 0 * ((m : Int) * ((i : Int) + 1) + (c : Int))) t0 = t1
      walk_at "b"
      rw [ek]
      generalize m * (i + 1) = k at *
      walk_at "go"
      refine ⟨.inr ⟨by omega, by omega⟩, ?_⟩
      walk_at "go"
      exact s3.trans s4
    · rintro σ H3 ⟨v4, v5, rfl, s3⟩
      rw [List.length_map, sl]
      exact ⟨_, _, _, rfl, (s1.trans s2).trans s3⟩
  · rintro σ H1 ⟨v3, v4, v5, rfl, s1⟩
    walk_at "go"
    refine ⟨.inl ⟨by omega, by omega⟩, ?_⟩
    have emb : (m : Int) * (b : Int) = ((m * b : Nat) : Int) := (Int.natCast_mul m b).symm
    have hmb : m * b ≤ 40 * 20 := Nat.mul_le_mul hm hb
    walk_at "b"
    rw [emb]
    refine ⟨_, _, rfl, rfl, ⟨by omega, by omega, by decide⟩, ?_⟩
    walk_at "b"
    rw [Int.toNat_natCast, Int.one_mul]
    refine ⟨_, _, rfl, pow_pos' _, Int.lt_of_le_of_lt (pow2_le (m := 800) (by omega)) (by decide), fun H2 p s2 np hp => ?_⟩
    exact q _ p (s1.trans s2) (s1.free np) hp
end
end My

namespace My
open PySem PySem.Spec PyProof.Rows L2 Pre
/-! ### dicts of whole numbers -/
def kvD (D : List (Int × Int)) : List (Key × V) := D.map fun p => (.inl p.1, .int p.2)
def getI (D : List (Int × Int)) (k : Int) : Option Int := (D.find? fun p => decide (p.1 = k)).map (·.2)
def putI (D : List (Int × Int)) (k v : Int) : List (Int × Int) := if (D.any fun p => decide (p.1 = k)) = true then D.map (fun p => if p.1 = k then (p.1, v) else p) else D ++ [(k, v)]
def bump (D : List (Int × Int)) (k x : Int) : List (Int × Int) := putI D k ((getI D k).getD 0 + x)
theorem val_kvD (k : Int) : ∀ D : List (Int × Int), valV (kvD D) (.inl k) = (getI D k).map V.int
  | [] => rfl
  | p :: D => by
    show valV ((.inl p.1, .int p.2) :: kvD D) (.inl k) = _
    by_cases h : p.1 = k
    · rw [valV_pos (show ((Sum.inl p.1 : Key), V.int p.2).1 = .inl k by rw [h])]
      unfold getI
      rw [List.find?_cons, show decide (p.1 = k) = true from decide_eq_true h]
      rfl
    · rw [valV_neg (show ¬ ((Sum.inl p.1 : Key), V.int p.2).1 = .inl k from fun z => h (Sum.inl.inj z)), val_kvD k D]
      unfold getI
      rw [List.find?_cons, show decide (p.1 = k) = false from decide_eq_false h]
theorem any_kvD (k : Int) (D : List (Int × Int)) : ((kvD D).any fun kv => decide (kv.1 = (.inl k : Key))) = D.any fun p => decide (p.1 = k) := by
  unfold kvD
  rw [List.any_map]
  congr 1
  funext p
  show decide ((Sum.inl p.1 : Key) = .inl k) = _
  by_cases h : p.1 = k
  · rw [decide_eq_true h, decide_eq_true (by rw [h])]
  · rw [decide_eq_false h, decide_eq_false (fun z => h (Sum.inl.inj z))]
theorem put_kvD (D : List (Int × Int)) (k v : Int) : putK (kvD D) (.inl k) (.int v) = kvD (putI D k v) := by
  unfold putK putI
  rw [any_kvD]
  split
  · unfold kvD
    rw [List.map_map, List.map_map]
    congr 1
    funext p
    show (if (Sum.inl p.1 : Key) = .inl k then ((Sum.inl p.1 : Key), V.int v) else (.inl p.1, .int p.2)) = (fun p : Int × Int => ((Sum.inl p.1 : Key), V.int p.2)) (if p.1 = k then (p.1, v) else p)
    by_cases h : p.1 = k
    · rw [if_pos h, if_pos (by rw [h])]
    · rw [if_neg h, if_neg (fun z => h (Sum.inl.inj z))]
  · unfold kvD
    rw [List.map_append]
    rfl
theorem kvD_len (D : List (Int × Int)) : (kvD D).length = D.length := List.length_map ..
theorem put_len (D : List (Int × Int)) (k v : Int) : (putI D k v).length ≤ D.length + 1 := by
  unfold putI
  split
  · rw [List.length_map]
    exact Nat.le_succ _
  · rw [List.length_append]
    exact Nat.le_refl _
theorem bump_len (D : List (Int × Int)) (k x : Int) : (bump D k x).length ≤ D.length + 1 := put_len ..
theorem vals_kvD (D : List (Int × Int)) : (kvD D).map (·.2) = (D.map (·.2)).map V.int := by
  unfold kvD
  rw [List.map_map, List.map_map]
  rfl
/-! ### the law's own counts -/
def pricesS (b : Nat) (r : List Int) : List Int := (List.range (b + 1)).map (price r)
abbrev DD : Type := List (Int × Int) × List (Int × Int)
def smallS (b : Nat) (D : DD) (r : List Int) : DD := (bump D.1 (minI (pricesS b r)) 1, bump D.2 ((pricesS b r).idxOf (minI (pricesS b r)) : Nat) 1)
def smallD (m b : Nat) : DD := (belowK m (2 ^ b)).foldl (smallS b) ([], [])
def meanD (D : List (Int × Int)) : Int := (D.map fun p => p.1 * (getI D p.1).getD 0).sum
def rightK (m b : Nat) (D : DD) : Bool :=
  ((List.range (m * (b + 1) + 3)).all fun s => decide (hmlK m b s = (getI D.1 s).getD 0)) && (((List.range (b + 2)).all fun w => decide (hmwK m b w = (getI D.2 w).getD 0)) &&
  ((D.1.all fun p => decide (-(2 ^ 64) < p.1 ∧ p.1 < 2 ^ 64)) && (decide (0 ≤ meanD D.1) && (decide ((D.1.map (·.2)).sum = 2 ^ (m * b)) && decide (lowF (meanT m b) (2 ^ (m * b)) = lowF (meanD D.1) (2 ^ (m * b)))))))
def strokeL (c : List Int) : List Int := c.zipIdx.map fun p => p.1 * 2 ^ p.2
def pricesB (m b : Nat) (c : List Int) : List Int := (List.range (b + 1)).map fun (w : Nat) => (m : Int) * ((w : Int) + 1) + (strokeL (c.drop w)).sum
def wayK : Nat → List Int
  | 0 => [1]
  | i + 1 => List.zipWith (fun a b => a + b) (0 :: wayK i) (wayK i ++ [0])
def rowsOf (m : Nat) (c : List Int) : Int := c.foldl (fun r n => r * (wayK m).getD n.toNat 0) 1
def bitsS (m b : Nat) (D : DD) (c : List Int) : DD := (bump D.1 (minI (pricesB m b c)) (rowsOf m c), bump D.2 ((pricesB m b c).idxOf (minI (pricesB m b c)) : Nat) (rowsOf m c))
def bitsD (m b : Nat) : DD := (belowK b (m + 1)).foldl (bitsS m b) ([], [])
theorem way_len : ∀ i, (wayK i).length = i + 1
  | 0 => rfl
  | i + 1 => by
    show (List.zipWith _ _ _).length = _
    rw [List.length_zipWith, List.length_cons, List.length_append, way_len i]
    exact Nat.min_self _
theorem way_bnd : ∀ i, Bnd (2 ^ i) (wayK i)
  | 0 => fun x hx => by rw [List.mem_singleton.mp hx]; exact Nat.le_refl _
  | i + 1 => fun x hx => by
    have ih := way_bnd i
    obtain ⟨k, hk⟩ := List.getElem?_of_mem hx
    change (List.zipWith (fun a b => a + b) (0 :: wayK i) (wayK i ++ [0]))[k]? = some x at hk
    rw [List.getElem?_zipWith] at hk
    cases h1 : (0 :: wayK i)[k]? with
    | none => rw [h1] at hk; cases hk
    | some a =>
      cases h2 : (wayK i ++ [0])[k]? with
      | none => rw [h1, h2] at hk; cases hk
      | some b =>
        rw [h1, h2] at hk
        have hxe : a + b = x := Option.some.inj hk
        have ha : a.natAbs ≤ 2 ^ i := by
          rcases List.mem_cons.mp (List.mem_of_getElem? h1) with rfl | h
          · exact Nat.zero_le _
          · exact ih a h
        have hb : b.natAbs ≤ 2 ^ i := by
          rcases List.mem_append.mp (List.mem_of_getElem? h2) with h | h
          · exact ih b h
          · rw [List.mem_singleton.mp h]
            exact Nat.zero_le _
        rw [Nat.pow_succ]
        omega
theorem way_small {i : Nat} (h : i ≤ 20) (k : Nat) : -(2 ^ 64) < (wayK i).getD k 0 ∧ (wayK i).getD k 0 < 2 ^ 64 := by
  have h1 := (way_bnd i).get k
  have h2 : (2 : Nat) ^ i ≤ 2 ^ 20 := Nat.pow_le_pow_right (by decide) h
  have h3 : (2 : Nat) ^ 20 = 1048576 := by decide
  omega
end My

namespace My
open PySem PySem.Spec PyProof.Rows L2 Pre
local macro_rules | `(tactic| walk_at "go") => `(tactic| repeat (first | (with_reducible first | refine iteT ?_ | refine iteF ?_ | refine iteNtt ?_ | refine iteNff ?_ | refine iteET (by omega) ?_ | refine iteEF (by omega) ?_ | refine iteENT (by omega) ?_ | refine iteENF (by omega) ?_ | refine iteDT (by omega) ?_ | refine iteDF (by omega) ?_ | refine iteNT (by omega) ?_ | refine iteNF (by omega) ?_) | refine ⟨_, rfl, ?_⟩ | refine ⟨_, _, rfl, rfl, ?_⟩ | refine ⟨_, _, rfl, ?_⟩ | refine ⟨rfl, ?_⟩ | refine .inl ⟨_, rfl, ?_⟩ | refine .inr ⟨_, rfl, ?_⟩))
local macro_rules | `(tactic| walk_at "b") => `(tactic| try dsimp (config := { proj := false, iota := false, eta := false, zeta := false }) only)
section
variable {P : Program} {w : World} {K : PySem.W.Frag} {mg : Str → Option Value} {base : Heap}
def sp_law_lowest : Sp := fun vs H Q _ => ∃ a b : Nat, vs = [.int a, .int b] ∧ 0 < b ∧ b < 2 ^ 1000 ∧ ∀ H' p, Same H H' → H p = none → H' p = some (.tup ([(lowF a b).1, (lowF a b).2].map V.int)) → Q (.ref p) H'
theorem G_law_lowest (T : Top K mg) : FnOk P w K mg base CX0 1 T.f_law_lowest T.fd_law_lowest ["_law_over", "_law_under"] sp_law_lowest := by
  refine T.F_law_lowest.ok sc_law_lowest (fun vs H Q E h => by obtain ⟨a, b, rfl, _⟩ := h; rfl) (fun cdv A outer s H vs Q E hr h => ?_)
  obtain ⟨a, b, rfl, hb, hb2, q⟩ := h
  refine ⟨_, PSs.nox (pss_cons (ps_par (by rfl) sc_law_lowest.nd (i := 2) (j := 3) rfl rfl (by decide) rfl rfl (pa_cons (pv 0) (pa_cons (pv 1) pa_nil)) (by rfl))
  (pss_cons (ps_while PassesOwn.never (pt_cmpR op_ne (pv 3) pe_int (nomark _))
    (pss_one (ps_par (by rfl) sc_law_lowest.nd (i := 2) (j := 3) rfl rfl (by decide) rfl rfl (pa_cons (pv 3) (pa_cons (pe_op op_mod (pv 2) (pv 3)) pa_nil)) (by rfl))))
  (pss_one (ps_ret (pe_tup (pa_cons (pe_op op_fdivW (pv 0) (pv 2)) (pa_cons (pe_op op_fdivW (pv 1) (pv 2)) pa_nil))))))), ?_⟩
  walk_at "go"
  refine ⟨fun k σ H2 => ∃ x y : Nat, σ = [some (.int a), some (.int b), some (.int x), some (.int y)] ∧ y = k ∧ Nat.gcd x y = Int.gcd a b ∧ H2 = H, ⟨b, a, b, rfl, rfl, rfl, rfl⟩, ?_⟩
  rintro k σ H2 ⟨x, y, rfl, rfl, hg, rfl⟩
  refine ⟨_, rfl, rfl, _, rfl, ?_⟩
  by_cases hy : y = 0
  · subst hy
    rw [Nat.gcd_zero_right] at hg
    refine iteENF rfl ?_
    have h1 : 0 < Int.gcd a b := Int.gcd_pos_of_ne_zero_right _ (by omega)
    have h2 : (Int.gcd a b : Int) ≤ b := Int.le_of_dvd (by omega) (Int.gcd_dvd_right ..)
    subst hg
    have hw : ∀ x, CDivW x ((Int.gcd a b : Nat) : Int) := fun x => wide_div (b := 1000) (by omega) (by rw [Int.natAbs_natCast]; omega) (by decide) (by decide)
    walk_at "go"
    refine ⟨hw _, ?_⟩
    walk_at "go"
    refine ⟨hw _, (show 2 ≤ sizeLine by decide), fun p np => ?_⟩
    exact q _ p (same_upd np) np upd_same
  · refine iteENT (by omega) ?_
    refine ⟨fun σ' H' => ∃ x' y' : Nat, σ' = [some (.int a), some (.int b), some (.int x'), some (.int y')] ∧ y' < y ∧ Nat.gcd x' y' = Int.gcd a b ∧ H' = H2, fun σ' H' ⟨x', y', e1, e2, e3, e4⟩ => ⟨y', e2, x', y', e1, rfl, e3, e4⟩, ?_⟩
    refine ⟨_, rfl, _, rfl, _, rfl, _, _, rfl, rfl, (by show (0 : Int) < _; omega), _, _, rfl, y, x % y, ?_, Nat.mod_lt _ (by omega), ?_, rfl⟩
    · show [some (V.int (a : Int)), some (.int (b : Int)), some (.int (y : Int)), some (.int ((x : Int) % (y : Int)))] = _
      rw [Int.natCast_emod]
    · rw [← hg, Nat.gcd_comm y, ← Nat.gcd_rec, Nat.gcd_comm]
def sp_law_choices : Sp := fun vs H Q _ => ∃ m : Nat, vs = [.int m] ∧ m ≤ 20 ∧ ∀ H' p, Same H H' → H p = none → H' p = some (.lst ((wayK m).map V.int)) → Q (.ref p) H'
theorem G_law_choices (T : Top K mg) : FnOk P w K mg base CX0 1 T.f_law_choices T.fd_law_choices ["_law_many"] sp_law_choices := by
  refine T.F_law_choices.ok sc_law_choices (fun vs H Q E h => by obtain ⟨m, rfl, _⟩ := h; rfl) (fun cdv A outer s H vs Q E hr h => ?_)
  obtain ⟨m, rfl, hm, q⟩ := h
  refine ⟨_, PSs.nox (pss_cons (ps_set (i := 1) sc_law_choices.nd rfl (by first | exact Or.inl rfl | exact Or.inr rfl) (pe_lst (pa_cons pe_int pa_nil)))
  (pss_cons (ps_for PassesOwn.never rfl (pi_range1 (by rfl) T.n_range (pa_cons (pv 0) pa_nil)) (pg_name (i := 2) sc_law_choices.nd rfl (by first | exact Or.inl rfl | exact Or.inr rfl))
    (pss_one (ps_setLc (i := 1) (own := [("_law_one", 3), ("_law_other", 4)]) (g := gTup K 2 (gCons (gName 3) (gCons (gName 4) (gNil)))) (tt := tYes) (by rfl) sc_law_choices.nd rfl rfl (sw_true rfl rfl rfl (by decide +kernel)) (pi_zip (by rfl) T.n_zip (pa_cons (pe_op op_cat (pe_lst (pa_cons pe_int pa_nil)) (pv 1)) (pa_cons (pe_op op_cat (pv 1) (pe_lst (pa_cons pe_int pa_nil))) pa_nil))) (blkOk_by (own := [("_law_one", 3), ("_law_other", 4)]) (N := N_law_choices) (sc := defScope s_law_choices) (by decide +kernel)) (fun _ _ _ _ _ => (k_pgT K rfl (by rfl) (pgs_cons (pg_name (i := 3) sc_law_choices.nd rfl (by first | exact Or.inl rfl | exact Or.inr rfl)) (pgs_cons (pg_name (i := 4) sc_law_choices.nd rfl (by first | exact Or.inl rfl | exact Or.inr rfl)) pgs_nil)))) (fun _ _ _ _ _ => pts_nil) (fun _ _ _ _ _ => (pe_op op_add (pv 3) (pv 4))))))
  (pss_one (ps_ret (pv 1))))), ?_⟩
  refine ⟨(show 1 ≤ sizeLine by decide), fun a na => ?_⟩
  obtain ⟨H1, e1, s1, h1⟩ := fresh (.lst [V.int 1]) na
  rw [e1]
  walk_at "go"
  refine ⟨by omega, by omega, ?_⟩
  rw [Int.toNat_natCast]
  walk_at "b"
  refine for_range (lo := 0) (n := m) (fun i σ H2 => ∃ (v2 v3 v4 : Option V) (p : Addr), σ = [some (.int m), some (.ref p), v2, v3, v4] ∧ Same H H2 ∧ H p = none ∧ H2 p = some (.lst ((wayK i).map V.int))) ⟨none, none, none, a, rfl, s1, na, h1⟩ ?_ ?_
  · rintro i σ H2 hi ⟨v2, v3, v4, p, rfl, s2, np, h2⟩
    have wl := way_len i
    refine ⟨(show 1 ≤ sizeLine by decide), fun c nc => ?_⟩
    obtain ⟨H3, e3, s3, h3⟩ := fresh (.lst [V.int 0]) nc
    rw [e3]
    refine ⟨_, rfl, c, p, _, _, rfl, rfl, h3, s3 _ _ h2, by rw [List.length_map, wl, sizeLine_eq]; show 1 + (i + 1) ≤ _; omega, fun d nd => ?_⟩
    obtain ⟨H4, e4, s4, h4⟩ := fresh (.lst ([V.int 0] ++ (wayK i).map V.int)) nd
    rw [e4]
    refine ⟨_, rfl, (show 1 ≤ sizeLine by decide), fun c2 nc2 => ?_⟩
    obtain ⟨H5, e5, s5, h5⟩ := fresh (.lst [V.int 0]) nc2
    rw [e5]
    refine ⟨p, c2, _, _, rfl, rfl, s5 _ _ (s4 _ _ (s3 _ _ h2)), h5, by rw [List.length_map, wl, sizeLine_eq]; show (i + 1) + 1 ≤ _; omega, fun f nf => ?_⟩
    obtain ⟨H6, e6, s6, h6⟩ := fresh (.lst ((wayK i).map V.int ++ [V.int 0])) nf
    rw [e6]
    have hd : SqL K H6 d ((0 :: wayK i).map V.int) := .inl (.inl (s6 _ _ (s5 _ _ h4)))
    have hf : SqL K H6 f ((wayK i ++ [0]).map V.int) := .inl (.inl (by rw [List.map_append]; exact h6))
    have s26 := ((s3.trans s4).trans s5).trans s6
    refine ⟨d, f, _, _, rfl, hd, hf, fun Dn nD => ?_⟩
    have nDH := (s2.trans s26).free nD
    have wl1 := way_len (i + 1)
    refine lc_dW (walk_zip (K := K) (a := d) (b := f) (n := i + 2) (by rw [List.length_map, List.length_map, List.length_append, List.length_cons, wl]; exact (Nat.min_self _).symm)) (S := []) Has.nil ((wayK (i + 1)).map fun x => some (PyData.int x)) nD (by rw [List.length_map, wl1]) (small1000 (by omega)) (fun H' s => ⟨s.seq hd, s.seq hf⟩) ?_ ?_
    · rintro j o H0 x H'' hj ho s0 hH ⟨T1, x1, y1, rfl, nT, rfl, e1, e2⟩ Qt qt
      have st := same_upd (o := .tup [x1, y1]) nT
      obtain ⟨n1, en1, rfl⟩ := int_at e1
      obtain ⟨n2, en2, rfl⟩ := int_at e2
      have eo : o = some (PyData.int (n1 + n2)) := by
        rw [List.getElem?_map] at ho
        change ((List.zipWith (fun a b => a + b) (0 :: wayK i) (wayK i ++ [0]))[j]?.map _) = _ at ho
        rw [List.getElem?_zipWith, en1, en2] at ho
        exact (Option.some.inj ho).symm
      subst eo
      refine ⟨T1, _, rfl, .inl (.inl upd_same), rfl, ?_⟩
      generalize upd H0 T1 (.tup [V.int n1, V.int n2]) = H8 at st
      refine ⟨_, _, rfl, _, _, rfl, rfl, ⟨rfl, ?_⟩⟩
      walk_at "go"
      exact qt _ _ st (.int _)
    · intro H7 s7 _ dD
      rw [sel_map, rs_nil] at dD
      obtain ⟨_, e, hD⟩ := Dt.intsE (ns := wayK (i + 1)) dD
      cases e
      exact ⟨_, _, _, Dn, rfl, (s2.trans s26).trans s7, nDH, hD⟩
  · rintro σ H2 ⟨v2, v3, v4, p, rfl, s2, np, h2⟩
    walk_at "go"
    exact q _ p s2 np h2
theorem getI_map (D : List (Int × Int)) (k : Int) : (valV (kvD D) (.inl k)).getD (V.int 0) = V.int ((getI D k).getD 0) := by
  rw [val_kvD]
  cases getI D k <;> rfl
theorem getI_mem {D : List (Int × Int)} {p : Int × Int} (h : p ∈ D) : ∃ z, getI D p.1 = some z := by
  unfold getI
  cases e : D.find? (fun q => decide (q.1 = p.1)) with
  | some q => exact ⟨q.2, rfl⟩
  | none =>
    have := List.find?_eq_none.mp e p h
    simp at this
def sp_law_told_right : Sp := fun vs H Q _ => ∃ (m b : Nat) (a1 a2 : Addr) (D : DD), vs = [.int m, .int b, .ref a1, .ref a2] ∧ 1 ≤ m ∧ m ≤ 20 ∧ b ≤ 10 ∧ H a1 = some (.dK (kvD D.1)) ∧ H a2 = some (.dK (kvD D.2)) ∧ D.1.length ≤ 5000 ∧ rightK m b D = true ∧ ∀ H', Same H H' → Q (.bl true) H'
theorem G_law_told_right (T : Top K mg) : FnOk P w K mg base CX0 6 T.f_law_told_right T.fd_law_told_right ["_law_many", "_law_bits", "_law_sizes", "_law_widths"] sp_law_told_right := by
  refine T.F_law_told_right.ok sc_law_told_right (fun vs H Q E h => by obtain ⟨m, b, a1, a2, D, rfl, _⟩ := h; rfl) (fun cdv A outer s H vs Q E hr h => ?_)
  obtain ⟨m, b, a1, a2, D, rfl, hm1, hm, hb, h1, h2, hl, hR, q⟩ := h
  refine ⟨_, PSs.nox (pss_cons (ps_set (i := 4) sc_law_told_right.nd rfl (by first | exact Or.inl rfl | exact Or.inr rfl) (pe_op op_shl pe_int (pe_op op_mul (pv 0) (pv 1))))
  (pss_cons (ps_for PassesOwn.never rfl (pi_range1 (by rfl) T.n_range (pa_cons (pe_op op_add (pe_op op_mul (pv 0) (pe_op op_add (pv 1) pe_int)) pe_int) pa_nil)) (pg_name (i := 5) sc_law_told_right.nd rfl (by first | exact Or.inl rfl | exact Or.inr rfl))
    (pss_one (ps_if (pt_cmpR op_ne (pe_call (G_how_many_least T) (hr.mono (by decide)) (by rfl) T.g_how_many_least T.F_how_many_least.kp T.b_how_many_least .nil pass0 (pa_cons (pv 0) (pa_cons (pv 1) (pa_cons (pv 5) pa_nil)))) (pe_dget2 (hu_of hr) (pv 2) (pv 5) pe_int ⟨by rfl, by rfl, by rfl, by rfl⟩) (nomark _))
    (pss_one (ps_ret pe_bl))
    pss_nil)))
  (pss_cons (ps_for PassesOwn.never rfl (pi_range1 (by rfl) T.n_range (pa_cons (pe_op op_add (pv 1) pe_int) pa_nil)) (pg_name (i := 6) sc_law_told_right.nd rfl (by first | exact Or.inl rfl | exact Or.inr rfl))
    (pss_one (ps_if (pt_cmpR op_ne (pe_call (G_how_many_with T) (hr.mono (by decide)) (by rfl) T.g_how_many_with T.F_how_many_with.kp T.b_how_many_with .nil pass0 (pa_cons (pv 0) (pa_cons (pv 1) (pa_cons (pv 6) pa_nil)))) (pe_dget2 (hu_of hr) (pv 3) (pv 6) pe_int ⟨by rfl, by rfl, by rfl, by rfl⟩) (nomark _))
    (pss_one (ps_ret pe_bl))
    pss_nil)))
  (pss_cons (ps_set (i := 7) sc_law_told_right.nd rfl (by first | exact Or.inl rfl | exact Or.inr rfl) (pe_callB (k_sum K rfl rfl) (by rfl) T.n_sum (by decide +kernel) (pa_cons (pe_lock (pe_lc (own := [("_law_size", 5)]) (g := gName 5) (tt := tYes) (by rfl) sc_law_told_right.nd (pi_keys (pv 2)) (blkOk_by (own := [("_law_size", 5)]) (N := N_law_told_right) (sc := defScope s_law_told_right) (by decide +kernel)) (fun _ _ _ _ _ => (pg_name (i := 5) sc_law_told_right.nd rfl (by first | exact Or.inl rfl | exact Or.inr rfl))) (fun _ _ _ _ _ => pts_nil) (fun _ _ _ _ _ => (pe_op op_mul (pv 5) (pe_dget (hu_of hr) (pv 2) (pv 5) (fun _ _ => rfl)))))) pa_nil)))
  (pss_one (ps_ret (pe_and (pe_cmpR op_eq (pe_sumVals rfl (by rfl) T.n_sum (pv 2)) (pv 4) (nomark _)) (pe_one (pe_cmpR (k_eqD K rfl hr.units) (pe_call (G_mean_least T) (hr.mono (by decide)) (by rfl) T.g_mean_least T.F_mean_least.kp T.b_mean_least .nil pass0 (pa_cons (pv 0) (pa_cons (pv 1) pa_nil))) (pe_call (G_law_lowest T) (hr.mono (by decide)) (by rfl) T.g_law_lowest T.F_law_lowest.kp T.b_law_lowest .nil pass0 (pa_cons (pv 7) (pa_cons (pv 4) pa_nil))) (nomark _)))))))))), ?_⟩
  unfold rightK at hR
  rw [Bool.and_eq_true, Bool.and_eq_true, Bool.and_eq_true, Bool.and_eq_true, Bool.and_eq_true] at hR
  obtain ⟨hA, hB, hC, hT, hS, hM⟩ := hR
  replace hA : ∀ s, s < m * (b + 1) + 3 → hmlK m b s = (getI D.1 s).getD 0 := fun s hs => of_decide_eq_true (List.all_eq_true.mp hA s (List.mem_range.mpr hs))
  replace hB : ∀ s, s < b + 2 → hmwK m b s = (getI D.2 s).getD 0 := fun s hs => of_decide_eq_true (List.all_eq_true.mp hB s (List.mem_range.mpr hs))
  replace hC : ∀ p ∈ D.1, -(2 ^ 64) < p.1 ∧ p.1 < 2 ^ 64 := fun p hp => of_decide_eq_true (List.all_eq_true.mp hC p hp)
  replace hT : 0 ≤ meanD D.1 := of_decide_eq_true hT
  replace hS : (D.1.map (·.2)).sum = 2 ^ (m * b) := of_decide_eq_true hS
  replace hM : lowF (meanT m b) (2 ^ (m * b)) = lowF (meanD D.1) (2 ^ (m * b)) := of_decide_eq_true hM
  have emb : (m : Int) * (b : Int) = ((m * b : Nat) : Int) := (Int.natCast_mul m b).symm
  have hmb : m * b ≤ 20 * 10 := Nat.mul_le_mul hm hb
  have emb1 : (m : Int) * ((b : Int) + 1) = ((m * (b + 1) : Nat) : Int) := by rw [Int.natCast_mul]; rfl
  have hmb1 : m * (b + 1) ≤ 20 * 11 := Nat.mul_le_mul hm (by omega)
  walk_at "go"
  refine ⟨.inl ⟨by omega, by omega⟩, ?_⟩
  walk_at "b"
  rw [emb]
  refine ⟨_, _, rfl, rfl, ⟨by omega, by omega, by decide⟩, ?_⟩
  walk_at "b"
  rw [Int.toNat_natCast, Int.one_mul]
  generalize hmb0 : m * b = mb at *
  walk_at "go"
  refine ⟨.inl ⟨by omega, by omega⟩, ?_⟩
  walk_at "b"
  rw [emb1]
  generalize hmbe : m * (b + 1) = mb1 at *
  walk_at "go"
  refine ⟨by omega, by omega, ?_⟩
  rw [show ((mb1 : Int) + 3).toNat = mb1 + 3 by omega]
  walk_at "b"
  refine for_range (lo := 0) (n := mb1 + 3) (fun i σ H1 => ∃ (v5 v6 v7 : Option V), σ = [some (.int m), some (.int b), some (.ref a1), some (.ref a2), some (.int (2 ^ mb)), v5, v6, v7] ∧ Same H H1) ⟨none, none, none, rfl, Same.refl _⟩ ?_ ?_
  · rintro i σ H1 hi ⟨v5, v6, v7, rfl, s1⟩
    rw [Int.zero_add]
    walk_at "go"
    refine ⟨m, b, i, rfl, hm1, by omega, by omega, by omega, fun H2 s2 => ?_⟩
    have hd := s2 _ _ (s1 _ _ h1)
    refine ⟨_, rfl, a1, rfl, .inl ⟨_, .inl hd⟩, _, rfl, _, DGet.k (k := .inl (i : Int)) hd, ?_⟩
    rw [getI_map]
    refine ⟨rfl, _, rfl, iteENF (hA i (by omega)) ?_⟩
    exact ⟨_, _, _, rfl, s1.trans s2⟩
  rintro σ H1 ⟨v5, v6, v7, rfl, s1⟩
  walk_at "go"
  refine ⟨by omega, by omega, ?_⟩
  rw [show ((b : Int) + 2).toNat = b + 2 by omega]
  walk_at "b"
  refine for_range (lo := 0) (n := b + 2) (fun i σ H1 => ∃ (v5 v6 v7 : Option V), σ = [some (.int m), some (.int b), some (.ref a1), some (.ref a2), some (.int (2 ^ mb)), v5, v6, v7] ∧ Same H H1) ⟨_, _, _, rfl, s1⟩ ?_ ?_
  · rintro i σ H1 hi ⟨v5, v6, v7, rfl, s1⟩
    rw [Int.zero_add]
    walk_at "go"
    refine ⟨m, b, i, rfl, hm1, by omega, by omega, by omega, fun H2 s2 => ?_⟩
    have hd := s2 _ _ (s1 _ _ h2)
    refine ⟨_, rfl, a2, rfl, .inl ⟨_, .inl hd⟩, _, rfl, _, DGet.k (k := .inl (i : Int)) hd, ?_⟩
    rw [getI_map]
    refine ⟨rfl, _, rfl, iteENF (hB i (by omega)) ?_⟩
    exact ⟨_, _, _, rfl, s1.trans s2⟩
  clear s1
  rintro σ H1 ⟨v5, v6, v7, rfl, s1⟩
  have hd := s1 _ _ h1
  refine ⟨a1, _, hd, trivial, fun od => ?_⟩
  refine ⟨_, rfl, a1, od, rfl, .inl ⟨kvD D.1, upd_same, fun Dn nD => ?_⟩⟩
  have nDa : Dn ≠ a1 := fun z => by rw [z, upd_same] at nD; cases nD
  have hfz : upd H1 a1 (.frz od (.dK (kvD D.1))) a1 = some (.frz od (.dK (kvD D.1))) := upd_same
  refine lc_dW (walk_keys (d := a1) (o := od) (kvs := kvD D.1)) (S := []) Has.nil (D.1.map fun p => some (PyData.int (p.1 * (getI D.1 p.1).getD 0))) nD (by rw [List.length_map, kvD_len]) (by rw [kvD_len, sizeLine_eq]; omega) (fun H' s => s _ _ hfz) ?_ ?_
  · rintro i o H0 x H'' hi ho s0 hH ⟨rfl, k, v, hk, rfl⟩ Qt qt
    unfold kvD at hk
    rw [List.getElem?_map] at hk
    obtain ⟨p, hp, hpe⟩ := Option.map_eq_some_iff.mp hk
    cases hpe
    rw [List.getElem?_map, hp] at ho
    cases ho
    have hpm := List.mem_of_getElem? hp
    obtain ⟨z, hz⟩ := getI_mem hpm
    have hc := hC p hpm
    dsimp only at qt
    rw [hz] at qt
    refine ⟨rfl, ?_⟩
    walk_at "go"
    refine ⟨a1, .int z, rfl, .inl ⟨kvD D.1, .inl p.1, .inr ⟨od, s0 _ _ hfz⟩, rfl, by rw [val_kvD, hz]; rfl⟩, ?_⟩
    refine ⟨_, _, rfl, rfl, .inl hc, ?_⟩
    exact qt _ _ (Same.refl _) (.int _)
  intro H2 s2 _ dD
  have es : ((D.1.map fun p => some (PyData.int (p.1 * (getI D.1 p.1).getD 0))).filterMap id) = (D.1.map fun p => p.1 * (getI D.1 p.1).getD 0).map PyData.int := by
    rw [sel_map, List.map_map]
    rfl
  rw [es, rs_nil] at dD
  obtain ⟨_, e, hD⟩ := Dt.intsE (ns := D.1.map fun p => p.1 * (getI D.1 p.1).getD 0) dD
  cases e
  refine ⟨s2 _ _ hfz, ?_⟩
  have hD2 : upd H2 a1 (.dK (kvD D.1)) Dn = some (.lst ((D.1.map fun p => p.1 * (getI D.1 p.1).getD 0).map V.int)) := by rw [upd_ne nDa]; exact hD
  have hd2 : upd H2 a1 (.dK (kvD D.1)) a1 = some (.dK (kvD D.1)) := upd_same
  have s12 : Same H1 (upd H2 a1 (.dK (kvD D.1))) := fun c u hc => by
    by_cases z : c = a1
    · rw [z, hd] at hc
      rw [z, hd2]
      exact hc
    · rw [upd_ne z]
      exact s2 c u (by rw [upd_ne z]; exact hc)
  generalize upd H2 a1 (.dK (kvD D.1)) = H3 at *
  refine ⟨Dn, _, rfl, .inl (.inl hD2), ?_⟩
  refine ⟨_, rfl, a1, _, _, rfl, .inl hd2, vals_kvD D.1, _, rfl, rfl, _, rfl, ?_⟩
  rw [hS]
  refine iteET rfl ?_
  refine ⟨_, rfl, _, rfl, m, b, rfl, hm1, by omega, by omega, fun H4 p1 s4 np1 hp1 => ?_⟩
  obtain ⟨T, hT2⟩ : ∃ T : Nat, meanD D.1 = (T : Int) := ⟨(meanD D.1).toNat, by omega⟩
  have eT : (D.1.map fun p => p.1 * (getI D.1 p.1).getD 0).sum = (T : Int) := hT2
  rw [eT]
  refine ⟨_, rfl, _, rfl, T, 2 ^ mb, by rw [Int.natCast_pow]; rfl, Nat.pow_pos (by decide), Nat.lt_of_le_of_lt (Nat.pow_le_pow_right (by decide) (show mb ≤ 200 by omega)) (by decide), fun H5 p2 s5 np2 hp2 => ?_⟩
  have ec : ((2 ^ mb : Nat) : Int) = 2 ^ mb := by rw [Int.natCast_pow]; rfl
  rw [ec, ← hT2, ← hM] at hp2
  rw [hmb0] at hp1
  have x1 : Dt H5 (.ref p1) (pairD (lowF (meanT m b) (2 ^ mb))) := .tup (s5 _ _ hp1) (DtA.ints [_, _])
  have x2 : Dt H5 (.ref p2) (pairD (lowF (meanT m b) (2 ^ mb))) := .tup hp2 (DtA.ints [_, _])
  refine d_eq x1 x2 rfl rfl ?_
  rw [show PyData.eqv (pairD (lowF (meanT m b) (2 ^ mb))) (pairD (lowF (meanT m b) (2 ^ mb))) = true by unfold pairD; simp [PyData.eqv, PyData.eqvAll]]
  exact q _ (((s1.trans s12).trans s4).trans s5)
end
end My

namespace My
open PySem PySem.Spec PyProof.Rows L2 Pre
theorem idx_at {l : List Int} {M : Int} (h : M ∈ l) : l[l.idxOf M]? = some M := by
  rw [List.getElem?_eq_getElem (List.idxOf_lt_length_of_mem h), List.getElem_idxOf]
theorem flat_ints (l : List Int) : (l.map V.int).all flatV = true := by
  rw [List.all_map]
  exact List.all_eq_true.mpr fun _ _ => rfl
theorem index_ints {K : PySem.W.Frag} {H : Hp} {a : Addr} {l : List Int} {M : Int} {Q : VK} (hS : SqL K H a (l.map V.int)) (hM : M ∈ l) (q : Q (.int (l.idxOf M : Nat)) H) : rIndex K (.ref a) [.int M] H Q := by
  refine ⟨a, _, .int M, l.idxOf M, .int M, rfl, rfl, hS, rfl, flat_ints l, by rw [List.getElem?_map, idx_at hM]; rfl, by simp [eqV], fun m z hm hz => ?_, q⟩
  rw [List.getElem?_map] at hz
  obtain ⟨x, hx, rfl⟩ := Option.map_eq_some_iff.mp hz
  have hne : x ≠ M := fun e => by
    subst e
    have h1 := List.not_of_lt_findIdx (p := (· == x)) (xs := l) hm
    obtain ⟨hlt, hxe⟩ := List.getElem?_eq_some_iff.mp hx
    rw [hxe] at h1
    simp at h1
  simp [eqV, hne]
theorem foldl_takeN {α β : Type} (f : α → β → α) (a : α) {l : List β} {k : Nat} {x : β} (h : l[k]? = some x) : (l.take (k + 1)).foldl f a = f ((l.take k).foldl f a) x := by
  rw [List.take_add_one, h, List.foldl_append]
  rfl
theorem lens_of {f : DD → List Int → DD} (hf : ∀ D r, (f D r).1.length ≤ D.1.length + 1 ∧ (f D r).2.length ≤ D.2.length + 1) : ∀ (l : List (List Int)) (D : DD), (l.foldl f D).1.length ≤ D.1.length + l.length ∧ (l.foldl f D).2.length ≤ D.2.length + l.length
  | [], _ => ⟨Nat.le_refl _, Nat.le_refl _⟩
  | r :: l, D => by
    have h1 := lens_of hf l (f D r)
    have h2 := hf D r
    rw [List.foldl_cons, List.length_cons]
    omega
theorem small_lens (b : Nat) (l : List (List Int)) : (l.foldl (smallS b) ([], [])).1.length ≤ l.length ∧ (l.foldl (smallS b) ([], [])).2.length ≤ l.length := by
  have := lens_of (f := smallS b) (fun D r => ⟨bump_len .., bump_len ..⟩) l ([], [])
  simpa using this
theorem bits_lens (m b : Nat) (l : List (List Int)) : (l.foldl (bitsS m b) ([], [])).1.length ≤ l.length ∧ (l.foldl (bitsS m b) ([], [])).2.length ≤ l.length := by
  have := lens_of (f := bitsS m b) (fun D r => ⟨bump_len .., bump_len ..⟩) l ([], [])
  simpa using this
local macro_rules | `(tactic| walk_at "go") => `(tactic| repeat (first | (with_reducible first | refine iteT ?_ | refine iteF ?_ | refine iteNtt ?_ | refine iteNff ?_ | refine iteET (by omega) ?_ | refine iteEF (by omega) ?_ | refine iteENT (by omega) ?_ | refine iteENF (by omega) ?_ | refine iteDT (by omega) ?_ | refine iteDF (by omega) ?_ | refine iteNT (by omega) ?_ | refine iteNF (by omega) ?_) | refine ⟨_, rfl, ?_⟩ | refine ⟨_, _, rfl, rfl, ?_⟩ | refine ⟨_, _, rfl, ?_⟩ | refine ⟨rfl, ?_⟩ | refine .inl ⟨_, rfl, ?_⟩ | refine .inr ⟨_, rfl, ?_⟩))
local macro_rules | `(tactic| walk_at "b") => `(tactic| try dsimp (config := { proj := false, iota := false, eta := false, zeta := false }) only)
section
variable {P : Program} {w : World} {K : PySem.W.Frag} {mg : Str → Option Value} {base : Heap}
def sp_law_small_right (K : PySem.W.Frag) : Sp := fun vs H Q _ => ∃ m b : Nat, vs = [.int m, .int b] ∧ 1 ≤ m ∧ m ≤ 20 ∧ b ≤ 9 ∧ (∀ i, i ≤ m → (2 ^ b) ^ i ≤ 5000) ∧ rightK m b (smallD m b) = true ∧ ∀ H', Same H H' → Q (.bl true) H'
theorem G_law_small_right (T : Top K mg) : FnOk P w K mg base CX0 7 T.f_law_small_right T.fd_law_small_right ["_law_many", "_law_bits"] (sp_law_small_right K) := by
  refine T.F_law_small_right.ok sc_law_small_right (fun vs H Q E h => by obtain ⟨m, b, rfl, _⟩ := h; rfl) (fun cdv A outer s H vs Q E hr h => ?_)
  obtain ⟨m, b, rfl, hm1, hm, hb, hp, hR, q⟩ := h
  refine ⟨_, PSs.nox (pss_cons (ps_par (by rfl) sc_law_small_right.nd (i := 3) (j := 4) rfl rfl (by decide) rfl rfl (pa_cons (pe_callTy (k_dictP K rfl rfl) (by rfl) T.n_dict (by decide +kernel) (pa_cons (pe_lst pa_nil) pa_nil)) (pa_cons (pe_callTy (k_dictP K rfl rfl) (by rfl) T.n_dict (by decide +kernel) (pa_cons (pe_lst pa_nil) pa_nil)) pa_nil)) (by rfl))
  (pss_cons (ps_for PassesOwn.never rfl (k_piL K rfl (pe_call (G_law_below T) (hr.mono (by decide)) (by rfl) T.g_law_below T.F_law_below.kp T.b_law_below .nil pass0 (pa_cons (pv 0) (pa_cons (pe_op op_shl pe_int (pv 1)) pa_nil)))) (pg_name (i := 2) sc_law_small_right.nd rfl (by first | exact Or.inl rfl | exact Or.inr rfl))
    (pss_cons (ps_setLc (i := 5) (own := [("_law_width", 7)]) (g := gName 7) (tt := tYes) (by rfl) sc_law_small_right.nd rfl rfl (sw_true rfl rfl rfl (by decide +kernel)) (pi_range1 (by rfl) T.n_range (pa_cons (pe_op op_add (pv 1) pe_int) pa_nil)) (blkOk_by (own := [("_law_width", 7)]) (N := N_law_small_right) (sc := defScope s_law_small_right) (by decide +kernel)) (fun _ _ _ _ _ => (pg_name (i := 7) sc_law_small_right.nd rfl (by first | exact Or.inl rfl | exact Or.inr rfl))) (fun _ _ _ _ _ => pts_nil) (fun _ _ _ _ _ => (pe_call (G_law_price T) (hr.mono (by decide)) (by rfl) T.g_law_price T.F_law_price.kp T.b_law_price .nil pass0 (pa_cons (pv 2) (pa_cons (pv 7) pa_nil)))))
  (pss_cons (ps_set (i := 6) sc_law_small_right.nd rfl (by first | exact Or.inl rfl | exact Or.inr rfl) (pe_callB (k_min K rfl rfl) (by rfl) T.n_min (by decide +kernel) (pa_cons (pv 5) pa_nil)))
  (pss_cons (ps_dput (hu_of hr) (pv 3) (pv 6) (pe_op op_add (pe_dget2 (hu_of hr) (pv 3) (pv 6) pe_int ⟨by rfl, by rfl, by rfl, by rfl⟩) pe_int) rfl)
  (pss_one (ps_dput (hu_of hr) (pv 4) (pe_bm PySem.F.plainAttrs_list PySem.F.slot_list_index PySem.F.type_list_index (k_index K rfl) (pv 5) (pa_cons (pv 6) pa_nil)) (pe_op op_add (pe_dget2 (hu_of hr) (pv 4) (pe_bm PySem.F.plainAttrs_list PySem.F.slot_list_index PySem.F.type_list_index (k_index K rfl) (pv 5) (pa_cons (pv 6) pa_nil)) pe_int ⟨by rfl, by rfl, by rfl, by rfl⟩) pe_int) rfl))))))
  (pss_one (ps_ret (pe_call (G_law_told_right T) (hr.mono (by decide)) (by rfl) T.g_law_told_right T.F_law_told_right.kp T.b_law_told_right .nil pass0 (pa_cons (pv 0) (pa_cons (pv 1) (pa_cons (pv 3) (pa_cons (pv 4) pa_nil))))))))), ?_⟩
  refine ⟨Nat.zero_le _, fun l1 n1 => ?_⟩
  obtain ⟨H1, e1, s1, h1⟩ := fresh (.lst ([] : List V)) n1
  rw [e1]
  refine ⟨l1, [], [], rfl, .inl (.inl h1), .nil, fun d1 nd1 => ?_⟩
  obtain ⟨H2, e2, s2, h2⟩ := fresh (.dK (kvD [])) nd1
  rw [show upd H1 d1 (.dK (mergeK [] [])) = H2 from e2]
  refine ⟨Nat.zero_le _, fun l2 n2 => ?_⟩
  obtain ⟨H3, e3, s3, h3⟩ := fresh (.lst ([] : List V)) n2
  rw [e3]
  refine ⟨l2, [], [], rfl, .inl (.inl h3), .nil, fun d2 nd2 => ?_⟩
  obtain ⟨H4, e4, s4, h4⟩ := fresh (.dK (kvD [])) nd2
  rw [show upd H3 d2 (.dK (mergeK [] [])) = H4 from e4]
  have hd1 := s4 _ _ (s3 _ _ h2)
  have n12 : d1 ≠ d2 := ne_of_none (s3 _ _ h2) nd2
  have s04 := ((s1.trans s2).trans s3).trans s4
  have nd1H : H d1 = none := s1.free nd1
  have nd2H : H d2 = none := ((s1.trans s2).trans s3).free nd2
  have hS : Has [d1, d2] H4 := (Has.nil.cons h4).cons hd1
  have h2b : (2 : Nat) ^ b ≤ 512 := Nat.le_trans (Nat.pow_le_pow_right (by decide) hb) (by decide)
  walk_at "go"
  refine ⟨⟨by omega, by omega, by decide⟩, ?_⟩
  refine ⟨[d1, d2], m, 2 ^ b, by show [V.int (m : Int), V.int (1 * 2 ^ ((b : Int)).toNat)] = _; rw [Int.toNat_natCast, Int.one_mul, Int.natCast_pow]; rfl, hS, by omega, by omega, hp, fun H5 p s5 np d5 => ?_⟩
  obtain ⟨p', xs, e, hpx, hx⟩ := d5.listE
  cases e
  have hxl := hx.len
  rw [List.length_map, below_len] at hxl
  have hlen : (2 ^ b) ^ m ≤ 5000 := hp m (Nat.le_refl _)
  refine ⟨p, rfl, ⟨_, .inl (.inl (rs_le _ _ hpx))⟩, for_list (K := K) (a := p) (xs := xs) (fun k σ H6 => ∃ (v2 v5 v6 v7 : Option V), σ = [some (.int m), some (.int b), v2, some (.ref d1), some (.ref d2), v5, v6, v7] ∧ Same H H6 ∧ Sta [d1, d2] H5 H6 ∧
      H6 d1 = some (.dK (kvD (((belowK m (2 ^ b)).take k).foldl (smallS b) ([], [])).1)) ∧ H6 d2 = some (.dK (kvD (((belowK m (2 ^ b)).take k).foldl (smallS b) ([], [])).2)))
    ⟨none, none, none, none, rfl, s04.trans s5, Sta.of (Same.refl _), s5 _ _ hd1, s5 _ _ h4⟩ (fun k σ H6 _ ⟨_, _, _, _, _, _, s, _⟩ => .inl (.inl (rs_le _ _ (s _ _ hpx)))) ?_ ?_⟩
  · rintro k x σ H6 hxk ⟨v2, v5, v6, v7, rfl, s6, t6, g1, g2⟩
    obtain ⟨dx, hdx, hxd⟩ := hx.got hxk
    rw [List.getElem?_map] at hdx
    obtain ⟨r, hr, rfl⟩ := Option.map_eq_some_iff.mp hdx
    obtain ⟨a, rfl, hra⟩ := Dt.intsE (ns := r) (hxd.same t6)
    have hA : SqL K H6 a (r.map V.int) := .inl (.inl (rs_le _ _ hra))
    rw [foldl_takeN _ _ hr]
    have hkl : ((belowK m (2 ^ b)).take k).length ≤ 5000 := by rw [List.length_take, below_len]; omega
    obtain ⟨len1, len2⟩ := small_lens b ((belowK m (2 ^ b)).take k)
    generalize ((belowK m (2 ^ b)).take k).foldl (smallS b) ([], []) = D at *
    have hpl : (pricesS b r).length = b + 1 := by unfold pricesS; rw [List.length_map, List.length_range]
    walk_at "go"
    refine ⟨by omega, by omega, fun L nL => ?_⟩
    rw [show ((b : Int) + 1).toNat = b + 1 by omega]
    refine lc_mapR (lo := 0) (n := b + 1) ((pricesS b r).map V.int) nL (by rw [List.length_map, hpl]) (small1000 (by omega)) ?_ ?_ ?_
    · exact fun x => rfl
    · intro j y H' hj hy s Qt qt
      unfold pricesS at hy
      rw [List.getElem?_map, List.getElem?_map, List.getElem?_range hj] at hy
      cases hy
      refine ⟨_, rfl, _, rfl, a, r, j, ?_, s.seq hA, by omega, qt _ (Same.refl _)⟩
      show [V.ref a, V.int (0 + (j : Int))] = _
      rw [Int.zero_add]
    intro H7 s7 h7
    have hL : SqL K H7 L ((pricesS b r).map V.int) := .inl (.inl h7)
    refine ⟨_, rfl, L, _, rfl, hL, by rw [hpl]; exact Nat.succ_pos _, fun M hM hle => ?_⟩
    have eM := min_uniq hM hle
    have k1 := s7 _ _ g1
    have k2 := s7 _ _ g2
    refine ⟨_, rfl, d1, rfl, .inl ⟨_, .inl k1⟩, _, rfl, _, DGet.k (k := .inl M) k1, ?_⟩
    rw [getI_map]
    refine ⟨_, _, rfl, rfl, _, rfl, _, rfl, d1, _, rfl, DPut.k (k := .inl M) k1 (by rw [kvD_len, sizeLine_eq]; omega), ?_⟩
    rw [put_kvD]
    have hL8 : upd H7 d1 (.dK (kvD (putI D.1 M ((getI D.1 M).getD 0 + 1)))) L = some (.lst ((pricesS b r).map V.int)) := by rw [upd_ne (ne_of_none g1 nL).symm]; exact h7
    have k18 : upd H7 d1 (.dK (kvD (putI D.1 M ((getI D.1 M).getD 0 + 1)))) d1 = some (.dK (kvD (bump D.1 M 1))) := upd_same
    have k28 : upd H7 d1 (.dK (kvD (putI D.1 M ((getI D.1 M).getD 0 + 1)))) d2 = some (.dK (kvD D.2)) := by rw [upd_ne n12.symm]; exact k2
    have t8 : Sta [d1, d2] H7 (upd H7 d1 (.dK (kvD (putI D.1 M ((getI D.1 M).getD 0 + 1))))) := Sta.upd List.mem_cons_self
    have s8 : Same H (upd H7 d1 (.dK (kvD (putI D.1 M ((getI D.1 M).getD 0 + 1))))) := same_over nd1H (s6.trans s7)
    generalize upd H7 d1 (.dK (kvD (putI D.1 M ((getI D.1 M).getD 0 + 1)))) = H8 at *
    have hL9 : SqL K H8 L ((pricesS b r).map V.int) := .inl (.inl hL8)
    refine ⟨_, rfl, d2, rfl, .inl ⟨_, .inl k28⟩, _, rfl, .inl ⟨rfl, _, hL9⟩, _, rfl, ?_⟩
    simp only [tNil]
    refine index_ints hL9 hM ?_
    refine ⟨_, DGet.k (k := .inl (((pricesS b r).idxOf M : Nat) : Int)) k28, ?_⟩
    rw [getI_map]
    refine ⟨_, _, rfl, rfl, _, rfl, _, rfl, .inl ⟨rfl, _, hL9⟩, _, rfl, ?_⟩
    simp only [tNil]
    refine index_ints hL9 hM ?_
    refine ⟨d2, _, rfl, DPut.k (k := .inl (((pricesS b r).idxOf M : Nat) : Int)) k28 (by rw [kvD_len, sizeLine_eq]; omega), ?_⟩
    rw [put_kvD]
    refine ⟨_, _, _, _, rfl, same_over nd2H s8, ((t6.trans (Sta.of s7)).trans t8).trans (Sta.upd (List.mem_cons_of_mem _ List.mem_cons_self)), ?_, ?_⟩
    · rw [upd_ne n12, k18, eM]
      rfl
    · rw [upd_same, eM]
      rfl
  · rintro σ H6 ⟨v2, v5, v6, v7, rfl, s6, t6, g1, g2⟩
    rw [hxl, ← below_len, List.take_length] at g1 g2
    have len1 := small_lens b (belowK m (2 ^ b))
    rw [below_len] at len1
    refine ⟨_, rfl, _, rfl, _, rfl, _, rfl, m, b, d1, d2, smallD m b, rfl, hm1, hm, by omega, g1, g2, Nat.le_trans len1.1 hlen, hR, fun H' s => q _ (s6.trans s)⟩
def sp_law_by_bits_right (K : PySem.W.Frag) : Sp := fun vs H Q _ => ∃ m b : Nat, vs = [.int m, .int b] ∧ 1 ≤ m ∧ m ≤ 20 ∧ b ≤ 9 ∧ (∀ i, i ≤ b → (m + 1) ^ i ≤ 5000) ∧ rightK m b (bitsD m b) = true ∧ ∀ H', Same H H' → Q (.bl true) H'
theorem G_law_by_bits_right (T : Top K mg) : FnOk P w K mg base CX0 7 T.f_law_by_bits_right T.fd_law_by_bits_right ["_law_many", "_law_bits"] (sp_law_by_bits_right K) := by
  refine T.F_law_by_bits_right.ok sc_law_by_bits_right (fun vs H Q E h => by obtain ⟨m, b, rfl, _⟩ := h; rfl) (fun cdv A outer s H vs Q E hr h => ?_)
  obtain ⟨m, b, rfl, hm1, hm, hb, hp, hR, q⟩ := h
  refine ⟨_, PSs.nox (pss_cons (ps_par3 (by rfl) sc_law_by_bits_right.nd (i := 3) (j := 4) (l := 5) rfl rfl rfl (by decide) (by decide) (by decide) rfl rfl rfl (pa_cons (pe_callTy (k_dictP K rfl rfl) (by rfl) T.n_dict (by decide +kernel) (pa_cons (pe_lst pa_nil) pa_nil)) (pa_cons (pe_callTy (k_dictP K rfl rfl) (by rfl) T.n_dict (by decide +kernel) (pa_cons (pe_lst pa_nil) pa_nil)) (pa_cons (pe_call (G_law_choices T) (hr.mono (by decide)) (by rfl) T.g_law_choices T.F_law_choices.kp T.b_law_choices .nil pass0 (pa_cons (pv 0) pa_nil)) pa_nil))) (by rfl))
  (pss_cons (ps_for PassesOwn.never rfl (k_piL K rfl (pe_call (G_law_below T) (hr.mono (by decide)) (by rfl) T.g_law_below T.F_law_below.kp T.b_law_below .nil pass0 (pa_cons (pv 1) (pa_cons (pe_op op_add (pv 0) pe_int) pa_nil)))) (pg_name (i := 2) sc_law_by_bits_right.nd rfl (by first | exact Or.inl rfl | exact Or.inr rfl))
    (pss_cons (ps_par (by rfl) sc_law_by_bits_right.nd (i := 9) (j := 10) rfl rfl (by decide) rfl rfl (pa_cons (pe_lst pa_nil) (pa_cons pe_int pa_nil)) (by rfl))
  (pss_cons (ps_for PassesOwn.never rfl (k_piL K rfl (pv 2)) (pg_name (i := 6) sc_law_by_bits_right.nd rfl (by first | exact Or.inl rfl | exact Or.inr rfl))
    (pss_one (ps_set (i := 10) sc_law_by_bits_right.nd rfl (by first | exact Or.inl rfl | exact Or.inr rfl) (pe_op op_mul (pv 10) (pe_ix (k_ixL K rfl) (pv 5) (pv 6) (fun _ _ => rfl))))))
  (pss_cons (ps_for PassesOwn.never rfl (pi_range1 (by rfl) T.n_range (pa_cons (pe_op op_add (pv 1) pe_int) pa_nil)) (pg_name (i := 7) sc_law_by_bits_right.nd rfl (by first | exact Or.inl rfl | exact Or.inr rfl))
    (pss_cons (ps_set (i := 11) sc_law_by_bits_right.nd rfl (by first | exact Or.inl rfl | exact Or.inr rfl) (pe_callB (k_sum K rfl rfl) (by rfl) T.n_sum (by decide +kernel) (pa_cons (pe_lc (own := [("_law_at", 12), ("_law_one", 6)]) (g := gTup K 2 (gCons (gName 12) (gCons (gName 6) (gNil)))) (tt := tYes) (by rfl) sc_law_by_bits_right.nd (k_piE K rfl (by rfl) T.n_enumerate (pa_cons (pe_slice (k_slL K rfl) (pv 2) (po_some (pv 7)) po_none) pa_nil)) (blkOk_by (own := [("_law_at", 12), ("_law_one", 6)]) (N := N_law_by_bits_right) (sc := defScope s_law_by_bits_right) (by decide +kernel)) (fun _ _ _ _ _ => (k_pgT K rfl (by rfl) (pgs_cons (pg_name (i := 12) sc_law_by_bits_right.nd rfl (by first | exact Or.inl rfl | exact Or.inr rfl)) (pgs_cons (pg_name (i := 6) sc_law_by_bits_right.nd rfl (by first | exact Or.inl rfl | exact Or.inr rfl)) pgs_nil)))) (fun _ _ _ _ _ => pts_nil) (fun _ _ _ _ _ => (pe_op op_shl (pv 6) (pv 12)))) pa_nil)))
  (pss_one (ps_expr (pe_bm PySem.F.plainAttrs_list PySem.F.slot_list_append PySem.F.type_list_append mt_append (pv 9) (pa_cons (pe_op op_add (pe_op op_mul (pv 0) (pe_op op_add (pv 7) pe_int)) (pv 11)) pa_nil))))))
  (pss_cons (ps_set (i := 8) sc_law_by_bits_right.nd rfl (by first | exact Or.inl rfl | exact Or.inr rfl) (pe_callB (k_min K rfl rfl) (by rfl) T.n_min (by decide +kernel) (pa_cons (pv 9) pa_nil)))
  (pss_cons (ps_dput (hu_of hr) (pv 3) (pv 8) (pe_op op_add (pe_dget2 (hu_of hr) (pv 3) (pv 8) pe_int ⟨by rfl, by rfl, by rfl, by rfl⟩) (pv 10)) rfl)
  (pss_one (ps_dput (hu_of hr) (pv 4) (pe_bm PySem.F.plainAttrs_list PySem.F.slot_list_index PySem.F.type_list_index (k_index K rfl) (pv 9) (pa_cons (pv 8) pa_nil)) (pe_op op_add (pe_dget2 (hu_of hr) (pv 4) (pe_bm PySem.F.plainAttrs_list PySem.F.slot_list_index PySem.F.type_list_index (k_index K rfl) (pv 9) (pa_cons (pv 8) pa_nil)) pe_int ⟨by rfl, by rfl, by rfl, by rfl⟩) (pv 10)) rfl))))))))
  (pss_one (ps_ret (pe_call (G_law_told_right T) (hr.mono (by decide)) (by rfl) T.g_law_told_right T.F_law_told_right.kp T.b_law_told_right .nil pass0 (pa_cons (pv 0) (pa_cons (pv 1) (pa_cons (pv 3) (pa_cons (pv 4) pa_nil))))))))), ?_⟩
  refine ⟨Nat.zero_le _, fun l1 n1 => ?_⟩
  obtain ⟨H1, e1, s1, h1⟩ := fresh (.lst ([] : List V)) n1
  rw [e1]
  refine ⟨l1, [], [], rfl, .inl (.inl h1), .nil, fun d1 nd1 => ?_⟩
  obtain ⟨H2, e2, s2, h2⟩ := fresh (.dK (kvD [])) nd1
  rw [show upd H1 d1 (.dK (mergeK [] [])) = H2 from e2]
  refine ⟨Nat.zero_le _, fun l2 n2 => ?_⟩
  obtain ⟨H3, e3, s3, h3⟩ := fresh (.lst ([] : List V)) n2
  rw [e3]
  refine ⟨l2, [], [], rfl, .inl (.inl h3), .nil, fun d2 nd2 => ?_⟩
  obtain ⟨H4, e4, s4, h4⟩ := fresh (.dK (kvD [])) nd2
  rw [show upd H3 d2 (.dK (mergeK [] [])) = H4 from e4]
  have hd1 := s4 _ _ (s3 _ _ h2)
  have n12 : d1 ≠ d2 := ne_of_none (s3 _ _ h2) nd2
  have s04 := ((s1.trans s2).trans s3).trans s4
  have nd1H : H d1 = none := s1.free nd1
  have nd2H : H d2 = none := ((s1.trans s2).trans s3).free nd2
  refine ⟨_, rfl, m, rfl, hm, fun H5 W s5 nW hW => ?_⟩
  have g5 := s5 _ _ hd1
  have g6 := s5 _ _ h4
  have hS : Has [d1, d2] H5 := (Has.nil.cons g6).cons g5
  refine ⟨_, _, _, rfl, ?_⟩
  walk_at "go"
  refine ⟨[d1, d2], b, m + 1, rfl, hS, by omega, by omega, hp, fun H6 p s6 np d6 => ?_⟩
  obtain ⟨p', xs, e, hpx, hx⟩ := d6.listE
  cases e
  have hxl := hx.len
  rw [List.length_map, below_len] at hxl
  have hlen : (m + 1) ^ b ≤ 5000 := hp b (Nat.le_refl _)
  have wd1 : W ≠ d1 := (ne_of_none hd1 nW).symm
  have wd2 : W ≠ d2 := (ne_of_none h4 nW).symm
  have hWo : W ∉ [d1, d2] := by simp [wd1, wd2]
  have hW6 := s6 _ _ hW
  refine ⟨p, rfl, ⟨_, .inl (.inl (rs_le _ _ hpx))⟩, for_list (K := K) (a := p) (xs := xs) (fun k σ H7 => ∃ (v2 v6 v7 v8 v9 v10 v11 v12 : Option V), σ = [some (.int m), some (.int b), v2, some (.ref d1), some (.ref d2), some (.ref W), v6, v7, v8, v9, v10, v11, v12] ∧ Same H H7 ∧ Sta [d1, d2] H6 H7 ∧
      H7 d1 = some (.dK (kvD (((belowK b (m + 1)).take k).foldl (bitsS m b) ([], [])).1)) ∧ H7 d2 = some (.dK (kvD (((belowK b (m + 1)).take k).foldl (bitsS m b) ([], [])).2)))
    ⟨_, _, _, _, _, _, _, _, rfl, (s04.trans s5).trans s6, Sta.of (Same.refl _), s6 _ _ g5, s6 _ _ g6⟩ (fun k σ H6 _ ⟨_, _, _, _, _, _, _, _, _, _, s, _⟩ => .inl (.inl (rs_le _ _ (s _ _ hpx)))) ?_ ?_⟩
  · rintro k x σ H7 hxk ⟨v2, v6, v7, v8, v9, v10, v11, v12, rfl, s7, t7, g1, g2⟩
    obtain ⟨dx, hdx, hxd⟩ := hx.got hxk
    rw [List.getElem?_map] at hdx
    obtain ⟨c, hc, rfl⟩ := Option.map_eq_some_iff.mp hdx
    obtain ⟨a, rfl, hca⟩ := Dt.intsE (ns := c) (hxd.same t7)
    have hA : H7 a = some (.lst (c.map V.int)) := rs_le _ _ hca
    obtain ⟨hcl, hcm⟩ := (below_mem b (m + 1) c).mp (List.mem_of_getElem? hc)
    have hW7 : H7 W = some (.lst ((wayK m).map V.int)) := t7.at_ hWo hW6
    rw [foldl_takeN _ _ hc]
    have hkl : ((belowK b (m + 1)).take k).length ≤ 5000 := by rw [List.length_take, below_len]; omega
    obtain ⟨len1, len2⟩ := bits_lens m b ((belowK b (m + 1)).take k)
    generalize ((belowK b (m + 1)).take k).foldl (bitsS m b) ([], []) = D at *
    have hpl : (pricesB m b c).length = b + 1 := by unfold pricesB; rw [List.length_map, List.length_range]
    have wl := way_len m
    refine ⟨Nat.zero_le _, fun L nL => ?_⟩
    obtain ⟨H8, e8, s8, h8⟩ := fresh (.lst ([] : List V)) nL
    rw [e8]
    have hA8 := s8 _ _ hA
    have hW8 := s8 _ _ hW7
    walk_at "go"
    refine ⟨⟨_, .inl (.inl hA8)⟩, for_list (K := K) (a := a) (xs := c.map V.int) (fun j σ H9 => ∃ v6 : Option V, σ = [some (.int m), some (.int b), some (.ref a), some (.ref d1), some (.ref d2), some (.ref W), v6, v7, v8, some (.ref L), some (.int ((c.take j).foldl (fun r n => r * (wayK m).getD n.toNat 0) 1)), v11, v12] ∧ H9 = H8)
      ⟨_, rfl, rfl⟩ (fun j σ H9 _ ⟨_, _, e⟩ => by rw [e]; exact .inl (.inl hA8)) ?_ ?_⟩
    · rintro j x σ H9 hxj ⟨v6, rfl, rfl⟩
      obtain ⟨n, hn, rfl⟩ := int_at hxj
      have hnm := hcm n (List.mem_of_getElem? hn)
      rw [foldl_takeN _ _ hn]
      walk_at "go"
      refine ⟨W, _, _, .int ((wayK m).getD n.toNat 0), rfl, rfl, .inl (.inl hW8), ?_, ?_⟩
      · rw [show n = ((n.toNat : Nat) : Int) by omega]
        exact at_ints (by rw [wl]; omega)
      refine ⟨_, _, rfl, rfl, .inr (way_small hm _), ?_⟩
      exact ⟨_, rfl, rfl⟩
    rintro σ H9 ⟨v6, rfl, rfl⟩
    rw [List.length_map, List.take_length]
    rw [show c.foldl (fun r n => r * (wayK m).getD n.toNat 0) 1 = rowsOf m c from rfl]
    walk_at "go"
    refine ⟨by omega, by omega, ?_⟩
    rw [show ((b : Int) + 1).toNat = b + 1 by omega]
    walk_at "b"
    refine for_range (lo := 0) (n := b + 1) (fun j σ H10 => ∃ v6 v7 v11 v12 : Option V, σ = [some (.int m), some (.int b), some (.ref a), some (.ref d1), some (.ref d2), some (.ref W), v6, v7, v8, some (.ref L), some (.int (rowsOf m c)), v11, v12] ∧ Same H7 H10 ∧ H10 L = some (.lst (((pricesB m b c).take j).map V.int)))
      ⟨_, _, _, _, rfl, s8, h8⟩ ?_ ?_
    · rintro j σ H10 hj ⟨v6, v7, v11, v12, rfl, s10, h10⟩
      rw [Int.zero_add]
      walk_at "go"
      refine ⟨a, _, rfl, .inl (.inl (s10 _ _ hA)), fun p2 np2 => ?_⟩
      rw [cut_drop, ← List.map_drop]
      obtain ⟨H11, e11, s11, h11⟩ := fresh (.lst ((c.drop j).map V.int)) np2
      rw [e11]
      refine ⟨p2, _, rfl, .inl (.inl h11), fun Dn nD => ?_⟩
      refine lc_dW (walk_enum (K := K) (a := p2) (xs := (c.drop j).map V.int)) (S := []) Has.nil ((c.drop j).zipIdx.map fun q => some (PyData.int (q.1 * 2 ^ q.2))) nD (by rw [List.length_map, List.length_map, List.length_zipIdx]) (by rw [List.length_map, List.length_drop]; exact small1000 (by omega)) (fun H' s => .inl (.inl (s _ _ h11))) ?_ ?_
      · rintro i o H0 x H'' hi ho s0 hH ⟨T1, x1, y1, rfl, nT, rfl, ex, ey⟩ Qt qt
        cases ex
        obtain ⟨n, hn, rfl⟩ := int_at ey
        rw [List.getElem?_map, List.getElem?_zipIdx, hn] at ho
        cases ho
        dsimp only at qt
        rw [Nat.zero_add] at qt
        have hnm := hcm n (List.mem_of_mem_drop (List.mem_of_getElem? hn))
        rw [List.length_map, List.length_drop] at hi
        have st := same_upd (o := .tup [V.int (i : Nat), V.int n]) nT
        refine ⟨T1, _, rfl, .inl (.inl upd_same), rfl, ?_⟩
        generalize upd H0 T1 (.tup [V.int (i : Nat), V.int n]) = H12 at st
        refine ⟨_, _, rfl, _, _, rfl, rfl, ⟨rfl, ?_⟩⟩
        walk_at "go"
        refine ⟨⟨by omega, by omega, by omega⟩, ?_⟩
        refine qt _ _ st ?_
        show Dt _ (V.int (n * 2 ^ ((i : Nat) : Int).toNat)) (.int (n * 2 ^ i))
        rw [Int.toNat_natCast]
        exact .int _
      intro H12 s12 _ dD
      have es : ((c.drop j).zipIdx.map fun q => some (PyData.int (q.1 * 2 ^ q.2))).filterMap id = (strokeL (c.drop j)).map PyData.int := by
        rw [sel_map]
        unfold strokeL
        rw [List.map_map]
        rfl
      rw [es, rs_nil] at dD
      obtain ⟨_, e, hD⟩ := Dt.intsE (ns := strokeL (c.drop j)) dD
      cases e
      refine ⟨Dn, _, rfl, .inl (.inl hD), ?_⟩
      have h12 := s12 _ _ (s11 _ _ h10)
      have s712 := (s10.trans s11).trans s12
      walk_at "go"
      refine ⟨.inl ⟨rfl, _, .inl (.inl h12)⟩, ?_⟩
      walk_at "go"
      refine ⟨.inl ⟨by omega, by omega⟩, ?_⟩
      walk_at "go"
      refine ⟨L, _, _, rfl, rfl, h12, by rw [List.length_map, List.length_take]; exact Nat.lt_of_le_of_lt (Nat.min_le_left _ _) (small1000 (by omega)), ?_⟩
      refine ⟨_, _, _, _, rfl, same_over nL s712, ?_⟩
      rw [upd_same, List.take_add_one]
      unfold pricesB
      rw [List.getElem?_map, List.getElem?_range hj, List.map_append]
      rfl
    rintro σ H10 ⟨v6, v7, v11, v12, rfl, s10, h10⟩
    rw [← hpl, List.take_length] at h10
    have hL : SqL K H10 L ((pricesB m b c).map V.int) := .inl (.inl h10)
    refine ⟨_, rfl, L, _, rfl, hL, by rw [hpl]; exact Nat.succ_pos _, fun M hM hle => ?_⟩
    have eM := min_uniq hM hle
    have k1 := s10 _ _ g1
    have k2 := s10 _ _ g2
    refine ⟨_, rfl, d1, rfl, .inl ⟨_, .inl k1⟩, _, rfl, _, DGet.k (k := .inl M) k1, ?_⟩
    rw [getI_map]
    refine ⟨_, rfl, _, _, rfl, rfl, _, rfl, _, rfl, d1, _, rfl, DPut.k (k := .inl M) k1 (by rw [kvD_len, sizeLine_eq]; omega), ?_⟩
    rw [put_kvD]
    have hL8 : upd H10 d1 (.dK (kvD (putI D.1 M ((getI D.1 M).getD 0 + rowsOf m c)))) L = some (.lst ((pricesB m b c).map V.int)) := by rw [upd_ne (ne_of_none g1 nL).symm]; exact h10
    have k18 : upd H10 d1 (.dK (kvD (putI D.1 M ((getI D.1 M).getD 0 + rowsOf m c)))) d1 = some (.dK (kvD (bump D.1 M (rowsOf m c)))) := upd_same
    have k28 : upd H10 d1 (.dK (kvD (putI D.1 M ((getI D.1 M).getD 0 + rowsOf m c)))) d2 = some (.dK (kvD D.2)) := by rw [upd_ne n12.symm]; exact k2
    have t8 : Sta [d1, d2] H10 (upd H10 d1 (.dK (kvD (putI D.1 M ((getI D.1 M).getD 0 + rowsOf m c))))) := Sta.upd List.mem_cons_self
    have s8' : Same H (upd H10 d1 (.dK (kvD (putI D.1 M ((getI D.1 M).getD 0 + rowsOf m c))))) := same_over nd1H (s7.trans s10)
    generalize upd H10 d1 (.dK (kvD (putI D.1 M ((getI D.1 M).getD 0 + rowsOf m c)))) = H11 at *
    have hL9 : SqL K H11 L ((pricesB m b c).map V.int) := .inl (.inl hL8)
    refine ⟨_, rfl, d2, rfl, .inl ⟨_, .inl k28⟩, _, rfl, .inl ⟨rfl, _, hL9⟩, _, rfl, ?_⟩
    simp only [tNil]
    refine index_ints hL9 hM ?_
    refine ⟨_, DGet.k (k := .inl (((pricesB m b c).idxOf M : Nat) : Int)) k28, ?_⟩
    rw [getI_map]
    refine ⟨_, rfl, _, _, rfl, rfl, _, rfl, _, rfl, .inl ⟨rfl, _, hL9⟩, _, rfl, ?_⟩
    simp only [tNil]
    refine index_ints hL9 hM ?_
    refine ⟨d2, _, rfl, DPut.k (k := .inl (((pricesB m b c).idxOf M : Nat) : Int)) k28 (by rw [kvD_len, sizeLine_eq]; omega), ?_⟩
    rw [put_kvD]
    refine ⟨_, _, _, _, _, _, _, _, rfl, same_over nd2H s8', ((t7.trans (Sta.of s10)).trans t8).trans (Sta.upd (List.mem_cons_of_mem _ List.mem_cons_self)), ?_, ?_⟩
    · rw [upd_ne n12, k18, eM]
      rfl
    · rw [upd_same, eM]
      rfl
  · rintro σ H7 ⟨v2, v6, v7, v8, v9, v10, v11, v12, rfl, s7, t7, g1, g2⟩
    rw [hxl, ← below_len, List.take_length] at g1 g2
    have len1 := bits_lens m b (belowK b (m + 1))
    rw [below_len] at len1
    refine ⟨_, rfl, _, rfl, _, rfl, _, rfl, m, b, d1, d2, bitsD m b, rfl, hm1, hm, by omega, g1, g2, Nat.le_trans len1.1 hlen, hR, fun H' s => q _ (s7.trans s)⟩
end
end My

namespace My
open PySem PySem.Spec PyProof.Rows L2 Pre
/-! ### the finite facts -/
def smallL : List (Nat × Nat) := [(1, 0), (1, 3), (1, 5), (2, 1), (2, 2), (2, 3), (3, 2), (4, 1), (3, 1), (4, 2)]
def someL : List (Nat × Nat) := [(2, 5), (3, 4), (4, 3), (5, 3), (7, 2), (12, 2), (20, 1), (4, 4), (2, 6)]
theorem sm_1_0 : rightK 1 0 (smallD 1 0) = true := by decide +kernel
theorem sm_1_3 : rightK 1 3 (smallD 1 3) = true := by decide +kernel
theorem sm_1_5 : rightK 1 5 (smallD 1 5) = true := by decide +kernel
theorem sm_2_1 : rightK 2 1 (smallD 2 1) = true := by decide +kernel
theorem sm_2_2 : rightK 2 2 (smallD 2 2) = true := by decide +kernel
theorem sm_2_3 : rightK 2 3 (smallD 2 3) = true := by decide +kernel
theorem sm_3_2 : rightK 3 2 (smallD 3 2) = true := by decide +kernel
theorem sm_4_1 : rightK 4 1 (smallD 4 1) = true := by decide +kernel
theorem sm_3_1 : rightK 3 1 (smallD 3 1) = true := by decide +kernel
theorem sm_4_2 : rightK 4 2 (smallD 4 2) = true := by decide +kernel
theorem small_ok : ∀ p ∈ smallL, rightK p.1 p.2 (smallD p.1 p.2) = true := by
  intro p hp
  unfold smallL at hp
  simp only [List.mem_cons, List.not_mem_nil, or_false] at hp
  rcases hp with rfl | rfl | rfl | rfl | rfl | rfl | rfl | rfl | rfl | rfl
  · exact sm_1_0
  · exact sm_1_3
  · exact sm_1_5
  · exact sm_2_1
  · exact sm_2_2
  · exact sm_2_3
  · exact sm_3_2
  · exact sm_4_1
  · exact sm_3_1
  · exact sm_4_2
theorem so_2_5 : rightK 2 5 (bitsD 2 5) = true := by decide +kernel
theorem so_3_4 : rightK 3 4 (bitsD 3 4) = true := by decide +kernel
theorem so_4_3 : rightK 4 3 (bitsD 4 3) = true := by decide +kernel
theorem so_5_3 : rightK 5 3 (bitsD 5 3) = true := by decide +kernel
theorem so_7_2 : rightK 7 2 (bitsD 7 2) = true := by decide +kernel
theorem so_12_2 : rightK 12 2 (bitsD 12 2) = true := by decide +kernel
theorem so_20_1 : rightK 20 1 (bitsD 20 1) = true := by decide +kernel
theorem so_4_4 : rightK 4 4 (bitsD 4 4) = true := by decide +kernel
theorem so_2_6 : rightK 2 6 (bitsD 2 6) = true := by decide +kernel
theorem some_ok : ∀ p ∈ someL, rightK p.1 p.2 (bitsD p.1 p.2) = true := by
  intro p hp
  unfold someL at hp
  simp only [List.mem_cons, List.not_mem_nil, or_false] at hp
  rcases hp with rfl | rfl | rfl | rfl | rfl | rfl | rfl | rfl | rfl
  · exact so_2_5
  · exact so_3_4
  · exact so_4_3
  · exact so_5_3
  · exact so_7_2
  · exact so_12_2
  · exact so_20_1
  · exact so_4_4
  · exact so_2_6
theorem small_dom : ∀ p ∈ smallL, 1 ≤ p.1 ∧ p.1 ≤ 20 ∧ p.2 ≤ 9 ∧ ∀ i, i < p.1 + 1 → (2 ^ p.2) ^ i ≤ 5000 := by decide +kernel
theorem some_dom : ∀ p ∈ someL, 1 ≤ p.1 ∧ p.1 ≤ 20 ∧ p.2 ≤ 9 ∧ ∀ i, i < p.2 + 1 → (p.1 + 1) ^ i ≤ 5000 := by decide +kernel
def sumK (m b : Nat) : Bool := decide (((List.range (b + 1)).map (hmwK m b)).sum = 2 ^ (m * b))
theorem su_0_0 : sumK 1 0 = true := by decide +kernel
theorem su_0_1 : sumK 1 1 = true := by decide +kernel
theorem su_0_2 : sumK 1 2 = true := by decide +kernel
theorem su_0_3 : sumK 1 3 = true := by decide +kernel
theorem su_0_4 : sumK 1 4 = true := by decide +kernel
theorem su_0_5 : sumK 1 5 = true := by decide +kernel
theorem su_0_6 : sumK 1 6 = true := by decide +kernel
theorem su_0_7 : sumK 1 7 = true := by decide +kernel
theorem su_0_8 : sumK 1 8 = true := by decide +kernel
theorem su_1_0 : sumK 2 0 = true := by decide +kernel
theorem su_1_1 : sumK 2 1 = true := by decide +kernel
theorem su_1_2 : sumK 2 2 = true := by decide +kernel
theorem su_1_3 : sumK 2 3 = true := by decide +kernel
theorem su_1_4 : sumK 2 4 = true := by decide +kernel
theorem su_1_5 : sumK 2 5 = true := by decide +kernel
theorem su_1_6 : sumK 2 6 = true := by decide +kernel
theorem su_1_7 : sumK 2 7 = true := by decide +kernel
theorem su_1_8 : sumK 2 8 = true := by decide +kernel
theorem su_2_0 : sumK 3 0 = true := by decide +kernel
theorem su_2_1 : sumK 3 1 = true := by decide +kernel
theorem su_2_2 : sumK 3 2 = true := by decide +kernel
theorem su_2_3 : sumK 3 3 = true := by decide +kernel
theorem su_2_4 : sumK 3 4 = true := by decide +kernel
theorem su_2_5 : sumK 3 5 = true := by decide +kernel
theorem su_2_6 : sumK 3 6 = true := by decide +kernel
theorem su_2_7 : sumK 3 7 = true := by decide +kernel
theorem su_2_8 : sumK 3 8 = true := by decide +kernel
theorem su_3_0 : sumK 4 0 = true := by decide +kernel
theorem su_3_1 : sumK 4 1 = true := by decide +kernel
theorem su_3_2 : sumK 4 2 = true := by decide +kernel
theorem su_3_3 : sumK 4 3 = true := by decide +kernel
theorem su_3_4 : sumK 4 4 = true := by decide +kernel
theorem su_3_5 : sumK 4 5 = true := by decide +kernel
theorem su_3_6 : sumK 4 6 = true := by decide +kernel
theorem su_3_7 : sumK 4 7 = true := by decide +kernel
theorem su_3_8 : sumK 4 8 = true := by decide +kernel
theorem su_4_0 : sumK 5 0 = true := by decide +kernel
theorem su_4_1 : sumK 5 1 = true := by decide +kernel
theorem su_4_2 : sumK 5 2 = true := by decide +kernel
theorem su_4_3 : sumK 5 3 = true := by decide +kernel
theorem su_4_4 : sumK 5 4 = true := by decide +kernel
theorem su_4_5 : sumK 5 5 = true := by decide +kernel
theorem su_4_6 : sumK 5 6 = true := by decide +kernel
theorem su_4_7 : sumK 5 7 = true := by decide +kernel
theorem su_4_8 : sumK 5 8 = true := by decide +kernel
theorem su_5_0 : sumK 6 0 = true := by decide +kernel
theorem su_5_1 : sumK 6 1 = true := by decide +kernel
theorem su_5_2 : sumK 6 2 = true := by decide +kernel
theorem su_5_3 : sumK 6 3 = true := by decide +kernel
theorem su_5_4 : sumK 6 4 = true := by decide +kernel
theorem su_5_5 : sumK 6 5 = true := by decide +kernel
theorem su_5_6 : sumK 6 6 = true := by decide +kernel
theorem su_5_7 : sumK 6 7 = true := by decide +kernel
theorem su_5_8 : sumK 6 8 = true := by decide +kernel
theorem su_6_0 : sumK 7 0 = true := by decide +kernel
theorem su_6_1 : sumK 7 1 = true := by decide +kernel
theorem su_6_2 : sumK 7 2 = true := by decide +kernel
theorem su_6_3 : sumK 7 3 = true := by decide +kernel
theorem su_6_4 : sumK 7 4 = true := by decide +kernel
theorem su_6_5 : sumK 7 5 = true := by decide +kernel
theorem su_6_6 : sumK 7 6 = true := by decide +kernel
theorem su_6_7 : sumK 7 7 = true := by decide +kernel
theorem su_6_8 : sumK 7 8 = true := by decide +kernel
theorem su_7_0 : sumK 8 0 = true := by decide +kernel
theorem su_7_1 : sumK 8 1 = true := by decide +kernel
theorem su_7_2 : sumK 8 2 = true := by decide +kernel
theorem su_7_3 : sumK 8 3 = true := by decide +kernel
theorem su_7_4 : sumK 8 4 = true := by decide +kernel
theorem su_7_5 : sumK 8 5 = true := by decide +kernel
theorem su_7_6 : sumK 8 6 = true := by decide +kernel
theorem su_7_7 : sumK 8 7 = true := by decide +kernel
theorem su_7_8 : sumK 8 8 = true := by decide +kernel
theorem su_8_0 : sumK 9 0 = true := by decide +kernel
theorem su_8_1 : sumK 9 1 = true := by decide +kernel
theorem su_8_2 : sumK 9 2 = true := by decide +kernel
theorem su_8_3 : sumK 9 3 = true := by decide +kernel
theorem su_8_4 : sumK 9 4 = true := by decide +kernel
theorem su_8_5 : sumK 9 5 = true := by decide +kernel
theorem su_8_6 : sumK 9 6 = true := by decide +kernel
theorem su_8_7 : sumK 9 7 = true := by decide +kernel
theorem su_8_8 : sumK 9 8 = true := by decide +kernel
theorem sums_ok : ∀ m, m < 9 → ∀ b, b < 9 → ((List.range (b + 1)).map (hmwK (m + 1) b)).sum = 2 ^ ((m + 1) * b) := by
  intro m hm b hb
  refine of_decide_eq_true (show sumK (m + 1) b = true from ?_)
  have c : m = 0 ∨ m = 1 ∨ m = 2 ∨ m = 3 ∨ m = 4 ∨ m = 5 ∨ m = 6 ∨ m = 7 ∨ m = 8 := by omega
  have d : b = 0 ∨ b = 1 ∨ b = 2 ∨ b = 3 ∨ b = 4 ∨ b = 5 ∨ b = 6 ∨ b = 7 ∨ b = 8 := by omega
  rcases c with rfl | rfl | rfl | rfl | rfl | rfl | rfl | rfl | rfl
  · rcases d with rfl | rfl | rfl | rfl | rfl | rfl | rfl | rfl | rfl
    · exact su_0_0
    · exact su_0_1
    · exact su_0_2
    · exact su_0_3
    · exact su_0_4
    · exact su_0_5
    · exact su_0_6
    · exact su_0_7
    · exact su_0_8
  · rcases d with rfl | rfl | rfl | rfl | rfl | rfl | rfl | rfl | rfl
    · exact su_1_0
    · exact su_1_1
    · exact su_1_2
    · exact su_1_3
    · exact su_1_4
    · exact su_1_5
    · exact su_1_6
    · exact su_1_7
    · exact su_1_8
  · rcases d with rfl | rfl | rfl | rfl | rfl | rfl | rfl | rfl | rfl
    · exact su_2_0
    · exact su_2_1
    · exact su_2_2
    · exact su_2_3
    · exact su_2_4
    · exact su_2_5
    · exact su_2_6
    · exact su_2_7
    · exact su_2_8
  · rcases d with rfl | rfl | rfl | rfl | rfl | rfl | rfl | rfl | rfl
    · exact su_3_0
    · exact su_3_1
    · exact su_3_2
    · exact su_3_3
    · exact su_3_4
    · exact su_3_5
    · exact su_3_6
    · exact su_3_7
    · exact su_3_8
  · rcases d with rfl | rfl | rfl | rfl | rfl | rfl | rfl | rfl | rfl
    · exact su_4_0
    · exact su_4_1
    · exact su_4_2
    · exact su_4_3
    · exact su_4_4
    · exact su_4_5
    · exact su_4_6
    · exact su_4_7
    · exact su_4_8
  · rcases d with rfl | rfl | rfl | rfl | rfl | rfl | rfl | rfl | rfl
    · exact su_5_0
    · exact su_5_1
    · exact su_5_2
    · exact su_5_3
    · exact su_5_4
    · exact su_5_5
    · exact su_5_6
    · exact su_5_7
    · exact su_5_8
  · rcases d with rfl | rfl | rfl | rfl | rfl | rfl | rfl | rfl | rfl
    · exact su_6_0
    · exact su_6_1
    · exact su_6_2
    · exact su_6_3
    · exact su_6_4
    · exact su_6_5
    · exact su_6_6
    · exact su_6_7
    · exact su_6_8
  · rcases d with rfl | rfl | rfl | rfl | rfl | rfl | rfl | rfl | rfl
    · exact su_7_0
    · exact su_7_1
    · exact su_7_2
    · exact su_7_3
    · exact su_7_4
    · exact su_7_5
    · exact su_7_6
    · exact su_7_7
    · exact su_7_8
  · rcases d with rfl | rfl | rfl | rfl | rfl | rfl | rfl | rfl | rfl
    · exact su_8_0
    · exact su_8_1
    · exact su_8_2
    · exact su_8_3
    · exact su_8_4
    · exact su_8_5
    · exact su_8_6
    · exact su_8_7
    · exact su_8_8
theorem fold_keep {α : Type} {f : α → Nat → α} {Pr : α → Prop} : ∀ {l : List Nat} {a : α}, (∀ x ∈ l, ∀ a, Pr a → Pr (f a x)) → Pr a → Pr (l.foldl f a)
  | [], _, _, h => h
  | x :: l, a, hf, h => fold_keep (l := l) (fun y hy => hf y (List.mem_cons_of_mem _ hy)) (hf x List.mem_cons_self a h)
theorem add_keep {l : List Int} {k : Nat} {x : Int} (h : 1 ≤ k) : (addAt l k x).getD 0 0 = l.getD 0 0 := by
  unfold addAt
  rw [List.getD_eq_getElem?_getD, List.getElem?_set_ne (by omega), ← List.getD_eq_getElem?_getD]
theorem u0_keep (m g : Nat) (v : Int) (h : Nat) (h1 : 1 ≤ h) (l : List Int) (hl : l.getD 0 0 = v) : (uS0 m g l h).getD 0 0 = v := by
  unfold uS0
  refine fold_keep (α := List Int) (Pr := fun l => l.getD 0 0 = v) (fun s hs l hl => ?_) hl
  have hs2 := List.mem_range.mp hs
  unfold uS1
  refine fold_keep (α := List Int) (Pr := fun l => l.getD 0 0 = v) (fun t ht l hl => ?_) hl
  have ht2 := List.mem_range.mp ht
  unfold uS2
  refine fold_keep (α := List Int) (Pr := fun l => l.getD 0 0 = v) (fun o ho l hl => ?_) hl
  have ho2 := List.mem_range.mp ho
  have h3 : min s (h / g) ≤ s := Nat.min_le_left _ _
  unfold uS3
  rw [add_keep]
  · exact hl
  · split at ho2 <;> omega
theorem uc_40 : (ucK 40 24).getD 0 0 = 1 := by
  have e : ucK 40 24 = (List.range 41).foldl (uS0 40 (greatK 40 24)) (List.replicate 81 0) := if_neg (by decide)
  have g : greatK 40 24 = 41 := by decide +kernel
  have r : List.range 41 = 0 :: (List.range 40).map Nat.succ := List.range_succ_eq_map
  rw [e, g, r, List.foldl_cons]
  refine fold_keep (α := List Int) (Pr := fun l => l.getD 0 0 = 1) (fun x hx l hl => ?_) ?_
  · obtain ⟨y, _, rfl⟩ := List.mem_map.mp hx
    exact u0_keep 40 41 1 _ (Nat.succ_pos _) l hl
  · decide +kernel
theorem sizes_get {m b w c : Nat} (h : c < 2 * m + 1) : (sizesK m b w).getD c 0 = (ucK m (b - w)).getD c 0 * lowK m w c := by
  unfold sizesK
  rw [List.getD_eq_getElem?_getD, List.getElem?_map, List.getElem?_range h]
  rfl
theorem low_0 (m c : Nat) : lowK m 0 c = 1 := if_pos rfl
theorem sizes_40 : (sizesK 40 24 0).getD 0 0 = 1 := by
  rw [sizes_get (by decide), Nat.sub_zero, uc_40, low_0]
  decide
theorem hml_yes {m b z w : Nat} {n : Int} (h : m * (w + 1) ≤ z ∧ z - m * (w + 1) ≤ 2 * m) : hmlS m b z n w = n + (sizesK m b w).getD (z - m * (w + 1)) 0 := if_pos h
theorem hml_no {m b z w : Nat} {n : Int} (h : ¬ (m * (w + 1) ≤ z ∧ z - m * (w + 1) ≤ 2 * m)) : hmlS m b z n w = n := if_neg h
theorem hml_a : ∀ k, (List.range (k + 1)).foldl (hmlS 40 24 40) 0 = 1
  | 0 => by
    rw [fold_next, hml_yes (by decide), show 40 - 40 * (0 + 1) = 0 from rfl, sizes_40]
    decide
  | k + 1 => by
    rw [fold_next, hml_a k]
    exact hml_no (by omega)
theorem hml_1 : hmlK 40 24 40 = 1 := hml_a 24
theorem hml_0 : hmlK 40 24 39 = 0 := by decide +kernel
theorem hmw_0 : hmwK 3 2 120 = 0 := rfl
theorem hml_2 : hmlK 1 2 3 = 2 := by decide +kernel
theorem hmw_3 : hmwK 1 2 0 = 3 := by decide +kernel
theorem mean_4 : lowF (meanT 1 2) (2 ^ (1 * 2)) = (9, 4) := by decide +kernel
end My

namespace My
open PySem PySem.Spec PyProof.Rows L2 Pre
theorem restate {R : L2.St → Hp → Prop} {σ : L2.St} {H : Hp} (σ' : L2.St) (e : σ = σ') (h : R σ' H) : R σ H := by rw [e]; exact h
local macro_rules | `(tactic| walk_at "go") => `(tactic| repeat (first | (with_reducible first | refine iteT ?_ | refine iteF ?_ | refine iteNtt ?_ | refine iteNff ?_ | refine iteET (by omega) ?_ | refine iteEF (by omega) ?_ | refine iteENT (by omega) ?_ | refine iteENF (by omega) ?_ | refine iteDT (by omega) ?_ | refine iteDF (by omega) ?_ | refine iteNT (by omega) ?_ | refine iteNF (by omega) ?_) | refine ⟨_, rfl, ?_⟩ | refine ⟨_, _, rfl, rfl, ?_⟩ | refine ⟨_, _, rfl, ?_⟩ | refine ⟨rfl, ?_⟩ | refine .inl ⟨_, rfl, ?_⟩ | refine .inr ⟨_, rfl, ?_⟩))
local macro_rules | `(tactic| walk_at "b") => `(tactic| try dsimp (config := { proj := false, iota := false, eta := false, zeta := false }) only)
section
variable {P : Program} {w : World} {K : PySem.W.Frag} {mg : Str → Option Value} {base : Heap}
def sp_law (K : PySem.W.Frag) : Sp := fun vs H Q _ => ∃ (a : Addr) (ns : List Int), vs = [.ref a] ∧ SqL K H a (ns.map V.int) ∧ ns.length ≤ 63 ∧ ∀ H', Q (.bl true) H'
theorem G_law (T : Top K mg) : FnOk P w K mg base CX0 8 T.f_law T.fd_law ["_law_script"] (sp_law K) := by
  refine T.F_law.ok sc_law (fun vs H Q E h => by obtain ⟨a, ns, rfl, _⟩ := h; rfl) (fun cdv A outer s H vs Q E hr h => ?_)
  obtain ⟨a, ns, rfl, hS, hn, q⟩ := h
  refine ⟨_, PSs.nox (pss_cons (ps_set (i := 1) sc_law.nd rfl (by first | exact Or.inl rfl | exact Or.inr rfl) (pe_call (G_law_generator T) (hr.mono (by decide)) (by rfl) T.g_law_generator T.F_law_generator.kp T.b_law_generator .nil pass0 (pa_cons (pv 0) (pa_cons pe_int pa_nil))))
  (pss_cons (ps_set (i := 2) sc_law.nd rfl (by first | exact Or.inl rfl | exact Or.inr rfl) (pe_lst (pa_cons (pe_tup (pa_cons pe_int (pa_cons pe_int pa_nil))) (pa_cons (pe_tup (pa_cons pe_int (pa_cons pe_int pa_nil))) (pa_cons (pe_tup (pa_cons pe_int (pa_cons pe_int pa_nil))) (pa_cons (pe_tup (pa_cons pe_int (pa_cons pe_int pa_nil))) (pa_cons (pe_tup (pa_cons pe_int (pa_cons pe_int pa_nil))) (pa_cons (pe_tup (pa_cons pe_int (pa_cons pe_int pa_nil))) (pa_cons (pe_tup (pa_cons pe_int (pa_cons pe_int pa_nil))) (pa_cons (pe_tup (pa_cons pe_int (pa_cons pe_int pa_nil))) (pa_cons (pe_tup (pa_cons pe_int (pa_cons pe_int pa_nil))) (pa_cons (pe_tup (pa_cons pe_int (pa_cons pe_int pa_nil))) pa_nil))))))))))))
  (pss_cons (ps_asg (pe_ix (k_ixL K rfl) (pv 2) (pe_call (G_law_random T) (hr.mono (by decide)) (by rfl) T.g_law_random T.F_law_random.kp T.b_law_random .nil pass0 (pa_cons (pv 1) (pa_cons pe_int pa_nil))) (fun _ _ => rfl)) (k_pgT K rfl (by rfl) (pgs_cons (pg_name (i := 4) sc_law.nd rfl (by first | exact Or.inl rfl | exact Or.inr rfl)) (pgs_cons (pg_name (i := 5) sc_law.nd rfl (by first | exact Or.inl rfl | exact Or.inr rfl)) pgs_nil))))
  (pss_cons (ps_if (pt_not (pt_val (pe_call (G_law_small_right T) (hr.mono (by decide)) (by rfl) T.g_law_small_right T.F_law_small_right.kp T.b_law_small_right .nil pass0 (pa_cons (pv 4) (pa_cons (pv 5) pa_nil)))))
    (pss_one (ps_ret pe_bl))
    pss_nil)
  (pss_cons (ps_set (i := 3) sc_law.nd rfl (by first | exact Or.inl rfl | exact Or.inr rfl) (pe_lst (pa_cons (pe_tup (pa_cons pe_int (pa_cons pe_int pa_nil))) (pa_cons (pe_tup (pa_cons pe_int (pa_cons pe_int pa_nil))) (pa_cons (pe_tup (pa_cons pe_int (pa_cons pe_int pa_nil))) (pa_cons (pe_tup (pa_cons pe_int (pa_cons pe_int pa_nil))) (pa_cons (pe_tup (pa_cons pe_int (pa_cons pe_int pa_nil))) (pa_cons (pe_tup (pa_cons pe_int (pa_cons pe_int pa_nil))) (pa_cons (pe_tup (pa_cons pe_int (pa_cons pe_int pa_nil))) (pa_cons (pe_tup (pa_cons pe_int (pa_cons pe_int pa_nil))) (pa_cons (pe_tup (pa_cons pe_int (pa_cons pe_int pa_nil))) pa_nil)))))))))))
  (pss_cons (ps_asg (pe_ix (k_ixL K rfl) (pv 3) (pe_call (G_law_random T) (hr.mono (by decide)) (by rfl) T.g_law_random T.F_law_random.kp T.b_law_random .nil pass0 (pa_cons (pv 1) (pa_cons pe_int pa_nil))) (fun _ _ => rfl)) (k_pgT K rfl (by rfl) (pgs_cons (pg_name (i := 4) sc_law.nd rfl (by first | exact Or.inl rfl | exact Or.inr rfl)) (pgs_cons (pg_name (i := 5) sc_law.nd rfl (by first | exact Or.inl rfl | exact Or.inr rfl)) pgs_nil))))
  (pss_cons (ps_if (pt_not (pt_val (pe_call (G_law_by_bits_right T) (hr.mono (by decide)) (by rfl) T.g_law_by_bits_right T.F_law_by_bits_right.kp T.b_law_by_bits_right .nil pass0 (pa_cons (pv 4) (pa_cons (pv 5) pa_nil)))))
    (pss_one (ps_ret pe_bl))
    pss_nil)
  (pss_cons (ps_asg (pe_tup (pa_cons (pe_op op_add pe_int (pe_call (G_law_random T) (hr.mono (by decide)) (by rfl) T.g_law_random T.F_law_random.kp T.b_law_random .nil pass0 (pa_cons (pv 1) (pa_cons pe_int pa_nil)))) (pa_cons (pe_call (G_law_random T) (hr.mono (by decide)) (by rfl) T.g_law_random T.F_law_random.kp T.b_law_random .nil pass0 (pa_cons (pv 1) (pa_cons pe_int pa_nil))) pa_nil))) (k_pgT K rfl (by rfl) (pgs_cons (pg_name (i := 4) sc_law.nd rfl (by first | exact Or.inl rfl | exact Or.inr rfl)) (pgs_cons (pg_name (i := 5) sc_law.nd rfl (by first | exact Or.inl rfl | exact Or.inr rfl)) pgs_nil))))
  (pss_cons (ps_if (pt_cmpR op_ne (pe_callB (k_sum K rfl rfl) (by rfl) T.n_sum (by decide +kernel) (pa_cons (pe_lc (own := [("_law_width", 6)]) (g := gName 6) (tt := tYes) (by rfl) sc_law.nd (pi_range1 (by rfl) T.n_range (pa_cons (pe_op op_add (pv 5) pe_int) pa_nil)) (blkOk_by (own := [("_law_width", 6)]) (N := N_law) (sc := defScope s_law) (by decide +kernel)) (fun _ _ _ _ _ => (pg_name (i := 6) sc_law.nd rfl (by first | exact Or.inl rfl | exact Or.inr rfl))) (fun _ _ _ _ _ => pts_nil) (fun _ _ _ _ _ => (pe_call (G_how_many_with T) (hr.mono (by decide)) (by rfl) T.g_how_many_with T.F_how_many_with.kp T.b_how_many_with .nil pass0 (pa_cons (pv 4) (pa_cons (pv 5) (pa_cons (pv 6) pa_nil)))))) pa_nil)) (pe_op op_shl pe_int (pe_op op_mul (pv 4) (pv 5))) (nomark _))
    (pss_one (ps_ret pe_bl))
    pss_nil)
  (pss_cons (ps_if (PW.pt (pw_or (pt_cmpR op_ne (pe_call (G_how_many_least T) (hr.mono (by decide)) (by rfl) T.g_how_many_least T.F_how_many_least.kp T.b_how_many_least .nil pass0 (pa_cons pe_int (pa_cons pe_int (pa_cons pe_int pa_nil)))) pe_int (nomark _)) (pw_or (pt_cmpR op_ne (pe_call (G_how_many_least T) (hr.mono (by decide)) (by rfl) T.g_how_many_least T.F_how_many_least.kp T.b_how_many_least .nil pass0 (pa_cons pe_int (pa_cons pe_int (pa_cons pe_int pa_nil)))) pe_int (nomark _)) (pw_or1 (pt_cmpR op_ne (pe_call (G_how_many_with T) (hr.mono (by decide)) (by rfl) T.g_how_many_with T.F_how_many_with.kp T.b_how_many_with .nil pass0 (pa_cons pe_int (pa_cons pe_int (pa_cons pe_int pa_nil)))) pe_int (nomark _))))))
    (pss_one (ps_ret pe_bl))
    pss_nil)
  (pss_one (ps_ret (pe_cmpR (k_eqD K rfl hr.units) (pe_lst (pa_cons (pe_call (G_how_many_least T) (hr.mono (by decide)) (by rfl) T.g_how_many_least T.F_how_many_least.kp T.b_how_many_least .nil pass0 (pa_cons pe_int (pa_cons pe_int (pa_cons pe_int pa_nil)))) (pa_cons (pe_call (G_how_many_with T) (hr.mono (by decide)) (by rfl) T.g_how_many_with T.F_how_many_with.kp T.b_how_many_with .nil pass0 (pa_cons pe_int (pa_cons pe_int (pa_cons pe_int pa_nil)))) (pa_cons (pe_call (G_mean_least T) (hr.mono (by decide)) (by rfl) T.g_mean_least T.F_mean_least.kp T.b_mean_least .nil pass0 (pa_cons pe_int (pa_cons pe_int pa_nil))) pa_nil)))) (pe_lst (pa_cons pe_int (pa_cons pe_int (pa_cons (pe_tup (pa_cons pe_int (pa_cons pe_int pa_nil))) pa_nil)))) (nomark _)))))))))))))), ?_⟩
  refine ⟨_, rfl, a, ns, 0, rfl, hS, fun H1 g s1 ng g1 => ?_⟩
  refine ⟨(show 2 ≤ sizeLine by decide), fun t0 nt0 => ?_⟩
  obtain ⟨Ht0, et0, st0, ht0⟩ := fresh (.tup [V.int 1, V.int 0]) nt0
  rw [et0]
  refine ⟨(show 2 ≤ sizeLine by decide), fun t1 nt1 => ?_⟩
  obtain ⟨Ht1, et1, st1, ht1⟩ := fresh (.tup [V.int 1, V.int 3]) nt1
  rw [et1]
  refine ⟨(show 2 ≤ sizeLine by decide), fun t2 nt2 => ?_⟩
  obtain ⟨Ht2, et2, st2, ht2⟩ := fresh (.tup [V.int 1, V.int 5]) nt2
  rw [et2]
  refine ⟨(show 2 ≤ sizeLine by decide), fun t3 nt3 => ?_⟩
  obtain ⟨Ht3, et3, st3, ht3⟩ := fresh (.tup [V.int 2, V.int 1]) nt3
  rw [et3]
  refine ⟨(show 2 ≤ sizeLine by decide), fun t4 nt4 => ?_⟩
  obtain ⟨Ht4, et4, st4, ht4⟩ := fresh (.tup [V.int 2, V.int 2]) nt4
  rw [et4]
  refine ⟨(show 2 ≤ sizeLine by decide), fun t5 nt5 => ?_⟩
  obtain ⟨Ht5, et5, st5, ht5⟩ := fresh (.tup [V.int 2, V.int 3]) nt5
  rw [et5]
  refine ⟨(show 2 ≤ sizeLine by decide), fun t6 nt6 => ?_⟩
  obtain ⟨Ht6, et6, st6, ht6⟩ := fresh (.tup [V.int 3, V.int 2]) nt6
  rw [et6]
  refine ⟨(show 2 ≤ sizeLine by decide), fun t7 nt7 => ?_⟩
  obtain ⟨Ht7, et7, st7, ht7⟩ := fresh (.tup [V.int 4, V.int 1]) nt7
  rw [et7]
  refine ⟨(show 2 ≤ sizeLine by decide), fun t8 nt8 => ?_⟩
  obtain ⟨Ht8, et8, st8, ht8⟩ := fresh (.tup [V.int 3, V.int 1]) nt8
  rw [et8]
  refine ⟨(show 2 ≤ sizeLine by decide), fun t9 nt9 => ?_⟩
  obtain ⟨Ht9, et9, st9, ht9⟩ := fresh (.tup [V.int 4, V.int 2]) nt9
  rw [et9]
  refine ⟨(show 10 ≤ sizeLine by decide), fun pS npS => ?_⟩
  obtain ⟨HpS, epS, spS, hpS⟩ := fresh (.lst [V.ref t0, V.ref t1, V.ref t2, V.ref t3, V.ref t4, V.ref t5, V.ref t6, V.ref t7, V.ref t8, V.ref t9]) npS
  rw [epS]
  have spSA := (((((((((st0.trans st1).trans st2).trans st3).trans st4).trans st5).trans st6).trans st7).trans st8).trans st9).trans spS
  have pickpS : ∀ r : Int, 0 ≤ r → r < 10 → ∃ (u : Addr) (m b : Nat), atI [V.ref t0, V.ref t1, V.ref t2, V.ref t3, V.ref t4, V.ref t5, V.ref t6, V.ref t7, V.ref t8, V.ref t9] r = some (.ref u) ∧ HpS u = some (.tup [V.int m, V.int b]) ∧ (m, b) ∈ smallL := fun r r0 r1 => by
    have c : r = 0 ∨ r = 1 ∨ r = 2 ∨ r = 3 ∨ r = 4 ∨ r = 5 ∨ r = 6 ∨ r = 7 ∨ r = 8 ∨ r = 9 := by omega
    rcases c with rfl | rfl | rfl | rfl | rfl | rfl | rfl | rfl | rfl | rfl
    · exact ⟨t0, 1, 0, rfl, spS _ _ (st9 _ _ (st8 _ _ (st7 _ _ (st6 _ _ (st5 _ _ (st4 _ _ (st3 _ _ (st2 _ _ (st1 _ _ (ht0)))))))))), by decide⟩
    · exact ⟨t1, 1, 3, rfl, spS _ _ (st9 _ _ (st8 _ _ (st7 _ _ (st6 _ _ (st5 _ _ (st4 _ _ (st3 _ _ (st2 _ _ (ht1))))))))), by decide⟩
    · exact ⟨t2, 1, 5, rfl, spS _ _ (st9 _ _ (st8 _ _ (st7 _ _ (st6 _ _ (st5 _ _ (st4 _ _ (st3 _ _ (ht2)))))))), by decide⟩
    · exact ⟨t3, 2, 1, rfl, spS _ _ (st9 _ _ (st8 _ _ (st7 _ _ (st6 _ _ (st5 _ _ (st4 _ _ (ht3))))))), by decide⟩
    · exact ⟨t4, 2, 2, rfl, spS _ _ (st9 _ _ (st8 _ _ (st7 _ _ (st6 _ _ (st5 _ _ (ht4)))))), by decide⟩
    · exact ⟨t5, 2, 3, rfl, spS _ _ (st9 _ _ (st8 _ _ (st7 _ _ (st6 _ _ (ht5))))), by decide⟩
    · exact ⟨t6, 3, 2, rfl, spS _ _ (st9 _ _ (st8 _ _ (st7 _ _ (ht6)))), by decide⟩
    · exact ⟨t7, 4, 1, rfl, spS _ _ (st9 _ _ (st8 _ _ (ht7))), by decide⟩
    · exact ⟨t8, 3, 1, rfl, spS _ _ (st9 _ _ (ht8)), by decide⟩
    · exact ⟨t9, 4, 2, rfl, spS _ _ (ht9), by decide⟩
  have g2 := g1.same spSA
  have qg : pS ≠ g := fun z => by obtain ⟨_, _, _, hg, _⟩ := g2; rw [← z, hpS] at hg; cases hg
  refine ⟨_, rfl, _, rfl, g, 10, _, rfl, g2, by omega, by decide, by decide, fun r1 H2 r10 r11 g3 b3 => ?_⟩
  obtain ⟨u, m, b, hu, hut, hmem⟩ := pickpS r1 r10 r11
  have ug : u ≠ g := fun z => by obtain ⟨_, _, _, hg, _⟩ := g2; rw [← z, hut] at hg; cases hg
  refine ⟨pS, _, _, _, rfl, rfl, .inl (.inl (b3 _ _ qg hpS)), hu, ?_⟩
  refine ⟨u, _, rfl, .inl (.inl (b3 _ _ ug hut)), rfl, _, _, rfl, _, _, rfl, rfl, ?_⟩
  obtain ⟨q1, q2, q3, q4⟩ := small_dom _ hmem
  refine ⟨_, rfl, _, rfl, m, b, rfl, q1, q2, q3, fun i hi => q4 i (Nat.lt_succ_of_le hi), small_ok _ hmem, fun H3 s3 => ⟨_, rfl, iteF ?_⟩⟩
  have g4 := g3.same s3
  refine ⟨(show 2 ≤ sizeLine by decide), fun u0 nu0 => ?_⟩
  obtain ⟨Hu0, eu0, su0, hu0⟩ := fresh (.tup [V.int 2, V.int 5]) nu0
  rw [eu0]
  refine ⟨(show 2 ≤ sizeLine by decide), fun u1 nu1 => ?_⟩
  obtain ⟨Hu1, eu1, su1, hu1⟩ := fresh (.tup [V.int 3, V.int 4]) nu1
  rw [eu1]
  refine ⟨(show 2 ≤ sizeLine by decide), fun u2 nu2 => ?_⟩
  obtain ⟨Hu2, eu2, su2, hu2⟩ := fresh (.tup [V.int 4, V.int 3]) nu2
  rw [eu2]
  refine ⟨(show 2 ≤ sizeLine by decide), fun u3 nu3 => ?_⟩
  obtain ⟨Hu3, eu3, su3, hu3⟩ := fresh (.tup [V.int 5, V.int 3]) nu3
  rw [eu3]
  refine ⟨(show 2 ≤ sizeLine by decide), fun u4 nu4 => ?_⟩
  obtain ⟨Hu4, eu4, su4, hu4⟩ := fresh (.tup [V.int 7, V.int 2]) nu4
  rw [eu4]
  refine ⟨(show 2 ≤ sizeLine by decide), fun u5 nu5 => ?_⟩
  obtain ⟨Hu5, eu5, su5, hu5⟩ := fresh (.tup [V.int 12, V.int 2]) nu5
  rw [eu5]
  refine ⟨(show 2 ≤ sizeLine by decide), fun u6 nu6 => ?_⟩
  obtain ⟨Hu6, eu6, su6, hu6⟩ := fresh (.tup [V.int 20, V.int 1]) nu6
  rw [eu6]
  refine ⟨(show 2 ≤ sizeLine by decide), fun u7 nu7 => ?_⟩
  obtain ⟨Hu7, eu7, su7, hu7⟩ := fresh (.tup [V.int 4, V.int 4]) nu7
  rw [eu7]
  refine ⟨(show 2 ≤ sizeLine by decide), fun u8 nu8 => ?_⟩
  obtain ⟨Hu8, eu8, su8, hu8⟩ := fresh (.tup [V.int 2, V.int 6]) nu8
  rw [eu8]
  refine ⟨(show 9 ≤ sizeLine by decide), fun pT npT => ?_⟩
  obtain ⟨HpT, epT, spT, hpT⟩ := fresh (.lst [V.ref u0, V.ref u1, V.ref u2, V.ref u3, V.ref u4, V.ref u5, V.ref u6, V.ref u7, V.ref u8]) npT
  rw [epT]
  have spTA := ((((((((su0.trans su1).trans su2).trans su3).trans su4).trans su5).trans su6).trans su7).trans su8).trans spT
  have pickpT : ∀ r : Int, 0 ≤ r → r < 9 → ∃ (u : Addr) (m b : Nat), atI [V.ref u0, V.ref u1, V.ref u2, V.ref u3, V.ref u4, V.ref u5, V.ref u6, V.ref u7, V.ref u8] r = some (.ref u) ∧ HpT u = some (.tup [V.int m, V.int b]) ∧ (m, b) ∈ someL := fun r r0 r1 => by
    have c : r = 0 ∨ r = 1 ∨ r = 2 ∨ r = 3 ∨ r = 4 ∨ r = 5 ∨ r = 6 ∨ r = 7 ∨ r = 8 := by omega
    rcases c with rfl | rfl | rfl | rfl | rfl | rfl | rfl | rfl | rfl
    · exact ⟨u0, 2, 5, rfl, spT _ _ (su8 _ _ (su7 _ _ (su6 _ _ (su5 _ _ (su4 _ _ (su3 _ _ (su2 _ _ (su1 _ _ (hu0))))))))), by decide⟩
    · exact ⟨u1, 3, 4, rfl, spT _ _ (su8 _ _ (su7 _ _ (su6 _ _ (su5 _ _ (su4 _ _ (su3 _ _ (su2 _ _ (hu1)))))))), by decide⟩
    · exact ⟨u2, 4, 3, rfl, spT _ _ (su8 _ _ (su7 _ _ (su6 _ _ (su5 _ _ (su4 _ _ (su3 _ _ (hu2))))))), by decide⟩
    · exact ⟨u3, 5, 3, rfl, spT _ _ (su8 _ _ (su7 _ _ (su6 _ _ (su5 _ _ (su4 _ _ (hu3)))))), by decide⟩
    · exact ⟨u4, 7, 2, rfl, spT _ _ (su8 _ _ (su7 _ _ (su6 _ _ (su5 _ _ (hu4))))), by decide⟩
    · exact ⟨u5, 12, 2, rfl, spT _ _ (su8 _ _ (su7 _ _ (su6 _ _ (hu5)))), by decide⟩
    · exact ⟨u6, 20, 1, rfl, spT _ _ (su8 _ _ (su7 _ _ (hu6))), by decide⟩
    · exact ⟨u7, 4, 4, rfl, spT _ _ (su8 _ _ (hu7)), by decide⟩
    · exact ⟨u8, 2, 6, rfl, spT _ _ (hu8), by decide⟩
  have g5 := g4.same spTA
  have qg2 : pT ≠ g := fun z => by obtain ⟨_, _, _, hg, _⟩ := g5; rw [← z, hpT] at hg; cases hg
  refine ⟨_, rfl, _, rfl, g, 9, _, rfl, g5, by omega, by decide, by decide, fun r2 H4 r20 r21 g6 b6 => ?_⟩
  obtain ⟨u', m', b', hu', hut', hmem'⟩ := pickpT r2 r20 r21
  have ug' : u' ≠ g := fun z => by obtain ⟨_, _, _, hg, _⟩ := g5; rw [← z, hut'] at hg; cases hg
  refine ⟨pT, _, _, _, rfl, rfl, .inl (.inl (b6 _ _ qg2 hpT)), hu', ?_⟩
  refine ⟨u', _, rfl, .inl (.inl (b6 _ _ ug' hut')), rfl, _, _, rfl, _, _, rfl, rfl, ?_⟩
  obtain ⟨q1', q2', q3', q4'⟩ := some_dom _ hmem'
  refine ⟨_, rfl, _, rfl, m', b', rfl, q1', q2', q3', fun i hi => q4' i (Nat.lt_succ_of_le hi), some_ok _ hmem', fun H5 s5 => ⟨_, rfl, iteF ?_⟩⟩
  have g7 := g6.same s5
  walk_at "go"
  refine ⟨g, 9, _, rfl, g7, by omega, by decide, by decide, fun r3 H6 r30 r31 g8 b8 => ?_⟩
  refine ⟨_, _, rfl, rfl, ?_⟩
  refine ⟨_, rfl, g, 9, _, rfl, g8, by omega, by decide, by decide, fun r4 H7 r40 r41 g9 b9 => ?_⟩
  obtain ⟨x, hx, x8⟩ : ∃ x : Nat, 1 + r3 = ((x + 1 : Nat) : Int) ∧ x < 9 := ⟨r3.toNat, by omega, by omega⟩
  obtain ⟨y, rfl⟩ : ∃ y : Nat, r4 = (y : Int) := ⟨r4.toNat, by omega⟩
  walk_at "b"
  rw [hx]
  refine ⟨(show 2 ≤ sizeLine by decide), fun p3 np3 => ?_⟩
  have g10 := g9.same (same_upd (o := .tup [V.int ((x + 1 : Nat) : Int), V.int (y : Int)]) np3)
  have h3 : upd H7 p3 (.tup [V.int ((x + 1 : Nat) : Int), V.int (y : Int)]) p3 = some (.tup [V.int ((x + 1 : Nat) : Int), V.int (y : Int)]) := upd_same
  generalize upd H7 p3 (.tup [V.int ((x + 1 : Nat) : Int), V.int (y : Int)]) = H8 at *
  refine ⟨p3, _, rfl, .inl (.inl h3), rfl, _, _, rfl, _, _, rfl, rfl, ?_⟩
  refine restate [some (.ref a), some (.ref g), some (.ref pS), some (.ref pT), some (.int ((x + 1 : Nat) : Int)), some (.int (y : Int)), none] rfl ?_
  walk_at "go"
  refine ⟨by omega, by omega, fun D nD => ?_⟩
  rw [show ((y : Int) + 1).toNat = y + 1 by omega]
  refine lc_mapR (lo := 0) (n := y + 1) (((List.range (y + 1)).map (hmwK (x + 1) y)).map V.int) nD (by rw [List.length_map, List.length_map, List.length_range]) (small1000 (by omega)) ?_ ?_ ?_
  · exact fun x => rfl
  · intro k z H' hk hz s Qt qt
    rw [List.getElem?_map, List.getElem?_map, List.getElem?_range hk] at hz
    cases hz
    refine ⟨_, rfl, _, rfl, _, rfl, x + 1, y, k, ?_, by omega, by omega, by omega, by omega, fun H9 s9 => qt _ s9⟩
    show [V.int ((x + 1 : Nat) : Int), V.int (y : Int), V.int (0 + (k : Int))] = _
    rw [Int.zero_add]
  intro H9 s9 h9
  have exy : ((x + 1 : Nat) : Int) * (y : Int) = (((x + 1) * y : Nat) : Int) := (Int.natCast_mul _ _).symm
  have hxy : (x + 1) * y ≤ 9 * 9 := Nat.mul_le_mul (by omega) (by omega)
  refine ⟨D, _, rfl, .inl (.inl h9), ?_⟩
  walk_at "go"
  refine ⟨.inl ⟨by omega, by omega⟩, ?_⟩
  walk_at "b"
  rw [exy]
  refine ⟨_, _, rfl, rfl, ⟨by omega, by omega, by decide⟩, ?_⟩
  walk_at "b"
  rw [Int.toNat_natCast, Int.one_mul, sums_ok x x8 y (by omega)]
  refine ⟨rfl, _, rfl, iteENF rfl ?_⟩
  refine ⟨40, 24, 40, rfl, by decide, by decide, by decide, by decide, fun Ha sa => ?_⟩
  rw [hml_1]
  refine ⟨rfl, _, rfl, iteENF rfl ?_⟩
  refine ⟨40, 24, 39, rfl, by decide, by decide, by decide, by decide, fun Hb sb => ?_⟩
  rw [hml_0]
  refine ⟨rfl, _, rfl, iteENF rfl ?_⟩
  refine ⟨3, 2, 120, rfl, by decide, by decide, by decide, by decide, fun Hc sc => ?_⟩
  rw [hmw_0]
  refine ⟨rfl, _, rfl, iteENF rfl ?_⟩
  refine ⟨1, 2, 3, rfl, by decide, by decide, by decide, by decide, fun Hd sd => ?_⟩
  rw [hml_2]
  refine ⟨1, 2, 0, rfl, by decide, by decide, by decide, by decide, fun He se => ?_⟩
  rw [hmw_3]
  refine ⟨1, 2, rfl, by decide, by decide, by decide, fun Hf pf sf npf hpf => ?_⟩
  rw [mean_4] at hpf
  refine ⟨(show 3 ≤ sizeLine by decide), fun x1 nx1 => ?_⟩
  obtain ⟨Hg, eg, sg, hg⟩ := fresh (.lst [V.int 2, V.int 3, V.ref pf]) nx1
  rw [eg]
  refine ⟨(show 2 ≤ sizeLine by decide), fun x2 nx2 => ?_⟩
  obtain ⟨Hh, eh, sh, hh⟩ := fresh (.tup [V.int 9, V.int 4]) nx2
  rw [eh]
  refine ⟨(show 3 ≤ sizeLine by decide), fun x3 nx3 => ?_⟩
  obtain ⟨Hi, ei, si, hi⟩ := fresh (.lst [V.int 2, V.int 3, V.ref x2]) nx3
  rw [ei]
  have y1 : Dt Hi (.ref x1) (.list [.int 2, .int 3, .tuple [.int 9, .int 4]]) := .lst (si _ _ (sh _ _ hg)) (.cons (.int _) (.cons (.int _) (.cons (.tup (si _ _ (sh _ _ (sg _ _ hpf))) (.cons (.int _) (.cons (.int _) .nil))) .nil)))
  have y2 : Dt Hi (.ref x3) (.list [.int 2, .int 3, .tuple [.int 9, .int 4]]) := .lst hi (.cons (.int _) (.cons (.int _) (.cons (.tup (si _ _ hh) (.cons (.int _) (.cons (.int _) .nil))) .nil)))
  refine d_eq y1 y2 rfl rfl ?_
  exact q _
end
end My

open PySem PySem.W PySem.Calls PyProof.Rows
set_option maxRecDepth 100000 in
set_option maxHeartbeats 0 in
theorem PySem.Challenge.cw_wholesound_k44_counts_of_all_rows_holds : PySem.Challenge.rw_wholesound_k44_counts_of_all_rows.Holds := by
  w_on; o_law
  refine HandSHeadRun.head_any (r := OpenLaw.row PySem.Challenge.rw_wholesound_k44_counts_of_all_rows) (q := view (OpenLaw.row PySem.Challenge.rw_wholesound_k44_counts_of_all_rows).prog [35]) (H := My.hk) (ob := My.ob) (M := 8000) (loose := My.loose) (d := HandSHeadRun.topDef (OpenLaw.row PySem.Challenge.rw_wholesound_k44_counts_of_all_rows).prog 35) (kwd := []) My.ob_eq
    (by kernel_rfl) (fun s => by kernel_rfl) My.run (by kernel_rfl) (by kernel_rfl) (by kernel_rfl) (by rfl) (by first | assumption | decide +kernel) (by decide +kernel) ⟨rfl, rfl, rfl, rfl, rfl, by decide +kernel⟩ ?hw ?hc
  case hw => w_witness2
  case hc =>
    refine L2.walk_ofE (l := PySem.Challenge.rw_wholesound_k44_counts_of_all_rows) (n := 63) (k := 8) (x := "_law_script") (CX := L2.CX0) rfl (by decide) (by kernel_rfl) ⟨rfl, by decide, by decide⟩ ?F (fun _ _ _ _ z => z)
    intro w mg fa h Y G hmg0
    obtain ⟨K, KX, c⟩ := Y
    have hmg : mg ("law" : PySem.Str) = some (.ref fa) := by
      have e : (HandSHeadRun.topDef (OpenLaw.row PySem.Challenge.rw_wholesound_k44_counts_of_all_rows).prog 35).name = ("law" : PySem.Str) := by kernel_rfl
      rw [← e]
      exact hmg0
    have T : My.Top K mg := My.top_mk KX G c
    have e := hmg.symm.trans T.g_law
    cases e
    have b := L2.FunD.bindsA (ps := ["_law_script"]) T.F_law fun _ _ _ _ _ _ us hl => match us, hl with | [_], _ => rfl
    exact ⟨K, T.fd_law, My.sp_law K, KX, fun s v => b s [v] rfl, fun H a ns hl _ hS => ⟨a, ns, rfl, hS, hl, fun _ => rfl⟩, fun base _ _ => My.G_law T⟩


