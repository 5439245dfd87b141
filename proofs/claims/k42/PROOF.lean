import PyProof.Rows.All
import Wide.All
import OpenK.AllK
import Wide.FinOn
import KE.KStateDown
import Lean
import HandS.ForMost
import HandS.Exc
import HandS.Flow
import HandS.DictComp
import HandS.Style
import HandS.Wide
import HandS.WideBits
import HandS.IsInst
import HandS.Codes
import HandS.Walk
import HandS.Words
import HandS.WordsExc
import HandS.Defaults
import HandS.Head0
import HandS.Head1
import HandS.Head2
import HandS.HeadEnd
import HandS.HeadHook1
import HandS.HeadHook2
import HandS.SortInts
import PyProof.Rows.SortShellAny
import PyProof.InstNe
import KE.DataMinMax
import KE.SortData
import KE.IntBitsLaws
import KE.BitLaws
import HandS.Deep
import HandS.SetKeys
import PyProof.Rows.StrMul
import HandS.TupLe
import HandS.Property
import HandS.Conv
import HandS.NoneIn
import HandS.SetFor
import HandS.Strs
import HandS.Sort
import PySem.Challenge.RW_wholesound_k42_widths_by_number_and_sum
set_option Elab.async false
set_option linter.all false
set_option maxRecDepth 100000
set_option maxHeartbeats 4000000
set_option exponentiation.threshold 100000
namespace Pre
open PySem PySem.Spec PyProof.Rows L2
/-! ### heaps -/
theorem same_upd {H : Hp} {p : Addr} {o : HO} (h : H p = none) : Same H (upd H p o) := fun b x e => by
  rw [upd_ne (ne_of_none e h)]
  exact e
/-- a fresh thing that is then changed is no change of what was -/
theorem same_over {H H' : Hp} {p : Addr} {o : HO} (n : H p = none) (s : Same H H') : Same H (upd H' p o) := fun b x e => by
  rw [upd_ne (ne_of_none e n)]
  exact s b x e
theorem Same.tup {K : PySem.W.Frag} {H H' : Hp} {a : Addr} {xs : List V} (e : Same H H') (h : SqT K H a xs) : SqT K H' a xs := by
  rcases h with (h | ⟨o, h⟩) | h
  · exact .inl (.inl (e _ _ h))
  · exact .inl (.inr ⟨o, e _ _ h⟩)
  · exact .inr h
mutual
theorem dp_same {K : PySem.W.Frag} {H H' : Hp} (s : Same H H') : ∀ (d : PyData) (v : V), Dp K H v d → Dp K H' v d
  | .none, _, h => by cases h; exact .non
  | .bool _, _, h => by cases h; exact .bl _
  | .int _, _, h => by cases h; exact .int _
  | .str _, _, h => by cases h; exact .str _
  | .list ds, _, h => by cases h with | lst a b => exact .lst (s.seq a) (dps_same s ds _ b)
  | .tuple ds, _, h => by cases h with | tup a b => exact .tup (Same.tup s a) (dps_same s ds _ b)
  | .dict _, _, h => nomatch h
theorem dps_same {K : PySem.W.Frag} {H H' : Hp} (s : Same H H') : ∀ (ds : List PyData) (vs : List V), DpAll K H vs ds → DpAll K H' vs ds
  | [], _, h => by cases h; exact .nil
  | d :: ds, _, h => by cases h with | cons a b => exact .cons (dp_same s d _ a) (dps_same s ds _ b)
end
theorem dp_ints {K : PySem.W.Frag} {H : Hp} : ∀ ns : List Int, DpAll K H (ns.map V.int) (ns.map PyData.int)
  | [] => .nil
  | n :: r => .cons (.int n) (dp_ints r)
theorem eqv_ints : ∀ ns ms : List Int, PyData.eqvAll (ns.map PyData.int) (ms.map PyData.int) = decide (ns = ms)
  | [], [] => rfl
  | [], _ :: _ => rfl
  | _ :: _, [] => rfl
  | n :: r, m :: q => by
    show (PyData.eqv (.int n) (.int m) && PyData.eqvAll (r.map PyData.int) (q.map PyData.int)) = decide (n :: r = m :: q)
    rw [eqv_ints r q]
    show ((n == m) && decide (r = q)) = decide (n :: r = m :: q)
    by_cases h : n = m
    · subst h; simp
    · simp [h]
theorem lay_ints : ∀ ns : List Int, PyData.canLayAll0 (ns.map PyData.int) = true
  | [] => rfl
  | n :: r => by
    show (PyData.canLay0 (.int n) && PyData.canLayAll0 (r.map PyData.int)) = true
    rw [lay_ints r]
    rfl
theorem depth_ints : ∀ ns : List Int, PyData.depthAll (ns.map PyData.int) = 0
  | [] => by simp [PyData.depthAll]
  | n :: r => by
    show PyData.depthAll (.int n :: r.map PyData.int) = 0
    rw [PyData.depthAll, depth_ints r]
    simp [PyData.depth]
theorem shaped_ints (ns : List Int) : SeqAt.shaped (.list (ns.map PyData.int)) = true := by
  unfold SeqAt.shaped
  rw [PyData.canLay0, lay_ints, PyData.depth, depth_ints]
  rfl
theorem shaped_tup (ns : List Int) : SeqAt.shaped (.tuple (ns.map PyData.int)) = true := by
  unfold SeqAt.shaped
  rw [PyData.canLay0, lay_ints, PyData.depth, depth_ints]
  rfl
/-! ### comparisons of lists and tuples of whole numbers that are told alike -/
theorem ne_tup {K : PySem.W.Frag} {H : Hp} {a b : Addr} {ns : List Int} {Q : V → Hp → Prop} (ha : SqT K H a (ns.map V.int)) (hb : SqT K H b (ns.map V.int)) (q : Q (.bl false) H) : rNeD K (.ref a) (.ref b) H Q := by
  refine ⟨.tuple (ns.map PyData.int), .tuple (ns.map PyData.int), .tup ha (dp_ints ns), .tup hb (dp_ints ns), shaped_tup ns, shaped_tup ns, ?_⟩
  rw [PyData.eqv, eqv_ints, decide_eq_true rfl]
  exact q
theorem eq_tup {K : PySem.W.Frag} {H : Hp} {a b : Addr} {ns : List Int} {Q : V → Hp → Prop} (ha : SqT K H a (ns.map V.int)) (hb : SqT K H b (ns.map V.int)) (q : Q (.bl true) H) : rEqD K (.ref a) (.ref b) H Q := by
  refine ⟨.tuple (ns.map PyData.int), .tuple (ns.map PyData.int), .tup ha (dp_ints ns), .tup hb (dp_ints ns), shaped_tup ns, shaped_tup ns, ?_⟩
  rw [PyData.eqv, eqv_ints, decide_eq_true rfl]
  exact q
/-- lists of whole numbers, compared -/
theorem eqD_lst {K : PySem.W.Frag} {H : Hp} {a b : Addr} {ns ms : List Int} {Q : V → Hp → Prop} (ha : SqL K H a (ns.map V.int)) (hb : SqL K H b (ms.map V.int)) (q : Q (.bl (decide (ns = ms))) H) : rEqD K (.ref a) (.ref b) H Q := by
  refine ⟨.list (ns.map PyData.int), .list (ms.map PyData.int), .lst ha (dp_ints ns), .lst hb (dp_ints ms), shaped_ints ns, shaped_ints ms, ?_⟩
  rw [PyData.eqv, eqv_ints]
  exact q
theorem neD_lst {K : PySem.W.Frag} {H : Hp} {a b : Addr} {ns ms : List Int} {Q : V → Hp → Prop} (ha : SqL K H a (ns.map V.int)) (hb : SqL K H b (ms.map V.int)) (q : Q (.bl (!decide (ns = ms))) H) : rNeD K (.ref a) (.ref b) H Q := by
  refine ⟨.list (ns.map PyData.int), .list (ms.map PyData.int), .lst ha (dp_ints ns), .lst hb (dp_ints ms), shaped_ints ns, shaped_ints ms, ?_⟩
  rw [PyData.eqv, eqv_ints]
  exact q
theorem ne_lst {K : PySem.W.Frag} {H : Hp} {a b : Addr} {ns : List Int} {Q : V → Hp → Prop} (ha : SqL K H a (ns.map V.int)) (hb : SqL K H b (ns.map V.int)) (q : Q (.bl false) H) : rNeD K (.ref a) (.ref b) H Q :=
  neD_lst ha hb (by rw [decide_eq_true rfl]; exact q)
theorem eq_lst {K : PySem.W.Frag} {H : Hp} {a b : Addr} {ns : List Int} {Q : V → Hp → Prop} (ha : SqL K H a (ns.map V.int)) (hb : SqL K H b (ns.map V.int)) (q : Q (.bl true) H) : rEqD K (.ref a) (.ref b) H Q :=
  eqD_lst ha hb (by rw [decide_eq_true rfl]; exact q)
/-! ### powers -/
def CPowW (i j : Int) : Prop := 0 ≤ j ∧ (Builtin.Int.intBits i : Int) * j ≤ 2 ^ 27
theorem op_powW {X : Cx} : OpR X (binaryOp .Pow) (rI CPowW fun i j => .int (i ^ j.toNat)) := opI fun _ _ _ _ _ _ _ hc q => pow_int hc.1 hc.2 q
/-! ### comprehensions whose parts leave what is tracked as it is: sel tells of each item what comes of it -/
theorem take_fm {α : Type} {l : List (Option α)} {i : Nat} {o : Option α} (h : l[i]? = some o) : (l.take (i + 1)).filterMap id = (l.take i).filterMap id ++ o.toList := by
  rw [List.take_add_one, h, List.filterMap_append]
  cases o <;> rfl
theorem fm_len {α : Type} (l : List (Option α)) (i : Nat) : ((l.take i).filterMap id).length ≤ l.length :=
  Nat.le_trans (List.length_filterMap_le _ _) (by rw [List.length_take]; omega)
theorem lc_selL {K : PySem.W.Frag} {a : Addr} {xs : List V} {j : Nat} {tt : TT} {te : TE} {vs : List Nat} {σ : L2.St} {H1 : Hp} {D : Addr} {Qd : Hp → Prop} (sel : List (Option V)) (nD : H1 D = none) (hS : SqL K H1 a xs) (hlen : sel.length = xs.length) (hz : xs.length < sizeLine)
    (hw : ∀ x, wipe ((wipe σ vs).set j (some x)) vs = wipe σ vs)
    (hs : ∀ (i : Nat) (x : V) (o : Option V) (H' : Hp), xs[i]? = some x → sel[i]? = some o → Same H1 H' → ∀ Qt : Option V → Hp → Prop, (∀ H'', Same H' H'' → Qt o H'') →
      tt ((wipe σ vs).set j (some x)) H' fun b H3 => if b = true then te ((wipe σ vs).set j (some x)) H3 fun y H4 => Qt (some y) H4 else Qt none H3)
    (hd : ∀ H', Same H1 H' → H' D = some (.lst (sel.filterMap id)) → Qd H') :
    ∃ W : Nat → Nat → Hp → Prop, (∃ m, W 0 m (upd H1 D (.lst []))) ∧ ∀ i m H, W i m H →
      ((Itl K a).stop i H ∧ Qd H) ∨ ((Itl K a).go i H ∧ ∃ Nx : Hp → Prop, (∀ H', Nx H' → ∃ m', m' < m ∧ W (i + 1) m' H') ∧ ∀ x H', (Itl K a).yld i H x H' → gName j x (wipe σ vs) H' fun σ2 H2 => wipe σ2 vs = wipe σ vs ∧ tt σ2 H2 fun b H3 =>
        if b = true then te σ2 H3 fun y H4 => ∃ acc, H4 D = some (.lst acc) ∧ acc.length < sizeLine ∧ Nx (upd H4 D (.lst (acc ++ [y]))) else Nx H3) := by
  refine lc_list (K := K) (a := a) (xs := xs) (fun i H => Same H1 H ∧ H D = some (.lst ((sel.take i).filterMap id))) ⟨same_upd nD, upd_same⟩ (fun i H _ p => p.1.seq hS) ?_ ?_
  · rintro i x H hx ⟨s, hD⟩
    refine ⟨hw x, ?_⟩
    have hi : i < sel.length := by rw [hlen]; exact (List.getElem?_eq_some_iff.mp hx).1
    have ho : sel[i]? = some sel[i] := List.getElem?_eq_getElem hi
    have hl : ((sel.take i).filterMap id).length < sizeLine := Nat.lt_of_le_of_lt (fm_len sel i) (by omega)
    refine hs i x sel[i] H hx ho s (fun o H4 => match o with
      | some y => ∃ acc, H4 D = some (.lst acc) ∧ acc.length < sizeLine ∧ (Same H1 (upd H4 D (.lst (acc ++ [y]))) ∧ (upd H4 D (.lst (acc ++ [y]))) D = some (.lst ((sel.take (i + 1)).filterMap id)))
      | none => Same H1 H4 ∧ H4 D = some (.lst ((sel.take (i + 1)).filterMap id))) fun H4 s4 => ?_
    generalize sel[i] = o at ho ⊢
    cases o with
    | some y =>
      refine ⟨_, s4 _ _ hD, hl, same_over nD (s.trans s4), ?_⟩
      rw [upd_same, take_fm ho]
      rfl
    | none =>
      refine ⟨s.trans s4, ?_⟩
      rw [take_fm ho, s4 _ _ hD]
      simp
  · rintro H ⟨s, hD⟩
    refine hd H s ?_
    rw [hD, ← hlen, List.take_length]
theorem lc_selR {lo : Int} {n : Nat} {j : Nat} {tt : TT} {te : TE} {vs : List Nat} {σ : L2.St} {H1 : Hp} {D : Addr} {Qd : Hp → Prop} (sel : List (Option V)) (nD : H1 D = none) (hlen : sel.length = n) (hz : n < sizeLine)
    (hw : ∀ x, wipe ((wipe σ vs).set j (some x)) vs = wipe σ vs)
    (hs : ∀ (i : Nat) (o : Option V) (H' : Hp), i < n → sel[i]? = some o → Same H1 H' → ∀ Qt : Option V → Hp → Prop, (∀ H'', Same H' H'' → Qt o H'') →
      tt ((wipe σ vs).set j (some (.int (lo + (i : Int))))) H' fun b H3 => if b = true then te ((wipe σ vs).set j (some (.int (lo + (i : Int))))) H3 fun y H4 => Qt (some y) H4 else Qt none H3)
    (hd : ∀ H', Same H1 H' → H' D = some (.lst (sel.filterMap id)) → Qd H') :
    ∃ W : Nat → Nat → Hp → Prop, (∃ m, W 0 m (upd H1 D (.lst []))) ∧ ∀ i m H, W i m H →
      ((Itr lo n).stop i H ∧ Qd H) ∨ ((Itr lo n).go i H ∧ ∃ Nx : Hp → Prop, (∀ H', Nx H' → ∃ m', m' < m ∧ W (i + 1) m' H') ∧ ∀ x H', (Itr lo n).yld i H x H' → gName j x (wipe σ vs) H' fun σ2 H2 => wipe σ2 vs = wipe σ vs ∧ tt σ2 H2 fun b H3 =>
        if b = true then te σ2 H3 fun y H4 => ∃ acc, H4 D = some (.lst acc) ∧ acc.length < sizeLine ∧ Nx (upd H4 D (.lst (acc ++ [y]))) else Nx H3) := by
  refine lc_range (lo := lo) (n := n) (fun i H => Same H1 H ∧ H D = some (.lst ((sel.take i).filterMap id))) ⟨same_upd nD, upd_same⟩ ?_ ?_
  · rintro i H hi' ⟨s, hD⟩
    refine ⟨hw _, ?_⟩
    have hi : i < sel.length := by rw [hlen]; exact hi'
    have ho : sel[i]? = some sel[i] := List.getElem?_eq_getElem hi
    have hl : ((sel.take i).filterMap id).length < sizeLine := Nat.lt_of_le_of_lt (fm_len sel i) (by omega)
    refine hs i sel[i] H hi' ho s (fun o H4 => match o with
      | some y => ∃ acc, H4 D = some (.lst acc) ∧ acc.length < sizeLine ∧ (Same H1 (upd H4 D (.lst (acc ++ [y]))) ∧ (upd H4 D (.lst (acc ++ [y]))) D = some (.lst ((sel.take (i + 1)).filterMap id)))
      | none => Same H1 H4 ∧ H4 D = some (.lst ((sel.take (i + 1)).filterMap id))) fun H4 s4 => ?_
    generalize sel[i] = o at ho ⊢
    cases o with
    | some y =>
      refine ⟨_, s4 _ _ hD, hl, same_over nD (s.trans s4), ?_⟩
      rw [upd_same, take_fm ho]
      rfl
    | none =>
      refine ⟨s.trans s4, ?_⟩
      rw [take_fm ho, s4 _ _ hD]
      simp
  · rintro H ⟨s, hD⟩
    refine hd H s ?_
    rw [hD, ← hlen, List.take_length]
theorem fm_some {α : Type} (ys : List α) : (ys.map some).filterMap id = ys := by
  rw [List.filterMap_map]
  show List.filterMap (fun y => some y) ys = ys
  exact List.filterMap_some
/-- no test: ys tells what comes of each item -/
theorem lc_mapL {K : PySem.W.Frag} {a : Addr} {xs : List V} {j : Nat} {te : TE} {vs : List Nat} {σ : L2.St} {H1 : Hp} {D : Addr} {Qd : Hp → Prop} (ys : List V) (nD : H1 D = none) (hS : SqL K H1 a xs) (hlen : ys.length = xs.length) (hz : xs.length < sizeLine)
    (hw : ∀ x, wipe ((wipe σ vs).set j (some x)) vs = wipe σ vs)
    (hs : ∀ (i : Nat) (x y : V) (H' : Hp), xs[i]? = some x → ys[i]? = some y → Same H1 H' → ∀ Qt : V → Hp → Prop, (∀ H'', Same H' H'' → Qt y H'') → te ((wipe σ vs).set j (some x)) H' Qt)
    (hd : ∀ H', Same H1 H' → H' D = some (.lst ys) → Qd H') :
    ∃ W : Nat → Nat → Hp → Prop, (∃ m, W 0 m (upd H1 D (.lst []))) ∧ ∀ i m H, W i m H →
      ((Itl K a).stop i H ∧ Qd H) ∨ ((Itl K a).go i H ∧ ∃ Nx : Hp → Prop, (∀ H', Nx H' → ∃ m', m' < m ∧ W (i + 1) m' H') ∧ ∀ x H', (Itl K a).yld i H x H' → gName j x (wipe σ vs) H' fun σ2 H2 => wipe σ2 vs = wipe σ vs ∧ tYes σ2 H2 fun b H3 =>
        if b = true then te σ2 H3 fun y H4 => ∃ acc, H4 D = some (.lst acc) ∧ acc.length < sizeLine ∧ Nx (upd H4 D (.lst (acc ++ [y]))) else Nx H3) := by
  refine lc_selL (K := K) (a := a) (xs := xs) (tt := tYes) (ys.map some) nD hS (by rw [List.length_map]; exact hlen) hz hw ?_ ?_
  · intro i x o H' hx ho s Qt qt
    rw [List.getElem?_map] at ho
    obtain ⟨y, hy, rfl⟩ := Option.map_eq_some_iff.mp ho
    show if true = true then te ((wipe σ vs).set j (some x)) H' (fun y H4 => Qt (some y) H4) else Qt none H'
    exact iteT (hs i x y H' hx hy s (fun y H4 => Qt (some y) H4) qt)
  · intro H' s hD
    rw [fm_some] at hD
    exact hd H' s hD
theorem lc_mapR {lo : Int} {n : Nat} {j : Nat} {te : TE} {vs : List Nat} {σ : L2.St} {H1 : Hp} {D : Addr} {Qd : Hp → Prop} (ys : List V) (nD : H1 D = none) (hlen : ys.length = n) (hz : n < sizeLine)
    (hw : ∀ x, wipe ((wipe σ vs).set j (some x)) vs = wipe σ vs)
    (hs : ∀ (i : Nat) (y : V) (H' : Hp), i < n → ys[i]? = some y → Same H1 H' → ∀ Qt : V → Hp → Prop, (∀ H'', Same H' H'' → Qt y H'') → te ((wipe σ vs).set j (some (.int (lo + (i : Int))))) H' Qt)
    (hd : ∀ H', Same H1 H' → H' D = some (.lst ys) → Qd H') :
    ∃ W : Nat → Nat → Hp → Prop, (∃ m, W 0 m (upd H1 D (.lst []))) ∧ ∀ i m H, W i m H →
      ((Itr lo n).stop i H ∧ Qd H) ∨ ((Itr lo n).go i H ∧ ∃ Nx : Hp → Prop, (∀ H', Nx H' → ∃ m', m' < m ∧ W (i + 1) m' H') ∧ ∀ x H', (Itr lo n).yld i H x H' → gName j x (wipe σ vs) H' fun σ2 H2 => wipe σ2 vs = wipe σ vs ∧ tYes σ2 H2 fun b H3 =>
        if b = true then te σ2 H3 fun y H4 => ∃ acc, H4 D = some (.lst acc) ∧ acc.length < sizeLine ∧ Nx (upd H4 D (.lst (acc ++ [y]))) else Nx H3) := by
  refine lc_selR (lo := lo) (n := n) (tt := tYes) (ys.map some) nD (by rw [List.length_map]; exact hlen) hz hw ?_ ?_
  · intro i o H' hi ho s Qt qt
    rw [List.getElem?_map] at ho
    obtain ⟨y, hy, rfl⟩ := Option.map_eq_some_iff.mp ho
    show if true = true then te ((wipe σ vs).set j (some (.int (lo + (i : Int))))) H' (fun y H4 => Qt (some y) H4) else Qt none H'
    exact iteT (hs i y H' hi hy s (fun y H4 => Qt (some y) H4) qt)
  · intro H' s hD
    rw [fm_some] at hD
    exact hd H' s hD
/-- an item of a list of whole numbers -/
theorem int_at {ns : List Int} {i : Nat} {x : V} (h : (ns.map V.int)[i]? = some x) : ∃ n, ns[i]? = some n ∧ x = .int n := by
  rw [List.getElem?_map] at h
  obtain ⟨n, hn, e⟩ := Option.map_eq_some_iff.mp h
  exact ⟨n, hn, e.symm⟩
/-! ### rules with the written part named (within a comprehension Lean doesn't find it) -/
section
variable {X : Cx}
theorem k_len (K : PySem.W.Frag) (h : X.K = K) : CallR X (.builtin "len") (fun xs H Q => ∃ p ys, xs = [.ref p] ∧ (SqL K H p ys ∨ SqT K H p ys) ∧ Q (.int ys.length) H) := by subst h; exact call_len_seq
theorem k_sum (K : PySem.W.Frag) (h : X.K = K) (hc : X.calm = true) : CallR X (.builtin "sum") (rSum K) := by subst h; exact cr_sum hc
theorem k_max (K : PySem.W.Frag) (h : X.K = K) (hc : X.calm = true) : CallR X (.builtin "max") (rMax K) := by subst h; exact cr_max hc
theorem k_min (K : PySem.W.Frag) (h : X.K = K) (hc : X.calm = true) : CallR X (.builtin "min") (rMin K) := by subst h; exact cr_min hc
theorem k_isi (K : PySem.W.Frag) (h : X.K = K) : CallR X (.builtin "isinstance") (rIsi K) := by subst h; exact call_isi
theorem k_listOf (K : PySem.W.Frag) (h : X.K = K) : CallR X (.type "list") (fun xs H Q => ∃ p ys, xs = [.ref p] ∧ (SqL K H p ys ∨ SqT K H p ys) ∧ ∀ l, H l = none → Q (.ref l) (upd H l (.lst ys))) := by subst h; exact call_list_of
theorem k_tupleOf (K : PySem.W.Frag) (h : X.K = K) : CallR X (.type "tuple") (fun xs H Q => ∃ p ys, xs = [.ref p] ∧ ((SqL K H p ys ∧ ∀ l, H l = none → Q (.ref l) (upd H l (.tup ys))) ∨ (SqT K H p ys ∧ Q (.ref p) H))) := by subst h; exact call_tuple_of
theorem k_ixL (K : PySem.W.Frag) (h : X.K = K) : IxR X (rIxL K) := by subst h; exact ix_list
theorem k_ixT (K : PySem.W.Frag) (h : X.K = K) : IxR X (rIxT K) := by subst h; exact ix_tup
theorem k_slL (K : PySem.W.Frag) (h : X.K = K) : SlR X (rSlL K) := by subst h; exact sl_list
theorem k_slT (K : PySem.W.Frag) (h : X.K = K) : SlR X (rSlT K) := by subst h; exact sl_tup
theorem k_eqD (K : PySem.W.Frag) (h : X.K = K) (hu : X.A.units + 64 < cLine) : OpR X (compareOp .Eq) (rEqD K) := by subst h; exact op_eqD hu
theorem k_neD (K : PySem.W.Frag) (h : X.K = K) (hu : X.A.units + 64 < cLine) : OpR X (compareOp .NotEq) (rNeD K) := by subst h; exact op_neD hu
theorem k_in (K : PySem.W.Frag) (h : X.K = K) : OpR X (compareOp .In) (rIn K false) := by subst h; exact op_in_seq
theorem k_notIn (K : PySem.W.Frag) (h : X.K = K) : OpR X (compareOp .NotIn) (rIn K true) := by subst h; exact op_notIn_seq
theorem k_piL (K : PySem.W.Frag) (h : X.K = K) {tg l : Expr} {tl : TE} (hl : PE X l tl) : PI X tg l (iList K tl) := by subst h; exact pi_list hl
theorem k_piT (K : PySem.W.Frag) (h : X.K = K) {tg l : Expr} {tl : TE} (hl : PE X l tl) : PI X tg l (iTup K tl) := by subst h; exact pi_tup hl
theorem k_piE (K : PySem.W.Frag) (h : X.K = K) {e : Expr} {ta : TA} {p pos tpos : Pos} {elts : List Expr} {kk : Nat} (hg : Gl X "enumerate") (hm : X.mg "enumerate" = none) (ha : PA X [e] ta) (hs : starEach [e] X.env = [(false, eval e X.env)] := by rfl) : PI X (.Tuple elts kk tpos) (.Call (.Name "enumerate" p) [e] [] pos) (iEnum K ta) := by subst h; exact pi_enum hg hm ha hs
theorem k_pgT (K : PySem.W.Frag) (h : X.K = K) {es : List Expr} {k : Nat} {t : TGs} {n : Nat} {pos : Pos} (hc : X.calm = true) (hp : PGs X es t) (hn : (assignEach es X.env).length = n := by rfl) (hst : (assignEach es X.env).findIdx? (·.1) = none := by rfl) : PG X (.Tuple es k pos) (gTup K n t) := by subst h; exact pg_tup hc hp hn hst
theorem k_pgL (K : PySem.W.Frag) (h : X.K = K) {es : List Expr} {k : Nat} {t : TGs} {n : Nat} {pos : Pos} (hc : X.calm = true) (hp : PGs X es t) (hn : (assignEach es X.env).length = n := by rfl) (hst : (assignEach es X.env).findIdx? (·.1) = none := by rfl) : PG X (.Tuple es k pos) (gUnl K n t) := by subst h; exact pg_unl hc hp hn hst
theorem k_fld (K : PySem.W.Frag) (h : X.K = K) {e : Expr} {f : Str} {pos : Pos} {ta : TE} (he : PE X e ta) (hb : attributeBase e f X.env (eval e X.env) = eval e X.env) : PE X (.Attribute e f pos) (tFld K ta f) := by subst h; exact pe_fld he hb
theorem k_index (K : PySem.W.Frag) (h : X.K = K) : MtR X "list.index" (rIndex K) := by subst h; exact mt_index
end
/-! ### small things -/
theorem fresh {H : Hp} {p : Addr} (o : HO) (np : H p = none) : ∃ H', upd H p o = H' ∧ Same H H' ∧ H' p = some o := ⟨_, rfl, same_upd np, upd_same⟩
theorem cut_take (xs : List V) (k : Nat) : cutV xs none (some (k : Int)) = xs.take k := by
  unfold cutV
  rw [HT.sIx_nat, HT.sIx_none, List.drop_zero, Nat.sub_zero]
  rcases Nat.le_total k xs.length with h | h
  · rw [Nat.min_eq_left h]
  · rw [Nat.min_eq_right h, List.take_of_length_le h, List.take_length]
theorem cut_drop (xs : List V) (k : Nat) : cutV xs (some (k : Int)) none = xs.drop k := by
  unfold cutV
  rw [HT.sIx_nat, HT.sIx_none]
  rcases Nat.le_total k xs.length with h | h
  · rw [Nat.min_eq_left h, List.take_of_length_le (by rw [List.length_drop]; exact Nat.le_refl _)]
  · rw [Nat.min_eq_right h, List.drop_length, List.drop_of_length_le h, List.take_nil]
theorem rep_ints (k : Nat) (ks : List Int) : (List.replicate k (ks.map V.int)).flatten = ((List.replicate k ks).flatten).map V.int := by
  rw [List.map_flatten, List.map_replicate]
theorem rep_len {α : Type} (k : Nat) (ks : List α) : ((List.replicate k ks).flatten).length = k * ks.length := by
  induction k with
  | zero => simp
  | succ k ih => rw [List.replicate_succ, List.flatten_cons, List.length_append, ih, Nat.succ_mul]; omega
theorem rep_mem {α : Type} {k : Nat} {ks : List α} {x : α} (h : x ∈ (List.replicate k ks).flatten) : x ∈ ks := by
  obtain ⟨l, hl, hx⟩ := List.mem_flatten.mp h
  rw [(List.mem_replicate.mp hl).2] at hx
  exact hx
/-! ### comprehensions that make new things: R tells what is known of the i-th; D is no part of it -/
def Off (D : Addr) (H H' : Hp) : Prop := ∀ b o, b ≠ D → H b = some o → H' b = some o
def RelPv (R : Nat → V → Hp → Prop) (H1 : Hp) (D : Addr) (i : Nat) (H : Hp) : Prop := ∃ ys : List V, Same H1 H ∧ H D = some (.lst ys) ∧ ys.length = i ∧ ∀ (k : Nat) (y : V), ys[k]? = some y → R k y H
theorem lc_relR {lo : Int} {n : Nat} {j : Nat} {te : TE} {vs : List Nat} {σ : L2.St} {H1 : Hp} {D : Addr} {Qd : Hp → Prop} (R : Nat → V → Hp → Prop) (nD : H1 D = none) (hz : n < sizeLine)
    (mono : ∀ i y H H', Off D H H' → R i y H → R i y H')
    (hw : ∀ x, wipe ((wipe σ vs).set j (some x)) vs = wipe σ vs)
    (hs : ∀ (i : Nat) (H' : Hp) (xs : List V), i < n → Same H1 H' → H' D = some (.lst xs) → ∀ Qt : V → Hp → Prop, (∀ y H'', Same H' H'' → R i y H'' → Qt y H'') → te ((wipe σ vs).set j (some (.int (lo + (i : Int))))) H' Qt)
    (hd : ∀ H' ys, Same H1 H' → H' D = some (.lst ys) → ys.length = n → (∀ (i : Nat) (y : V), ys[i]? = some y → R i y H') → Qd H') :
    ∃ W : Nat → Nat → Hp → Prop, (∃ m, W 0 m (upd H1 D (.lst []))) ∧ ∀ i m H, W i m H →
      ((Itr lo n).stop i H ∧ Qd H) ∨ ((Itr lo n).go i H ∧ ∃ Nx : Hp → Prop, (∀ H', Nx H' → ∃ m', m' < m ∧ W (i + 1) m' H') ∧ ∀ x H', (Itr lo n).yld i H x H' → gName j x (wipe σ vs) H' fun σ2 H2 => wipe σ2 vs = wipe σ vs ∧ tYes σ2 H2 fun b H3 =>
        if b = true then te σ2 H3 fun y H4 => ∃ acc, H4 D = some (.lst acc) ∧ acc.length < sizeLine ∧ Nx (upd H4 D (.lst (acc ++ [y]))) else Nx H3) := by
  refine lc_range (lo := lo) (n := n) (RelPv R H1 D) ⟨[], same_upd nD, upd_same, rfl, fun k y h => by simp at h⟩ ?_ ?_
  · rintro i H hi ⟨ys, s, hD, hl, hR⟩
    refine ⟨hw _, ?_⟩
    show if true = true then te ((wipe σ vs).set j (some (.int (lo + (i : Int))))) H (fun y H4 => ∃ acc, H4 D = some (.lst acc) ∧ acc.length < sizeLine ∧ RelPv R H1 D (i + 1) (upd H4 D (.lst (acc ++ [y])))) else RelPv R H1 D (i + 1) H
    refine iteT (hs i H ys hi s hD _ fun y H4 s4 r4 => ?_)
    refine ⟨ys, s4 _ _ hD, by omega, ys ++ [y], same_over nD (s.trans s4), upd_same, by rw [List.length_append, hl]; rfl, fun k z hz => ?_⟩
    have off : Off D H4 (upd H4 D (.lst (ys ++ [y]))) := fun b o nb h => by rw [upd_ne nb]; exact h
    by_cases hk : k < ys.length
    · rw [List.getElem?_append_left hk] at hz
      exact mono k z H _ (fun b o nb h => off b o nb (s4 b o h)) (hR k z hz)
    · rw [List.getElem?_append_right (by omega)] at hz
      have hk2 : k - ys.length = 0 := by
        have h2 := (List.getElem?_eq_some_iff.mp hz).1
        rw [List.length_singleton] at h2
        omega
      rw [hk2] at hz
      cases hz
      have ek : k = i := by omega
      rw [ek]
      exact mono i y H4 _ off r4
  · rintro H ⟨ys, s, hD, hl, hR⟩
    exact hd H ys s hD hl hR
/-! ### ways that are told by whole numbers -/
theorem iteDT {p A B : Prop} [Decidable p] (hp : p) (h : A) : if decide p = true then A else B := by rw [decide_eq_true hp]; exact iteT h
theorem iteDF {p A B : Prop} [Decidable p] (hp : ¬ p) (h : B) : if decide p = true then A else B := by rw [decide_eq_false hp]; exact iteF h
theorem iteNT {p A B : Prop} [Decidable p] (hp : ¬ p) (h : A) : if (!decide p) = true then A else B := by rw [decide_eq_false hp]; exact iteT h
theorem iteNF {p A B : Prop} [Decidable p] (hp : p) (h : B) : if (!decide p) = true then A else B := by rw [decide_eq_true hp]; exact iteF h
theorem iteET {a b : Int} {A B : Prop} [Decidable (V.int a = V.int b)] (hp : a = b) (h : A) : if decide (V.int a = V.int b) = true then A else B := iteDT (congrArg V.int hp) h
theorem iteEF {a b : Int} {A B : Prop} [Decidable (V.int a = V.int b)] (hp : ¬ a = b) (h : B) : if decide (V.int a = V.int b) = true then A else B := iteDF (fun z => hp (V.int.inj z)) h
theorem iteENT {a b : Int} {A B : Prop} [Decidable (V.int a = V.int b)] (hp : ¬ a = b) (h : A) : if (!decide (V.int a = V.int b)) = true then A else B := iteNT (fun z => hp (V.int.inj z)) h
theorem iteENF {a b : Int} {A B : Prop} [Decidable (V.int a = V.int b)] (hp : a = b) (h : B) : if (!decide (V.int a = V.int b)) = true then A else B := iteNF (congrArg V.int hp) h
theorem iteNtt {A B : Prop} (h : B) : if (!true) = true then A else B := h
theorem iteNff {A B : Prop} (h : A) : if (!false) = true then A else B := h
/-- 1 or 0 of a comparison -/
theorem int_if {p : Prop} [Decidable p] : (if decide p = true then (1 : Int) else 0) = if p then 1 else 0 := by by_cases h : p <;> simp [h]
end Pre

namespace My
open PySem PySem.Spec PyProof.Rows L2 Pre
/-! ### set(a list of whole numbers) -/
/-- a set just made -/
abbrev sE (w : World) : Obj := { cls := .type "set", dict := none, data := .set #[] 0 (.fresh 0 0 (!w.params.followText "set-order")) }
section
variable {P : Program} {w : World} {A : Around} {E : Value → Shared → Prop} {s : Shared}
/-- all that stood ahead stands -/
def Ahead (h h' : Heap) : Prop := ∀ b o, h.get? b = some o → h'.get? b = some o
set_option maxHeartbeats 8000000 in
theorem set_of_list {l : Addr} {its : Array Value} (ns : List Int) {Q : Value → Shared → Prop} (calm : A.handled = none) (lst : s.heap.IsList l its) (are : IntsAre its.toList ns) (few : ns.length + 1 < scanBound)
    (fin : ∀ (h' : Heap) (tk c : Nat), SetR w h' s.heap.objs.size (fun j => decide (j ∈ ns)) c → c ≤ ns.length → Ahead s.heap h' → Q (.ref s.heap.objs.size) { s with heap := h', toks := tk }) :
    wpAny (model P w) A (call (.type "set") [.ref l]) Q E s := by
  have size : its.size = ns.length := (Array.length_toList (xs := its)).symm.trans are.length
  obtain ⟨c0, tl, hmro⟩ := F.called_set.mro; have hmade := F.called_set.made; have hsub := F.called_set.sub; have hlt := F.called_set.notType; have hcr := F.called_set.canCreate; have hct := F.typeCall_set_1 (.ref l)
  refine wpAny_call (codeAny_of_tree ?_); show wpAny _ _ (callAny (.type "set") _) _ _ _
  refine wpAny_pure ⟨Code.quiet_builtin _ (by decide +kernel), codeAny_builtin F.entry_type_call ?_⟩; rw [Around.under_plain (weight_type_call_type "set" [.ref l] []) rfl]
  repeat (any_goals (first | assumption | wp_step))
  let top := s.heap.objs.size
  let h1 := s.heap.push (sE w)
  refine codeAny_mono (code_set_led1 (.ref l) (E := E) (Q₁ := fun x t => x = .ref top ∧ t = { s with heap := h1 }) ⟨rfl, rfl⟩) fun r t hr => ?_
  rcases r with e | fl
  · exact hr
  cases fl with
  | ret x =>
    obtain ⟨rfl, rfl⟩ := hr
    have new : h1.get? top = some (sE w) := Heap.get?_push_size _ rfl
    have isSet : Shared.TypeIs { s with heap := h1 } (.ref top) "set" := ⟨_, new, rfl⟩
    have hli := F.called_set.init.lookup; have hbi := F.called_set.init.bind (.ref top)
    repeat (any_goals (first | assumption | wp_step))
    refine codeAny_mono (codeAny_call_builtin (R := wants (fun y u => y = .none ∧ ∃ h' tk c, u = { s with heap := h', toks := tk } ∧ SetR w h' top (fun j => decide (j ∈ ns)) c ∧ c ≤ ns.length ∧ Ahead s.heap h') E) F.called_set.init.plain F.entry_set_init (check_set_init_1 isSet ?_)) fun r2 u hu => ?_
    · obtain ⟨⟨oc, od, ot, os⟩, at_l, cl, nl, dl⟩ := lst
      simp only at cl dl; subst cl; subst dl
      have at1 : h1.get? l = some { cls := .type "list", dict := od, data := .seq its nl, slots := os } := Heap.get?_push_of_some _ at_l
      have n1 := F.sub_list_set; have n2 := F.sub_list_frozenset; have n3 : (Value.type "list" == Value.type "dict") = false := by decide
      have lst1 : h1.IsList l its := ⟨_, at1, rfl, nl, rfl⟩
      unfold Builtin.«set.__init__» noKeywords Builtin.Frozenset.updateFrom; generalize eI : pyIter = I
      wp_walk
      subst eI
      refine wpAny_pyIter_list lst1 ?_; refine wpAny_bind (wpAny_runValue ?_)
      have lt := Heap.lt_size at_l
      have calm3 : A.in1.in1.in1.handled = none := by simp [calm]
      have hz : h1.objs.size = top + 1 := Heap.size_push ..
      have apart : l ≠ h1.objs.size := by rw [hz]; exact Nat.ne_of_lt (Nat.lt_succ_of_lt lt)
      have notin : top ∉ [h1.objs.size, l] := by
        rw [hz]; intro z
        rcases List.mem_cons.mp z with z | z
        · omega
        · have := List.mem_singleton.mp z; exact Nat.lt_irrefl l (by rw [← this] at lt ⊢; exact lt)
      have each : ∀ (i : Nat) (v : Value), its[i]? = some v → ∃ k t, ns[i]? = some k ∧ v = .int k t := fun i v hv => by
        have hi := (Array.getElem?_eq_some_iff.mp hv).1; rw [size] at hi
        obtain ⟨t, e⟩ := IntsAre.int_at are i v ((Array.getElem?_toList (xs := its)).trans hv)
        exact ⟨ns[i], t, List.getElem?_eq_getElem hi, by rw [e, List.getD_eq_getElem?_getD, List.getElem?_eq_getElem hi]; rfl⟩
      refine set_update_ints ((Walks.list calm3 _ l apart its).toS) top notin ns size few each (its.size - 0) 0 _ (by omega) (Nat.zero_le _) ⟨⟨_, Heap.get?_push_size _ rfl, rfl, rfl⟩, (lst1.push _)⟩ ⟨0, Nat.le_refl 0, setR_new_at (Heap.get?_push_of_some _ new)⟩ fun s2 c mv hc set2 => ?_
      have es : s2 = { s with heap := s2.heap, toks := s2.toks } := by
        obtain ⟨a1, a2, a3, a4, a5⟩ := s2
        obtain rfl : a2 = s.gens := mv.gens
        obtain rfl : a3 = s.drawn := mv.drawn
        obtain rfl : a5 = s.os := mv.os
        rfl
      rw [size] at hc
      show wpAny _ _ _ _ _ _
      refine wpAny_pure ?_
      show wpAny _ _ (ret Value.none) _ _ _
      refine wpAny_pure ⟨rfl, s2.heap, s2.toks, c, es, set2, hc, fun b o e => mv.heap b o (fun z => ?_) (Heap.get?_push_of_some _ (Heap.get?_push_of_some _ e))⟩
      have lb := Heap.lt_size e
      rcases List.mem_cons.mp z with z | z
      · exact Nat.lt_irrefl _ (by rw [z] at lb; exact lb)
      · rw [List.mem_singleton.mp z, hz] at lb; exact absurd lb (by show ¬ top + 1 < top; omega)
    · rcases r2 with e | fl2
      · exact hu
      cases fl2 with
      | ret y =>
        obtain ⟨rfl, h', tk, c, rfl, a1, a2, a3⟩ := hu
        repeat (any_goals (first | assumption | wp_step))
        exact fin _ _ _ a1 a2 a3
      | _ => exact hu.elim
  | _ => exact hr.elim
end
section
variable {X : Cx}
def rSetL (K : PySem.W.Frag) (w : World) : List V → Hp → VK → Prop := fun xs H Q => ∃ (l : Addr) (ns : List Int), xs = [.ref l] ∧ SqL K H l (ns.map V.int) ∧ ns.length ≤ 1000 ∧ ∀ p c, H p = none → c ≤ ns.length → Q (.ref p) (upd H p (SetO w p (fun j => decide (j ∈ ns)) c))
theorem k_setL (K : PySem.W.Frag) (h : X.K = K) (hc : X.calm = true) : CallR X (.type "set") (rSetL K X.w) := by
  subst h
  intro pins s σ H xs us Q I r h
  obtain ⟨l, ns, rfl, hl, hz, q⟩ := h
  rw [Vals.ref1 r]
  obtain ⟨its, rv, pl, _⟩ := I.list hl
  have are : IntsAre its.toArray.toList ns := ints_of_vals rv
  exact set_of_list ns (I.ok.hd hc) pl.isList are (by unfold scanBound; omega) fun h' tk c R le kp => ⟨.ref _, _, I.laid (t' := tk) kp (Nat.le_refl _) (setO_new R), rfl, q _ c (I.hok.fresh (Nat.le_refl _)) le⟩
/-- sorted(a set of whole numbers) -/
theorem k_sortedSet (h : X.calm = true) : CallR X (.builtin "sorted") (rSortedSet X.w) := cr_sortedSet h
/-- not in a range -/
theorem op_notin_rng : OpR X (compareOp .NotIn) (fun x y H Q => ∃ i a lo hi, x = V.int i ∧ y = V.ref a ∧ H a = some (.rng lo hi) ∧ Q (.bl (!decide (lo ≤ i ∧ i < hi))) H) := by
  intro pins s σ H x y v u Q I rx ry h
  obtain ⟨i, a, lo, hi, rfl, rfl, ha, q⟩ := h
  obtain ⟨k, rfl⟩ := rx
  obtain rfl : u = Value.ref a := ry
  obtain ⟨t1, t2, t3, ho⟩ := I.hok a _ ha
  show wpAny _ _ (do return Value.bool (!(← contains (Value.ref a) (Value.int i k)))) _ _ s
  refine wpAny_bind (wpAny_contains_slot (T := "range") ⟨_, ho, rfl⟩ F.slot_range_contains (call_meets F.slot_range_contains ⟨_, ho, rfl⟩ F.entry_range_contains (F.args_range_contains_2 _ _) (q_contains a lo hi i t1 t2 t3 k) ⟨ho, wpAny_truthy_bool (wpAny_pure ⟨.bl _, H, I, rfl, ?_⟩)⟩))
  rw [place1]; exact q
variable {a b c d : Expr} {ta tb tc td : TE} {pos : Pos} {o1 o2 o3 : CmpOp} {r1 r2 r3 : R2}
def tChain3 (r1 r2 r3 : R2) (ta tb tc td : TE) : TE := fun σ H Q => ta σ H fun x H1 => tb σ H1 fun y H2 => r1 x y H2 fun z H3 => ∃ k, z = .bl k ∧ (if k = true then tc σ H3 fun u H4 => r2 y u H4 fun z2 H5 => ∃ k2, z2 = .bl k2 ∧ (if k2 = true then td σ H5 fun v H6 => r3 u v H6 Q else Q (.bl false) H5) else Q (.bl false) H3)
theorem pe_chain3 (h1 : OpR X (compareOp o1) r1) (h2 : OpR X (compareOp o2) r2) (h3 : OpR X (compareOp o3) r3) (ha : PE X a ta) (hb : PE X b tb) (hc : PE X c tc) (hd : PE X d td)
    (hm : lastMarks [o1, o2, o3] [b, c, d] = false := by with_unfolding_all rfl) : PE X (.Compare a [o1, o2, o3] [b, c, d] pos) (tChain3 r1 r2 r3 ta tb tc td) := by
  refine ⟨fun pins s σ H Q I h => Compare_chain (thn (ha.run pins s σ H _ I h) fun v s1 ⟨x, H1, I1, rx, q1⟩ => chain_link (thn (hb.run pins s1 σ H1 _ I1 q1) fun u s2 ⟨y, H2, I2, ry, q2⟩ => thn (h1 pins s2 σ H2 x y v u _ I2 rx ry q2) fun _ s3 ⟨_, H3, I3, rz, k, e, q3⟩ => ?_)) hm⟩
  subst e; cases rz; refine wpAny_truthy_bool ?_
  cases k
  · exact ite_ff ⟨.bl false, H3, I3, rfl, q3⟩
  refine ite_tt (chain_link (thn (hc.run pins s3 σ H3 _ I3 q3) fun w' s4 ⟨z', H4, I4, r4, q4⟩ => thn (h2 pins s4 σ H4 y z' u w' _ I4 ry r4 q4) fun _ s5 ⟨_, H5, I5, rz, k2, e, q5⟩ => ?_))
  subst e; cases rz; refine wpAny_truthy_bool ?_
  cases k2
  · exact ite_ff ⟨.bl false, H5, I5, rfl, q5⟩
  exact ite_tt (chain_last (thn (hd.run pins s5 σ H5 _ I5 q5) fun v6 s6 ⟨z6, H6, I6, r6, q6⟩ => h3 pins s6 σ H6 z' z6 w' v6 Q I6 r4 r6 q6))
theorem pt_chain3 (h1 : OpR X (compareOp o1) r1) (h2 : OpR X (compareOp o2) r2) (h3 : OpR X (compareOp o3) r3) (ha : PE X a ta) (hb : PE X b tb) (hc : PE X c tc) (hd : PE X d td)
    (hm : lastMarks [o1, o2, o3] [b, c, d] = false := by with_unfolding_all rfl) : PT X (.Compare a [o1, o2, o3] [b, c, d] pos) (tTest (tChain3 r1 r2 r3 ta tb tc td)) := by
  refine ⟨fun pins s σ H Q I h => isTrue_chain (thn (ha.run pins s σ H _ I h) fun v s1 ⟨x, H1, I1, rx, q1⟩ => test_link (thn (hb.run pins s1 σ H1 _ I1 q1) fun u s2 ⟨y, H2, I2, ry, q2⟩ => thn (h1 pins s2 σ H2 x y v u _ I2 rx ry q2) fun _ s3 ⟨_, H3, I3, rz, k, e, q3⟩ => ?_)) hm⟩
  subst e; cases rz; refine wpAny_truthy_bool ?_
  cases k
  · obtain ⟨k', e', q'⟩ := q3; cases e'; exact ite_ff ⟨H3, I3, q'⟩
  refine ite_tt (test_link (thn (hc.run pins s3 σ H3 _ I3 q3) fun w' s4 ⟨z', H4, I4, r4, q4⟩ => thn (h2 pins s4 σ H4 y z' u w' _ I4 ry r4 q4) fun _ s5 ⟨_, H5, I5, rz, k2, e, q5⟩ => ?_))
  subst e; cases rz; refine wpAny_truthy_bool ?_
  cases k2
  · obtain ⟨k', e', q'⟩ := q5; cases e'; exact ite_ff ⟨H5, I5, q'⟩
  refine ite_tt (test_last (thn (hd.run pins s5 σ H5 _ I5 q5) fun v6 s6 ⟨z6, H6, I6, r6, q6⟩ => thn (h3 pins s6 σ H6 z' z6 w' v6 _ I6 r4 r6 q6) fun _ s7 ⟨_, H7, I7, rz, k3, e, q7⟩ => ?_))
  subst e; cases rz; exact wpAny_truthy_bool ⟨H7, I7, q7⟩
end
end My

namespace My
open PySem PySem.Spec PyProof.Rows L2
theorem nil_binds {K : PySem.W.Frag} {fd : FuncData} {ps : List Str} (h : ∃ ds, Vals [] ds ∧ Binds K fd ps ds) : Binds K fd ps [] := by
  obtain ⟨ds, v, b⟩ := h
  cases v
  exact b
def top (i : Nat) : Stmt := PySem.Challenge.pw_wholesound_k42_widths_by_number_and_sum.main.body.getD i (.Pass ⟨0, 0, 0, 0⟩)
abbrev s_is_whole : Stmt := top 5
abbrev N_is_whole : List Str := ["value"]
theorem sc_is_whole : FnScope N_is_whole ["value"] (defScope s_is_whole) := ⟨rfl, rfl, rfl, by decide +kernel, rfl, by decide +kernel, by decide +kernel⟩
abbrev s_is_between : Stmt := top 6
abbrev N_is_between : List Str := ["value", "low", "high"]
theorem sc_is_between : FnScope N_is_between ["value", "low", "high"] (defScope s_is_between) := ⟨rfl, rfl, rfl, by decide +kernel, rfl, by decide +kernel, by decide +kernel⟩
abbrev s_check_number : Stmt := top 7
abbrev N_check_number : List Str := ["number", "low", "high"]
theorem sc_check_number : FnScope N_check_number ["number", "low", "high"] (defScope s_check_number) := ⟨rfl, rfl, rfl, by decide +kernel, rfl, by decide +kernel, by decide +kernel⟩
abbrev s_check_width : Stmt := top 10
abbrev N_check_width : List Str := ["width"]
theorem sc_check_width : FnScope N_check_width ["width"] (defScope s_check_width) := ⟨rfl, rfl, rfl, by decide +kernel, rfl, by decide +kernel, by decide +kernel⟩
abbrev s_rounded_up : Stmt := top 11
abbrev N_rounded_up : List Str := ["top", "under"]
theorem sc_rounded_up : FnScope N_rounded_up ["top", "under"] (defScope s_rounded_up) := ⟨rfl, rfl, rfl, by decide +kernel, rfl, by decide +kernel, by decide +kernel⟩
abbrev s_check_sum : Stmt := top 12
abbrev N_check_sum : List Str := ["many", "total"]
theorem sc_check_sum : FnScope N_check_sum ["many", "total"] (defScope s_check_sum) := ⟨rfl, rfl, rfl, by decide +kernel, rfl, by decide +kernel, by decide +kernel⟩
abbrev s_price_bounds : Stmt := top 13
abbrev N_price_bounds : List Str := ["many", "total", "width", "least"]
theorem sc_price_bounds : FnScope N_price_bounds ["many", "total", "width"] (defScope s_price_bounds) := ⟨rfl, rfl, rfl, by decide +kernel, rfl, by decide +kernel, by decide +kernel⟩
abbrev s_least_sum : Stmt := top 14
abbrev N_least_sum : List Str := ["many", "width"]
theorem sc_least_sum : FnScope N_least_sum ["many", "width"] (defScope s_least_sum) := ⟨rfl, rfl, rfl, by decide +kernel, rfl, by decide +kernel, by decide +kernel⟩
abbrev s_greatest_fold : Stmt := top 15
abbrev N_greatest_fold : List Str := ["width"]
theorem sc_greatest_fold : FnScope N_greatest_fold ["width"] (defScope s_greatest_fold) := ⟨rfl, rfl, rfl, by decide +kernel, rfl, by decide +kernel, by decide +kernel⟩
abbrev s_possible_widths : Stmt := top 16
abbrev N_possible_widths : List Str := ["many", "total", "first", "last"]
theorem sc_possible_widths : FnScope N_possible_widths ["many", "total"] (defScope s_possible_widths) := ⟨rfl, rfl, rfl, by decide +kernel, rfl, by decide +kernel, by decide +kernel⟩
abbrev s_filled : Stmt := top 17
abbrev N_filled : List Str := ["folds", "top", "left", "told", "unit", "more"]
theorem sc_filled : FnScope N_filled ["folds", "top", "left"] (defScope s_filled) := ⟨rfl, rfl, rfl, by decide +kernel, rfl, by decide +kernel, by decide +kernel⟩
abbrev s_width_row : Stmt := top 18
abbrev N_width_row : List Str := ["many", "total", "width", "folds"]
theorem sc_width_row : FnScope N_width_row ["many", "total", "width"] (defScope s_width_row) := ⟨rfl, rfl, rfl, by decide +kernel, rfl, by decide +kernel, by decide +kernel⟩
abbrev s_law_cell : Stmt := top 20
abbrev N_law_cell : List Str := ["_law_script", "_law_index"]
theorem sc_law_cell : FnScope N_law_cell ["_law_script", "_law_index"] (defScope s_law_cell) := ⟨rfl, rfl, rfl, by decide +kernel, rfl, by decide +kernel, by decide +kernel⟩
abbrev s_law_hash : Stmt := top 21
abbrev N_law_hash : List Str := ["_law_seed", "_law_index", "_law_mixed"]
theorem sc_law_hash : FnScope N_law_hash ["_law_seed", "_law_index"] (defScope s_law_hash) := ⟨rfl, rfl, rfl, by decide +kernel, rfl, by decide +kernel, by decide +kernel⟩
abbrev s_law_generator : Stmt := top 22
abbrev N_law_generator : List Str := ["_law_script", "_law_index", "_law_seed"]
theorem sc_law_generator : FnScope N_law_generator ["_law_script", "_law_index"] (defScope s_law_generator) := ⟨rfl, rfl, rfl, by decide +kernel, rfl, by decide +kernel, by decide +kernel⟩
abbrev s_law_random : Stmt := top 23
abbrev N_law_random : List Str := ["_law_generator_here", "_law_bound", "_law_drawn", "_law_turn"]
theorem sc_law_random : FnScope N_law_random ["_law_generator_here", "_law_bound"] (defScope s_law_random) := ⟨rfl, rfl, rfl, by decide +kernel, rfl, by decide +kernel, by decide +kernel⟩
abbrev s_law_price : Stmt := top 24
abbrev N_law_price : List Str := ["_law_folds", "_law_width", "_law_total", "_law_fold"]
theorem sc_law_price : FnScope N_law_price ["_law_folds", "_law_width"] (defScope s_law_price) := ⟨rfl, rfl, rfl, by decide +kernel, rfl, by decide +kernel, by decide +kernel⟩
abbrev s_law_least : Stmt := top 25
abbrev N_law_least : List Str := ["_law_folds", "_law_prices", "_law_widths", "_law_width"]
theorem sc_law_least : FnScope N_law_least ["_law_folds"] (defScope s_law_least) := ⟨rfl, rfl, rfl, by decide +kernel, rfl, by decide +kernel, by decide +kernel⟩
abbrev s_law_all_rows : Stmt := top 26
abbrev N_law_all_rows : List Str := ["_law_many", "_law_total", "_law_found", "_law_one", "_law_row"]
theorem sc_law_all_rows : FnScope N_law_all_rows ["_law_many", "_law_total"] (defScope s_law_all_rows) := ⟨rfl, rfl, rfl, by decide +kernel, rfl, by decide +kernel, by decide +kernel⟩
abbrev s_law_small_right : Stmt := top 27
abbrev N_law_small_right : List Str := ["_law_many", "_law_total", "_law_rows", "_law_firsts", "_law_width", "_law_prices", "_law_told", "_law_row"]
theorem sc_law_small_right : FnScope N_law_small_right ["_law_many", "_law_total"] (defScope s_law_small_right) := ⟨rfl, rfl, rfl, by decide +kernel, rfl, by decide +kernel, by decide +kernel⟩
abbrev s_law_first : Stmt := top 28
abbrev N_law_first : List Str := ["_law_folds", "_law_prices", "_law_width"]
theorem sc_law_first : FnScope N_law_first ["_law_folds"] (defScope s_law_first) := ⟨rfl, rfl, rfl, by decide +kernel, rfl, by decide +kernel, by decide +kernel⟩
abbrev s_law_row_cut : Stmt := top 29
abbrev N_law_row_cut : List Str := ["_law_generator_here", "_law_many", "_law_total", "_law_turn", "_law_found", "_law_left", "_law_one"]
theorem sc_law_row_cut : FnScope N_law_row_cut ["_law_generator_here", "_law_many", "_law_total"] (defScope s_law_row_cut) := ⟨rfl, rfl, rfl, by decide +kernel, rfl, by decide +kernel, by decide +kernel⟩
abbrev s_law_cheap_row : Stmt := top 30
abbrev N_law_cheap_row : List Str := ["_law_many", "_law_total", "_law_width", "_law_turn", "_law_found", "_law_left", "_law_one"]
theorem sc_law_cheap_row : FnScope N_law_cheap_row ["_law_many", "_law_total", "_law_width"] (defScope s_law_cheap_row) := ⟨rfl, rfl, rfl, by decide +kernel, rfl, by decide +kernel, by decide +kernel⟩
abbrev s_law_great_right : Stmt := top 31
abbrev N_law_great_right : List Str := ["_law_generator_here", "_law_many", "_law_total", "_law_width", "_law_first_here", "_law_last", "_law_told", "_law_least_here", "_law_greatest"]
theorem sc_law_great_right : FnScope N_law_great_right ["_law_generator_here", "_law_many", "_law_total"] (defScope s_law_great_right) := ⟨rfl, rfl, rfl, by decide +kernel, rfl, by decide +kernel, by decide +kernel⟩
abbrev s_law : Stmt := top 32
abbrev N_law : List Str := ["_law_script", "_law_generator_here", "_law_many", "_law_total", "_law_low", "_law_least_here", "_law_due", "_law_deep", "_law_width"]
theorem sc_law : FnScope N_law ["_law_script"] (defScope s_law) := ⟨rfl, rfl, rfl, by decide +kernel, rfl, by decide +kernel, by decide +kernel⟩
/-- what the top has left -/
structure Top (K : PySem.W.Frag) (mg : Str → Option Value) where
  f_is_whole : Addr
  fd_is_whole : FuncData
  F_is_whole : FunD K "is_whole" "is_whole" (defArgs s_is_whole) (defBody s_is_whole) (defScope s_is_whole) [] [] f_is_whole fd_is_whole
  b_is_whole : Binds K fd_is_whole ["value"] []
  g_is_whole : mg "is_whole" = some (.ref f_is_whole)
  f_is_between : Addr
  fd_is_between : FuncData
  F_is_between : FunD K "is_between" "is_between" (defArgs s_is_between) (defBody s_is_between) (defScope s_is_between) [] [] f_is_between fd_is_between
  b_is_between : Binds K fd_is_between ["value", "low", "high"] []
  g_is_between : mg "is_between" = some (.ref f_is_between)
  f_check_number : Addr
  fd_check_number : FuncData
  F_check_number : FunD K "check_number" "check_number" (defArgs s_check_number) (defBody s_check_number) (defScope s_check_number) [] [] f_check_number fd_check_number
  b_check_number : Binds K fd_check_number ["number", "low", "high"] []
  g_check_number : mg "check_number" = some (.ref f_check_number)
  f_check_width : Addr
  fd_check_width : FuncData
  F_check_width : FunD K "check_width" "check_width" (defArgs s_check_width) (defBody s_check_width) (defScope s_check_width) [] [] f_check_width fd_check_width
  b_check_width : Binds K fd_check_width ["width"] []
  g_check_width : mg "check_width" = some (.ref f_check_width)
  f_rounded_up : Addr
  fd_rounded_up : FuncData
  F_rounded_up : FunD K "rounded_up" "rounded_up" (defArgs s_rounded_up) (defBody s_rounded_up) (defScope s_rounded_up) [] [] f_rounded_up fd_rounded_up
  b_rounded_up : Binds K fd_rounded_up ["top", "under"] []
  g_rounded_up : mg "rounded_up" = some (.ref f_rounded_up)
  f_check_sum : Addr
  fd_check_sum : FuncData
  F_check_sum : FunD K "check_sum" "check_sum" (defArgs s_check_sum) (defBody s_check_sum) (defScope s_check_sum) [] [] f_check_sum fd_check_sum
  b_check_sum : Binds K fd_check_sum ["many", "total"] []
  g_check_sum : mg "check_sum" = some (.ref f_check_sum)
  f_price_bounds : Addr
  fd_price_bounds : FuncData
  F_price_bounds : FunD K "price_bounds" "price_bounds" (defArgs s_price_bounds) (defBody s_price_bounds) (defScope s_price_bounds) [] [] f_price_bounds fd_price_bounds
  b_price_bounds : Binds K fd_price_bounds ["many", "total", "width"] []
  g_price_bounds : mg "price_bounds" = some (.ref f_price_bounds)
  f_least_sum : Addr
  fd_least_sum : FuncData
  F_least_sum : FunD K "least_sum" "least_sum" (defArgs s_least_sum) (defBody s_least_sum) (defScope s_least_sum) [] [] f_least_sum fd_least_sum
  b_least_sum : Binds K fd_least_sum ["many", "width"] []
  g_least_sum : mg "least_sum" = some (.ref f_least_sum)
  f_greatest_fold : Addr
  fd_greatest_fold : FuncData
  F_greatest_fold : FunD K "greatest_fold" "greatest_fold" (defArgs s_greatest_fold) (defBody s_greatest_fold) (defScope s_greatest_fold) [] [] f_greatest_fold fd_greatest_fold
  b_greatest_fold : Binds K fd_greatest_fold ["width"] []
  g_greatest_fold : mg "greatest_fold" = some (.ref f_greatest_fold)
  f_possible_widths : Addr
  fd_possible_widths : FuncData
  F_possible_widths : FunD K "possible_widths" "possible_widths" (defArgs s_possible_widths) (defBody s_possible_widths) (defScope s_possible_widths) [] [] f_possible_widths fd_possible_widths
  b_possible_widths : Binds K fd_possible_widths ["many", "total"] []
  g_possible_widths : mg "possible_widths" = some (.ref f_possible_widths)
  f_filled : Addr
  fd_filled : FuncData
  F_filled : FunD K "filled" "filled" (defArgs s_filled) (defBody s_filled) (defScope s_filled) [] [] f_filled fd_filled
  b_filled : Binds K fd_filled ["folds", "top", "left"] []
  g_filled : mg "filled" = some (.ref f_filled)
  f_width_row : Addr
  fd_width_row : FuncData
  F_width_row : FunD K "width_row" "width_row" (defArgs s_width_row) (defBody s_width_row) (defScope s_width_row) [] [] f_width_row fd_width_row
  b_width_row : Binds K fd_width_row ["many", "total", "width"] []
  g_width_row : mg "width_row" = some (.ref f_width_row)
  f_law_cell : Addr
  fd_law_cell : FuncData
  F_law_cell : FunD K "_law_cell" "_law_cell" (defArgs s_law_cell) (defBody s_law_cell) (defScope s_law_cell) [] [] f_law_cell fd_law_cell
  b_law_cell : Binds K fd_law_cell ["_law_script", "_law_index"] []
  g_law_cell : mg "_law_cell" = some (.ref f_law_cell)
  f_law_hash : Addr
  fd_law_hash : FuncData
  F_law_hash : FunD K "_law_hash" "_law_hash" (defArgs s_law_hash) (defBody s_law_hash) (defScope s_law_hash) [] [] f_law_hash fd_law_hash
  b_law_hash : Binds K fd_law_hash ["_law_seed", "_law_index"] []
  g_law_hash : mg "_law_hash" = some (.ref f_law_hash)
  f_law_generator : Addr
  fd_law_generator : FuncData
  F_law_generator : FunD K "_law_generator" "_law_generator" (defArgs s_law_generator) (defBody s_law_generator) (defScope s_law_generator) [] [] f_law_generator fd_law_generator
  b_law_generator : Binds K fd_law_generator ["_law_script", "_law_index"] []
  g_law_generator : mg "_law_generator" = some (.ref f_law_generator)
  f_law_random : Addr
  fd_law_random : FuncData
  F_law_random : FunD K "_law_random" "_law_random" (defArgs s_law_random) (defBody s_law_random) (defScope s_law_random) [] [] f_law_random fd_law_random
  b_law_random : Binds K fd_law_random ["_law_generator_here", "_law_bound"] []
  g_law_random : mg "_law_random" = some (.ref f_law_random)
  f_law_price : Addr
  fd_law_price : FuncData
  F_law_price : FunD K "_law_price" "_law_price" (defArgs s_law_price) (defBody s_law_price) (defScope s_law_price) [] [] f_law_price fd_law_price
  b_law_price : Binds K fd_law_price ["_law_folds", "_law_width"] []
  g_law_price : mg "_law_price" = some (.ref f_law_price)
  f_law_least : Addr
  fd_law_least : FuncData
  F_law_least : FunD K "_law_least" "_law_least" (defArgs s_law_least) (defBody s_law_least) (defScope s_law_least) [] [] f_law_least fd_law_least
  b_law_least : Binds K fd_law_least ["_law_folds"] []
  g_law_least : mg "_law_least" = some (.ref f_law_least)
  f_law_all_rows : Addr
  fd_law_all_rows : FuncData
  F_law_all_rows : FunD K "_law_all_rows" "_law_all_rows" (defArgs s_law_all_rows) (defBody s_law_all_rows) (defScope s_law_all_rows) [] [] f_law_all_rows fd_law_all_rows
  b_law_all_rows : Binds K fd_law_all_rows ["_law_many", "_law_total"] []
  g_law_all_rows : mg "_law_all_rows" = some (.ref f_law_all_rows)
  f_law_small_right : Addr
  fd_law_small_right : FuncData
  F_law_small_right : FunD K "_law_small_right" "_law_small_right" (defArgs s_law_small_right) (defBody s_law_small_right) (defScope s_law_small_right) [] [] f_law_small_right fd_law_small_right
  b_law_small_right : Binds K fd_law_small_right ["_law_many", "_law_total"] []
  g_law_small_right : mg "_law_small_right" = some (.ref f_law_small_right)
  f_law_first : Addr
  fd_law_first : FuncData
  F_law_first : FunD K "_law_first" "_law_first" (defArgs s_law_first) (defBody s_law_first) (defScope s_law_first) [] [] f_law_first fd_law_first
  b_law_first : Binds K fd_law_first ["_law_folds"] []
  g_law_first : mg "_law_first" = some (.ref f_law_first)
  f_law_row_cut : Addr
  fd_law_row_cut : FuncData
  F_law_row_cut : FunD K "_law_row_cut" "_law_row_cut" (defArgs s_law_row_cut) (defBody s_law_row_cut) (defScope s_law_row_cut) [] [] f_law_row_cut fd_law_row_cut
  b_law_row_cut : Binds K fd_law_row_cut ["_law_generator_here", "_law_many", "_law_total"] []
  g_law_row_cut : mg "_law_row_cut" = some (.ref f_law_row_cut)
  f_law_cheap_row : Addr
  fd_law_cheap_row : FuncData
  F_law_cheap_row : FunD K "_law_cheap_row" "_law_cheap_row" (defArgs s_law_cheap_row) (defBody s_law_cheap_row) (defScope s_law_cheap_row) [] [] f_law_cheap_row fd_law_cheap_row
  b_law_cheap_row : Binds K fd_law_cheap_row ["_law_many", "_law_total", "_law_width"] []
  g_law_cheap_row : mg "_law_cheap_row" = some (.ref f_law_cheap_row)
  f_law_great_right : Addr
  fd_law_great_right : FuncData
  F_law_great_right : FunD K "_law_great_right" "_law_great_right" (defArgs s_law_great_right) (defBody s_law_great_right) (defScope s_law_great_right) [] [] f_law_great_right fd_law_great_right
  b_law_great_right : Binds K fd_law_great_right ["_law_generator_here", "_law_many", "_law_total"] []
  g_law_great_right : mg "_law_great_right" = some (.ref f_law_great_right)
  f_law : Addr
  fd_law : FuncData
  F_law : FunD K "law" "law" (defArgs s_law) (defBody s_law) (defScope s_law) [] [] f_law fd_law
  b_law : Binds K fd_law ["_law_script"] []
  g_law : mg "law" = some (.ref f_law)
  n_len : mg "len" = none
  n_sum : mg "sum" = none
  n_max : mg "max" = none
  n_min : mg "min" = none
  n_int : mg "int" = none
  n_bool : mg "bool" = none
  n_list : mg "list" = none
  n_range : mg "range" = none
  n_isinstance : mg "isinstance" = none
  n_sorted : mg "sorted" = none
  n_set : mg "set" = none
  t_MOST_WIDTH : Tok
  m_MOST_WIDTH : mg "MOST_WIDTH" = some (.int 120 t_MOST_WIDTH)
def d_is_whole : He.DefD := ⟨("is_whole", none), "is_whole", "is_whole", defArgs s_is_whole, defBody s_is_whole, defScope s_is_whole, [], []⟩
def d_is_between : He.DefD := ⟨("is_between", none), "is_between", "is_between", defArgs s_is_between, defBody s_is_between, defScope s_is_between, [], []⟩
def d_check_number : He.DefD := ⟨("check_number", none), "check_number", "check_number", defArgs s_check_number, defBody s_check_number, defScope s_check_number, [], []⟩
def d_check_width : He.DefD := ⟨("check_width", none), "check_width", "check_width", defArgs s_check_width, defBody s_check_width, defScope s_check_width, [], []⟩
def d_rounded_up : He.DefD := ⟨("rounded_up", none), "rounded_up", "rounded_up", defArgs s_rounded_up, defBody s_rounded_up, defScope s_rounded_up, [], []⟩
def d_check_sum : He.DefD := ⟨("check_sum", none), "check_sum", "check_sum", defArgs s_check_sum, defBody s_check_sum, defScope s_check_sum, [], []⟩
def d_price_bounds : He.DefD := ⟨("price_bounds", none), "price_bounds", "price_bounds", defArgs s_price_bounds, defBody s_price_bounds, defScope s_price_bounds, [], []⟩
def d_least_sum : He.DefD := ⟨("least_sum", none), "least_sum", "least_sum", defArgs s_least_sum, defBody s_least_sum, defScope s_least_sum, [], []⟩
def d_greatest_fold : He.DefD := ⟨("greatest_fold", none), "greatest_fold", "greatest_fold", defArgs s_greatest_fold, defBody s_greatest_fold, defScope s_greatest_fold, [], []⟩
def d_possible_widths : He.DefD := ⟨("possible_widths", none), "possible_widths", "possible_widths", defArgs s_possible_widths, defBody s_possible_widths, defScope s_possible_widths, [], []⟩
def d_filled : He.DefD := ⟨("filled", none), "filled", "filled", defArgs s_filled, defBody s_filled, defScope s_filled, [], []⟩
def d_width_row : He.DefD := ⟨("width_row", none), "width_row", "width_row", defArgs s_width_row, defBody s_width_row, defScope s_width_row, [], []⟩
def d_law_cell : He.DefD := ⟨("_law_cell", none), "_law_cell", "_law_cell", defArgs s_law_cell, defBody s_law_cell, defScope s_law_cell, [], []⟩
def d_law_hash : He.DefD := ⟨("_law_hash", none), "_law_hash", "_law_hash", defArgs s_law_hash, defBody s_law_hash, defScope s_law_hash, [], []⟩
def d_law_generator : He.DefD := ⟨("_law_generator", none), "_law_generator", "_law_generator", defArgs s_law_generator, defBody s_law_generator, defScope s_law_generator, [], []⟩
def d_law_random : He.DefD := ⟨("_law_random", none), "_law_random", "_law_random", defArgs s_law_random, defBody s_law_random, defScope s_law_random, [], []⟩
def d_law_price : He.DefD := ⟨("_law_price", none), "_law_price", "_law_price", defArgs s_law_price, defBody s_law_price, defScope s_law_price, [], []⟩
def d_law_least : He.DefD := ⟨("_law_least", none), "_law_least", "_law_least", defArgs s_law_least, defBody s_law_least, defScope s_law_least, [], []⟩
def d_law_all_rows : He.DefD := ⟨("_law_all_rows", none), "_law_all_rows", "_law_all_rows", defArgs s_law_all_rows, defBody s_law_all_rows, defScope s_law_all_rows, [], []⟩
def d_law_small_right : He.DefD := ⟨("_law_small_right", none), "_law_small_right", "_law_small_right", defArgs s_law_small_right, defBody s_law_small_right, defScope s_law_small_right, [], []⟩
def d_law_first : He.DefD := ⟨("_law_first", none), "_law_first", "_law_first", defArgs s_law_first, defBody s_law_first, defScope s_law_first, [], []⟩
def d_law_row_cut : He.DefD := ⟨("_law_row_cut", none), "_law_row_cut", "_law_row_cut", defArgs s_law_row_cut, defBody s_law_row_cut, defScope s_law_row_cut, [], []⟩
def d_law_cheap_row : He.DefD := ⟨("_law_cheap_row", none), "_law_cheap_row", "_law_cheap_row", defArgs s_law_cheap_row, defBody s_law_cheap_row, defScope s_law_cheap_row, [], []⟩
def d_law_great_right : He.DefD := ⟨("_law_great_right", none), "_law_great_right", "_law_great_right", defArgs s_law_great_right, defBody s_law_great_right, defScope s_law_great_right, [], []⟩
def d_law : He.DefD := ⟨("law", none), "law", "law", defArgs s_law, defBody s_law, defScope s_law, [], []⟩
def fn : List He.DefD := [d_is_whole, d_is_between, d_check_number, d_check_width, d_rounded_up, d_check_sum, d_price_bounds, d_least_sum, d_greatest_fold, d_possible_widths, d_filled, d_width_row, d_law_cell, d_law_hash, d_law_generator, d_law_random, d_law_price, d_law_least, d_law_all_rows, d_law_small_right, d_law_first, d_law_row_cut, d_law_cheap_row, d_law_great_right, d_law]
def fa0 : List He.Fa := [.glo "is_whole", .glo "is_between", .glo "check_number", .glo "check_width", .glo "rounded_up", .glo "check_sum", .glo "price_bounds", .glo "least_sum", .glo "greatest_fold", .glo "possible_widths", .glo "filled", .glo "width_row", .glo "_law_cell", .glo "_law_hash", .glo "_law_generator", .glo "_law_random", .glo "_law_price", .glo "_law_least", .glo "_law_all_rows", .glo "_law_small_right", .glo "_law_first", .glo "_law_row_cut", .glo "_law_cheap_row", .glo "_law_great_right", .glo "law", .free "len", .free "sum", .free "max", .free "min", .free "int"]
def fa1 : List He.Fa := [.free "bool", .free "list", .free "range", .free "isinstance", .free "sorted", .free "set", .int "MOST_WIDTH" 120]
def fa : List He.Fa := fa0 ++ fa1
/-- isinstance of an own class -/
def insB (K : PySem.W.Frag) (x : Str) : Bool := decide (PySem.W.findIn K (.ref (He.ga K x)) "__class__" = some (some (.builtin "object.__class__"))) && (decide (PySem.W.specialIn K (.builtin "object.__class__") "__get__" = some (some (.builtin "getset_descriptor.__get__"))) && (decide (PySem.W.takesIn K (.builtin "object.__class__") = some true) && (decide (PySem.W.mroIn K (He.ga K x) (.type "object") = some true) && decide (PySem.W.kitOne K (.ref (He.ga K x)) (.ref (He.ga K x)) = some true))))
theorem insB_ok {K : PySem.W.Frag} {x : Str} (cl : Cls K (He.ga K x)) (h : insB K x = true) : C8.InsC K (He.ga K x) := by
  unfold insB at h
  simp only [Bool.and_eq_true, decide_eq_true_eq] at h
  exact ⟨cl, h.1, h.2.1, h.2.2.1, h.2.2.2.1, h.2.2.2.2⟩
def eqB (K : PySem.W.Frag) (x : Str) : Bool := decide (PySem.W.findIn K (.ref (He.ga K x)) "__ne__" = some (some (.builtin "object.__ne__"))) && (decide (PySem.W.subIn K (.ref (He.ga K x)) (.type "object") = some true) && (decide (PySem.W.subIn K (.type "list") (.ref (He.ga K x)) = some false) && (decide (PySem.W.kitOne K (.type "list") (.ref (He.ga K x)) = some false) && (decide (PySem.W.subIn K (.type "tuple") (.ref (He.ga K x)) = some false) && decide (PySem.W.kitOne K (.type "tuple") (.ref (He.ga K x)) = some false)))))
def eqs : List Str := []
def own : List Str := []
def ex (K : PySem.W.Frag) : Bool := (own.all fun x => insB K x) && eqs.all fun x => eqB K x
abbrev R : PySem.W.OpenRow := PySem.W.OpenLaw.row PySem.Challenge.rw_wholesound_k42_widths_by_number_and_sum
abbrev Al : Type := He.AlD × Bool
def obsG (g : Addr → Option Obj) : Al := (He.obsDG 5 fa fn g, ex (He.frG g (He.asD g 5)))
def Says (K : PySem.W.Frag) : Prop := He.SaysD fa fn K ∧ ex K = true
def hk : PySem.W.Hook where
  α := Al
  obs := fun s => obsG s.heap.get?
  val := fun _ => (He.valD fn, true)
  says := fun _ h => ∃ K : PySem.W.Frag, K.In h ∧ Says K
  of := fun _ _ e => ⟨_, He.frG_in, congrArg Prod.fst e, congrArg Prod.snd e⟩
  keeps := fun _ _ _ ⟨K, hK, c⟩ k => ⟨K, PySem.W.Frag.In.keeps hK k, c⟩
def ob (s : PySem.W.SharedT) : Al := obsG (HandSHeadRun.getT s)
theorem ob_eq (s : PySem.W.SharedT) : ob s = hk.obs s.abs := by
  have e : HandSHeadRun.getT s = s.abs.heap.get? := funext (HandSHeadRun.getT_eq s)
  show obsG (HandSHeadRun.getT s) = obsG s.abs.heap.get?
  rw [e]
def loose0 : List PySem.Str := ["SoundError", "InvalidNumber", "InvalidWidth", "is_whole", "is_between", "check_number", "MOST_WIDTH", "check_width", "rounded_up", "check_sum", "price_bounds", "least_sum", "greatest_fold", "possible_widths", "filled", "width_row", "_law_cell", "_law_hash", "_law_generator", "_law_random", "_law_price", "_law_least", "_law_all_rows", "_law_small_right", "_law_first", "_law_row_cut", "_law_cheap_row", "_law_great_right"]
abbrev loose : List PySem.Str := loose0
theorem run (w : World) : HandSHeadRun.RunEq R (PySem.W.view R.prog [32]) hk ob 8000 loose w := by
  intro os
  kernel_rfl
noncomputable def top_mk {K : PySem.W.Frag} {h : Heap} {mg : Str → Option Value} (X : K.In h) (G : h.Ns mainGlobals mg) (c : Says K) : Top K mg :=
  let p0 := c.1.def_ 0 (d := d_is_whole) rfl
  let p1 := c.1.def_ 1 (d := d_is_between) rfl
  let p2 := c.1.def_ 2 (d := d_check_number) rfl
  let p3 := c.1.def_ 3 (d := d_check_width) rfl
  let p4 := c.1.def_ 4 (d := d_rounded_up) rfl
  let p5 := c.1.def_ 5 (d := d_check_sum) rfl
  let p6 := c.1.def_ 6 (d := d_price_bounds) rfl
  let p7 := c.1.def_ 7 (d := d_least_sum) rfl
  let p8 := c.1.def_ 8 (d := d_greatest_fold) rfl
  let p9 := c.1.def_ 9 (d := d_possible_widths) rfl
  let p10 := c.1.def_ 10 (d := d_filled) rfl
  let p11 := c.1.def_ 11 (d := d_width_row) rfl
  let p12 := c.1.def_ 12 (d := d_law_cell) rfl
  let p13 := c.1.def_ 13 (d := d_law_hash) rfl
  let p14 := c.1.def_ 14 (d := d_law_generator) rfl
  let p15 := c.1.def_ 15 (d := d_law_random) rfl
  let p16 := c.1.def_ 16 (d := d_law_price) rfl
  let p17 := c.1.def_ 17 (d := d_law_least) rfl
  let p18 := c.1.def_ 18 (d := d_law_all_rows) rfl
  let p19 := c.1.def_ 19 (d := d_law_small_right) rfl
  let p20 := c.1.def_ 20 (d := d_law_first) rfl
  let p21 := c.1.def_ 21 (d := d_law_row_cut) rfl
  let p22 := c.1.def_ 22 (d := d_law_cheap_row) rfl
  let p23 := c.1.def_ 23 (d := d_law_great_right) rfl
  let p24 := c.1.def_ 24 (d := d_law) rfl
  let q0 := He.int_ok X G (c.1.fact 36 (f := .int "MOST_WIDTH" 120) rfl)
  { f_is_whole := _, fd_is_whole := p0.choose, F_is_whole := p0.choose_spec, b_is_whole := p0.choose_spec.bindsN fun _ _ _ _ _ _ us hl => match us, hl with | [_], _ => rfl, g_is_whole := He.glo_ok X G (c.1.fact 0 (f := .glo "is_whole") rfl),
    f_is_between := _, fd_is_between := p1.choose, F_is_between := p1.choose_spec, b_is_between := p1.choose_spec.bindsN fun _ _ _ _ _ _ us hl => match us, hl with | [_, _, _], _ => rfl, g_is_between := He.glo_ok X G (c.1.fact 1 (f := .glo "is_between") rfl),
    f_check_number := _, fd_check_number := p2.choose, F_check_number := p2.choose_spec, b_check_number := p2.choose_spec.bindsN fun _ _ _ _ _ _ us hl => match us, hl with | [_, _, _], _ => rfl, g_check_number := He.glo_ok X G (c.1.fact 2 (f := .glo "check_number") rfl),
    f_check_width := _, fd_check_width := p3.choose, F_check_width := p3.choose_spec, b_check_width := p3.choose_spec.bindsN fun _ _ _ _ _ _ us hl => match us, hl with | [_], _ => rfl, g_check_width := He.glo_ok X G (c.1.fact 3 (f := .glo "check_width") rfl),
    f_rounded_up := _, fd_rounded_up := p4.choose, F_rounded_up := p4.choose_spec, b_rounded_up := p4.choose_spec.bindsN fun _ _ _ _ _ _ us hl => match us, hl with | [_, _], _ => rfl, g_rounded_up := He.glo_ok X G (c.1.fact 4 (f := .glo "rounded_up") rfl),
    f_check_sum := _, fd_check_sum := p5.choose, F_check_sum := p5.choose_spec, b_check_sum := p5.choose_spec.bindsN fun _ _ _ _ _ _ us hl => match us, hl with | [_, _], _ => rfl, g_check_sum := He.glo_ok X G (c.1.fact 5 (f := .glo "check_sum") rfl),
    f_price_bounds := _, fd_price_bounds := p6.choose, F_price_bounds := p6.choose_spec, b_price_bounds := p6.choose_spec.bindsN fun _ _ _ _ _ _ us hl => match us, hl with | [_, _, _], _ => rfl, g_price_bounds := He.glo_ok X G (c.1.fact 6 (f := .glo "price_bounds") rfl),
    f_least_sum := _, fd_least_sum := p7.choose, F_least_sum := p7.choose_spec, b_least_sum := p7.choose_spec.bindsN fun _ _ _ _ _ _ us hl => match us, hl with | [_, _], _ => rfl, g_least_sum := He.glo_ok X G (c.1.fact 7 (f := .glo "least_sum") rfl),
    f_greatest_fold := _, fd_greatest_fold := p8.choose, F_greatest_fold := p8.choose_spec, b_greatest_fold := p8.choose_spec.bindsN fun _ _ _ _ _ _ us hl => match us, hl with | [_], _ => rfl, g_greatest_fold := He.glo_ok X G (c.1.fact 8 (f := .glo "greatest_fold") rfl),
    f_possible_widths := _, fd_possible_widths := p9.choose, F_possible_widths := p9.choose_spec, b_possible_widths := p9.choose_spec.bindsN fun _ _ _ _ _ _ us hl => match us, hl with | [_, _], _ => rfl, g_possible_widths := He.glo_ok X G (c.1.fact 9 (f := .glo "possible_widths") rfl),
    f_filled := _, fd_filled := p10.choose, F_filled := p10.choose_spec, b_filled := p10.choose_spec.bindsN fun _ _ _ _ _ _ us hl => match us, hl with | [_, _, _], _ => rfl, g_filled := He.glo_ok X G (c.1.fact 10 (f := .glo "filled") rfl),
    f_width_row := _, fd_width_row := p11.choose, F_width_row := p11.choose_spec, b_width_row := p11.choose_spec.bindsN fun _ _ _ _ _ _ us hl => match us, hl with | [_, _, _], _ => rfl, g_width_row := He.glo_ok X G (c.1.fact 11 (f := .glo "width_row") rfl),
    f_law_cell := _, fd_law_cell := p12.choose, F_law_cell := p12.choose_spec, b_law_cell := p12.choose_spec.bindsN fun _ _ _ _ _ _ us hl => match us, hl with | [_, _], _ => rfl, g_law_cell := He.glo_ok X G (c.1.fact 12 (f := .glo "_law_cell") rfl),
    f_law_hash := _, fd_law_hash := p13.choose, F_law_hash := p13.choose_spec, b_law_hash := p13.choose_spec.bindsN fun _ _ _ _ _ _ us hl => match us, hl with | [_, _], _ => rfl, g_law_hash := He.glo_ok X G (c.1.fact 13 (f := .glo "_law_hash") rfl),
    f_law_generator := _, fd_law_generator := p14.choose, F_law_generator := p14.choose_spec, b_law_generator := p14.choose_spec.bindsN fun _ _ _ _ _ _ us hl => match us, hl with | [_, _], _ => rfl, g_law_generator := He.glo_ok X G (c.1.fact 14 (f := .glo "_law_generator") rfl),
    f_law_random := _, fd_law_random := p15.choose, F_law_random := p15.choose_spec, b_law_random := p15.choose_spec.bindsN fun _ _ _ _ _ _ us hl => match us, hl with | [_, _], _ => rfl, g_law_random := He.glo_ok X G (c.1.fact 15 (f := .glo "_law_random") rfl),
    f_law_price := _, fd_law_price := p16.choose, F_law_price := p16.choose_spec, b_law_price := p16.choose_spec.bindsN fun _ _ _ _ _ _ us hl => match us, hl with | [_, _], _ => rfl, g_law_price := He.glo_ok X G (c.1.fact 16 (f := .glo "_law_price") rfl),
    f_law_least := _, fd_law_least := p17.choose, F_law_least := p17.choose_spec, b_law_least := p17.choose_spec.bindsN fun _ _ _ _ _ _ us hl => match us, hl with | [_], _ => rfl, g_law_least := He.glo_ok X G (c.1.fact 17 (f := .glo "_law_least") rfl),
    f_law_all_rows := _, fd_law_all_rows := p18.choose, F_law_all_rows := p18.choose_spec, b_law_all_rows := p18.choose_spec.bindsN fun _ _ _ _ _ _ us hl => match us, hl with | [_, _], _ => rfl, g_law_all_rows := He.glo_ok X G (c.1.fact 18 (f := .glo "_law_all_rows") rfl),
    f_law_small_right := _, fd_law_small_right := p19.choose, F_law_small_right := p19.choose_spec, b_law_small_right := p19.choose_spec.bindsN fun _ _ _ _ _ _ us hl => match us, hl with | [_, _], _ => rfl, g_law_small_right := He.glo_ok X G (c.1.fact 19 (f := .glo "_law_small_right") rfl),
    f_law_first := _, fd_law_first := p20.choose, F_law_first := p20.choose_spec, b_law_first := p20.choose_spec.bindsN fun _ _ _ _ _ _ us hl => match us, hl with | [_], _ => rfl, g_law_first := He.glo_ok X G (c.1.fact 20 (f := .glo "_law_first") rfl),
    f_law_row_cut := _, fd_law_row_cut := p21.choose, F_law_row_cut := p21.choose_spec, b_law_row_cut := p21.choose_spec.bindsN fun _ _ _ _ _ _ us hl => match us, hl with | [_, _, _], _ => rfl, g_law_row_cut := He.glo_ok X G (c.1.fact 21 (f := .glo "_law_row_cut") rfl),
    f_law_cheap_row := _, fd_law_cheap_row := p22.choose, F_law_cheap_row := p22.choose_spec, b_law_cheap_row := p22.choose_spec.bindsN fun _ _ _ _ _ _ us hl => match us, hl with | [_, _, _], _ => rfl, g_law_cheap_row := He.glo_ok X G (c.1.fact 22 (f := .glo "_law_cheap_row") rfl),
    f_law_great_right := _, fd_law_great_right := p23.choose, F_law_great_right := p23.choose_spec, b_law_great_right := p23.choose_spec.bindsN fun _ _ _ _ _ _ us hl => match us, hl with | [_, _, _], _ => rfl, g_law_great_right := He.glo_ok X G (c.1.fact 23 (f := .glo "_law_great_right") rfl),
    f_law := _, fd_law := p24.choose, F_law := p24.choose_spec, b_law := p24.choose_spec.bindsN fun _ _ _ _ _ _ us hl => match us, hl with | [_], _ => rfl, g_law := He.glo_ok X G (c.1.fact 24 (f := .glo "law") rfl),
    n_len := He.free_ok X G (c.1.fact 25 (f := .free "len") rfl),
    n_sum := He.free_ok X G (c.1.fact 26 (f := .free "sum") rfl),
    n_max := He.free_ok X G (c.1.fact 27 (f := .free "max") rfl),
    n_min := He.free_ok X G (c.1.fact 28 (f := .free "min") rfl),
    n_int := He.free_ok X G (c.1.fact 29 (f := .free "int") rfl),
    n_bool := He.free_ok X G (c.1.fact 30 (f := .free "bool") rfl),
    n_list := He.free_ok X G (c.1.fact 31 (f := .free "list") rfl),
    n_range := He.free_ok X G (c.1.fact 32 (f := .free "range") rfl),
    n_isinstance := He.free_ok X G (c.1.fact 33 (f := .free "isinstance") rfl),
    n_sorted := He.free_ok X G (c.1.fact 34 (f := .free "sorted") rfl),
    n_set := He.free_ok X G (c.1.fact 35 (f := .free "set") rfl),
    t_MOST_WIDTH := q0.choose, m_MOST_WIDTH := q0.choose_spec }
end My

namespace My
open PySem PySem.Spec PyProof.Rows L2 Pre
section
variable {P : Program} {w : World} {K : PySem.W.Frag} {mg : Str → Option Value} {base : Heap}
/-! ### is_whole, is_between, of whole numbers -/
def sp_is_whole : Sp := fun vs H Q _ => ∃ i : Int, vs = [.int i] ∧ Q (.bl true) H
theorem G_is_whole (T : Top K mg) : FnOk P w K mg base CX0 1 T.f_is_whole T.fd_is_whole ["value"] sp_is_whole := by
  refine T.F_is_whole.ok sc_is_whole (fun vs H Q E h => by obtain ⟨i, rfl, _⟩ := h; rfl) (fun cdv A outer s H vs Q E hr h => ?_)
  obtain ⟨i, rfl, q⟩ := h
  refine ⟨_, PSs.nox (pss_one (ps_ret (pe_and (pe_callB (k_isi K rfl) (by rfl) T.n_isinstance (by decide +kernel) (pa_cons (pv 0) (pa_cons (pe_bltn (v := .ty "int") (by rfl) T.n_int (by decide +kernel) rfl) pa_nil))) (pe_one (pe_not (pe_callB (k_isi K rfl) (by rfl) T.n_isinstance (by decide +kernel) (pa_cons (pv 0) (pa_cons (pe_bltn (v := .ty "bool") (by rfl) T.n_bool (by decide +kernel) rfl) pa_nil)))))))), ?_⟩
  refine ⟨_, rfl, _, _, _, _, true, rfl, .ty _, .base (.int i), kit_ty (by decide +kernel), true, rfl, iteT ?_⟩
  exact ⟨_, rfl, _, _, _, _, false, rfl, .ty _, .base (.int i), kit_ty (by decide +kernel), false, rfl, q⟩
/-- value a whole number, low one, high None or one -/
def sp_is_between : Sp := fun vs H Q _ => ∃ (i lo : Int) (hi : Option Int), vs = [.int i, .int lo, (match hi with | some j => .int j | none => .non)] ∧ Q (.bl (decide (lo ≤ i ∧ ∀ j, hi = some j → i ≤ j))) H
theorem G_is_between (T : Top K mg) : FnOk P w K mg base CX0 2 T.f_is_between T.fd_is_between ["value", "low", "high"] sp_is_between := by
  refine T.F_is_between.ok sc_is_between (fun vs H Q E h => by obtain ⟨i, lo, hi, rfl, _⟩ := h; rfl) (fun cdv A outer s H vs Q E hr h => ?_)
  obtain ⟨i, lo, hi, rfl, q⟩ := h
  refine ⟨_, PSs.nox (pss_one (ps_ret (pe_and (pe_call (G_is_whole T) (hr.mono (by decide)) (by rfl) T.g_is_whole T.F_is_whole.kp T.b_is_whole .nil pass0 (pa_cons (pv 0) pa_nil)) (pe_and (pe_cmpR op_le (pv 1) (pv 0) (nomark _)) (pe_one (pe_or (pe_cmpR op_isN (pv 2) pe_non (nomark _)) (pe_one (pe_cmpR op_le (pv 0) (pv 2) (nomark _))))))))), ?_⟩
  refine ⟨_, rfl, i, rfl, true, rfl, iteT ?_⟩
  refine ⟨_, rfl, _, rfl, _, _, rfl, rfl, _, rfl, ite2 (fun e => ?_) (fun e => ?_)⟩
  · have e1 : lo ≤ i := of_decide_eq_true e
    cases hi with
    | none =>
      refine ⟨_, rfl, rfl, _, rfl, iteT ?_⟩
      rw [decide_eq_true ⟨e1, fun j h => nomatch h⟩] at q
      exact q
    | some j =>
      refine ⟨_, rfl, rfl, _, rfl, iteF ⟨_, rfl, _, rfl, _, _, rfl, rfl, ?_⟩⟩
      have e2 : decide (lo ≤ i ∧ ∀ j', some j = some j' → i ≤ j') = decide (i ≤ j) := by
        by_cases h : i ≤ j
        · rw [decide_eq_true h, decide_eq_true]
          exact ⟨e1, fun j' e => by cases e; exact h⟩
        · rw [decide_eq_false h, decide_eq_false]
          exact fun z => h (z.2 j rfl)
      rw [e2] at q
      exact q
  · have e1 : ¬ lo ≤ i := fun h => e (decide_eq_true h)
    rw [decide_eq_false fun z => e1 z.1] at q
    exact q
end
end My

set_option exponentiation.threshold 100000
namespace My
open PySem PySem.Spec PyProof.Rows L2 Pre
section
variable {P : Program} {w : World} {K : PySem.W.Frag} {mg : Str → Option Value} {base : Heap}
/-! ### the law's draws -/
/-- a generator: its count is at most n -/
def GenAt (H : Hp) (g : Addr) (n : Nat) : Prop := ∃ x y z : Int, H g = some (.lst [.int x, .int y, .int z]) ∧ 0 ≤ z ∧ z ≤ (n : Int)
/-- all but one thing stand as they stood -/
def But (g : Addr) (H H' : Hp) : Prop := ∀ b o, b ≠ g → H b = some o → H' b = some o
theorem But.refl {g : Addr} {H : Hp} : But g H H := fun _ _ _ h => h
theorem But.trans {g : Addr} {H H1 H2 : Hp} (a : But g H H1) (b : But g H1 H2) : But g H H2 := fun c o n h => b c o n (a c o n h)
theorem But.same {g : Addr} {H H1 H2 : Hp} (a : But g H H1) (b : Same H1 H2) : But g H H2 := fun c o n h => b c o (a c o n h)
theorem But.of {g : Addr} {H H1 : Hp} (b : Same H H1) : But g H H1 := fun c o _ h => b c o h
theorem But.upd {g : Addr} {H H1 : Hp} {o : HO} (a : But g H H1) : But g H (upd H1 g o) := fun c u n h => by
  rw [upd_ne n]
  exact a c u n h
theorem But.free {g : Addr} {H H1 : Hp} (a : But g H H1) {p : Addr} (n : p ≠ g) (h : H1 p = none) : H p = none := by
  cases e : H p with
  | none => rfl
  | some o => rw [a p o n e] at h; cases h
/-- what is changed was not there at first -/
theorem But.fresh {g : Addr} {H H1 H2 : Hp} (s : Same H H1) (n : H g = none) (b : But g H1 H2) : Same H H2 := fun c o h => b c o (ne_of_none h n) (s c o h)
theorem GenAt.mono {H : Hp} {g : Addr} {n m : Nat} (h : GenAt H g n) (l : n ≤ m) : GenAt H g m := by
  obtain ⟨x, y, z, a, b, c⟩ := h
  exact ⟨x, y, z, a, b, by omega⟩
theorem GenAt.same {H H' : Hp} {g : Addr} {n : Nat} (h : GenAt H g n) (s : Same H H') : GenAt H' g n := by
  obtain ⟨x, y, z, a, b⟩ := h
  exact ⟨x, y, z, s _ _ a, b⟩
theorem GenAt.ne {H : Hp} {g : Addr} {n : Nat} {p : Addr} (h : GenAt H g n) (np : H p = none) : p ≠ g := by
  obtain ⟨x, y, z, a, _⟩ := h
  exact (ne_of_none a np).symm
theorem small_2900 {b : Int} (h : b ≤ 2 ^ 60) : b < 2 ^ 2900 := by omega
theorem pow_pos' (w : Nat) : (0 : Int) < 2 ^ w := Int.pow_pos (by decide)
theorem pow2_le {k m : Nat} (h : k ≤ m) : (2 : Int) ^ k ≤ 2 ^ m := by
  have e := Nat.pow_le_pow_right (show 0 < 2 by decide) h
  have e2 : ((2 ^ k : Nat) : Int) ≤ ((2 ^ m : Nat) : Int) := Int.ofNat_le.mpr e
  rw [Int.natCast_pow, Int.natCast_pow] at e2
  exact e2
def sp_law_cell (K : PySem.W.Frag) : Sp := fun vs H Q _ => ∃ (a : Addr) (ns : List Int) (i : Nat), vs = [.ref a, .int i] ∧ SqL K H a (ns.map V.int) ∧ ∀ (n : Int) H', Same H H' → Q (.int n) H'
theorem G_law_cell (T : Top K mg) : FnOk P w K mg base CX0 1 T.f_law_cell T.fd_law_cell ["_law_script", "_law_index"] (sp_law_cell K) := by
  refine T.F_law_cell.ok sc_law_cell (fun vs H Q E h => by obtain ⟨a, ns, i, rfl, _⟩ := h; rfl) (fun cdv A outer s H vs Q E hr h => ?_)
  obtain ⟨a, ns, i, rfl, hS, q⟩ := h
  refine ⟨_, PSs.nox (pss_cons (ps_if (pt_cmpR op_lt (pv 1) (pe_callB (k_len K rfl) (by rfl) T.n_len (by decide +kernel) (pa_cons (pv 0) pa_nil)) (nomark _))
    (pss_one (ps_ret (pe_ix (k_ixL K rfl) (pv 0) (pv 1) (fun _ _ => rfl))))
    pss_nil)
  (pss_one (ps_ret (pe_op op_mod (pe_callB (k_sum K rfl rfl) (by rfl) T.n_sum (by decide +kernel) (pa_cons (pe_slice (k_slL K rfl) (pv 0) po_none (po_some pe_int)) pa_nil)) pe_int)))), ?_⟩
  refine ⟨_, rfl, _, rfl, a, _, rfl, .inl hS, _, _, rfl, rfl, _, rfl, ite2 (fun e => ?_) (fun e => ?_)⟩
  · have e1 : (i : Int) < (((ns.map V.int).length : Nat) : Int) := of_decide_eq_true e
    rw [List.length_map] at e1
    have hi : i < ns.length := by omega
    refine ⟨_, rfl, _, rfl, a, _, _, .int ns[i], rfl, rfl, hS, atI_nat (by rw [List.getElem?_map, List.getElem?_eq_getElem hi]; rfl), ?_⟩
    exact q _ _ (Same.refl _)
  · refine ⟨_, rfl, _, rfl, a, _, rfl, hS, fun p np => ?_⟩
    have ec : ∃ ms : List Int, cutV (ns.map V.int) none (some 1) = ms.map V.int := by
      unfold cutV
      exact ⟨(ns.drop (HT.sIx (ns.map V.int).length 0 none)).take (HT.sIx (ns.map V.int).length (ns.map V.int).length (some 1) - HT.sIx (ns.map V.int).length 0 none), by rw [List.map_take, List.map_drop]⟩
    obtain ⟨ms, em⟩ := ec
    refine ⟨p, ms, rfl, .inl (.inl (by rw [upd_same, em])), _, _, rfl, rfl, (by show (0 : Int) < 1000003; decide), ?_⟩
    exact q _ _ (same_upd np)
theorem cmul_mod (x m j : Int) (h0 : 0 < m) (h1 : m ≤ 2 ^ 60) : CMul (x % m) j := by
  have a := Int.emod_nonneg x (show m ≠ 0 by omega)
  have b := Int.emod_lt_of_pos x h0
  exact .inl ⟨by omega, by omega⟩
def sp_law_hash : Sp := fun vs H Q _ => ∃ i j : Int, vs = [.int i, .int j] ∧ 0 ≤ j ∧ j < 2 ^ 60 ∧ ∀ n : Int, Q (.int n) H
theorem G_law_hash (T : Top K mg) : FnOk P w K mg base CX0 1 T.f_law_hash T.fd_law_hash ["_law_seed", "_law_index"] sp_law_hash := by
  refine T.F_law_hash.ok sc_law_hash (fun vs H Q E h => by obtain ⟨i, j, rfl, _⟩ := h; rfl) (fun cdv A outer s H vs Q E hr h => ?_)
  obtain ⟨i, j, rfl, h0, h1, q⟩ := h
  refine ⟨_, PSs.nox (pss_cons (ps_set (i := 2) sc_law_hash.nd rfl (by first | exact Or.inl rfl | exact Or.inr rfl) (pe_op op_mod (pe_callTy call_int1 (by rfl) T.n_int (by decide +kernel) (pa_cons (pe_op op_add (pe_op op_add (pe_op op_add (pe_op op_mul (pv 0) pe_int) (pe_op op_mul (pe_op op_mul pe_int (pv 1)) (pv 1))) (pe_op op_mul pe_int (pv 1))) pe_int) pa_nil)) pe_int))
  (pss_cons (ps_set (i := 2) sc_law_hash.nd rfl (by first | exact Or.inl rfl | exact Or.inr rfl) (pe_op op_mod (pe_callTy call_int1 (by rfl) T.n_int (by decide +kernel) (pa_cons (pe_op op_add (pe_op op_add (pe_op op_mul (pv 2) (pv 2)) (pe_op op_mul pe_int (pv 1))) pe_int) pa_nil)) pe_int))
  (pss_one (ps_ret (pe_op op_mod (pe_callTy call_int1 (by rfl) T.n_int (by decide +kernel) (pa_cons (pe_op op_mul (pv 2) pe_int) pa_nil)) pe_int))))), ?_⟩
  refine ⟨_, rfl, _, _, rfl, rfl, .inr ⟨by decide, by decide⟩, _, rfl, _, _, rfl, rfl, .inl ⟨by decide, by decide⟩, _, rfl, _, _, rfl, rfl, .inr ⟨by omega, by omega⟩, _, _, rfl, rfl, _, rfl, _, _, rfl, rfl, .inl ⟨by decide, by decide⟩, _, _, rfl, rfl, _, _, rfl, rfl,
    .inl ⟨_, rfl, _, _, rfl, rfl, (by show (0 : Int) < _; decide), ?_⟩⟩
  refine ⟨_, rfl, _, rfl, _, _, rfl, rfl, cmul_mod _ _ _ (by decide) (by decide), _, rfl, _, _, rfl, rfl, .inl ⟨by decide, by decide⟩, _, _, rfl, rfl, _, _, rfl, rfl, .inl ⟨_, rfl, _, _, rfl, rfl, (by show (0 : Int) < _; decide), ?_⟩⟩
  refine ⟨_, rfl, _, _, rfl, rfl, .inr ⟨by decide, by decide⟩, .inl ⟨_, rfl, _, _, rfl, rfl, (by show (0 : Int) < _; decide), ?_⟩⟩
  exact q _

def sp_law_generator (K : PySem.W.Frag) : Sp := fun vs H Q _ => ∃ (a : Addr) (ns : List Int) (i : Nat), vs = [.ref a, .int i] ∧ SqL K H a (ns.map V.int) ∧ ∀ H' g, Same H H' → H g = none → GenAt H' g (1000 * i) → Q (.ref g) H'
theorem G_law_generator (T : Top K mg) : FnOk P w K mg base CX0 2 T.f_law_generator T.fd_law_generator ["_law_script", "_law_index"] (sp_law_generator K) := by
  refine T.F_law_generator.ok sc_law_generator (fun vs H Q E h => by obtain ⟨a, ns, i, rfl, _⟩ := h; rfl) (fun cdv A outer s H vs Q E hr h => ?_)
  obtain ⟨a, ns, i, rfl, hS, q⟩ := h
  refine ⟨_, PSs.nox (pss_cons (ps_set (i := 2) sc_law_generator.nd rfl (by first | exact Or.inl rfl | exact Or.inr rfl) (pe_call (G_law_cell T) (hr.mono (by decide)) (by rfl) T.g_law_cell T.F_law_cell.kp T.b_law_cell .nil pass0 (pa_cons (pv 0) (pa_cons (pv 1) pa_nil))))
  (pss_one (ps_ret (pe_lst (pa_cons (pe_op op_mod (pe_callTy call_int1 (by rfl) T.n_int (by decide +kernel) (pa_cons (pe_callB (call_max2 rfl) (by rfl) T.n_max (by decide +kernel) (pa_cons (pe_op op_sub (pv 2) (pe_op op_powW pe_int pe_int)) (pa_cons pe_int pa_nil))) pa_nil)) (pe_op op_powW (pe_op op_powW pe_int pe_int) pe_int)) (pa_cons (pe_op op_mod (pe_callTy call_int1 (by rfl) T.n_int (by decide +kernel) (pa_cons (pv 2) pa_nil)) pe_int) (pa_cons (pe_op op_mul pe_int (pv 1)) pa_nil))))))), ?_⟩
  refine ⟨_, rfl, _, rfl, a, ns, i, rfl, hS, fun n H1 s1 => ?_⟩
  refine ⟨_, rfl, _, _, rfl, rfl, ⟨by decide, by decide +kernel⟩, _, _, rfl, rfl, _, _, rfl, .inl ⟨_, rfl, _, _, rfl, rfl, ⟨by decide, by decide +kernel⟩, _, _, rfl, rfl, ⟨by decide, by decide +kernel⟩, _, _, rfl, rfl, (by show (0 : Int) < _; decide +kernel), ?_⟩⟩
  refine ⟨_, rfl, .inl ⟨_, rfl, _, _, rfl, rfl, (by show (0 : Int) < _; decide), ?_⟩⟩
  refine ⟨_, rfl, _, _, rfl, rfl, .inl ⟨by decide, by decide⟩, (show 3 ≤ sizeLine by decide), fun g ng => ?_⟩
  exact q _ g (s1.trans (same_upd ng)) (s1.free ng) ⟨_, _, _, upd_same, by omega, by omega⟩
def sp_law_random : Sp := fun vs H Q _ => ∃ (g : Addr) (b : Int) (n : Nat), vs = [.ref g, .int b] ∧ GenAt H g n ∧ n ≤ 10 ^ 12 ∧ 0 < b ∧ b < 2 ^ 2900 ∧ ∀ (d : Int) H', 0 ≤ d → d < b → GenAt H' g (n + 100) → But g H H' → Q (.int d) H'
theorem G_law_random (T : Top K mg) : FnOk P w K mg base CX0 2 T.f_law_random T.fd_law_random ["_law_generator_here", "_law_bound"] sp_law_random := by
  refine T.F_law_random.ok sc_law_random (fun vs H Q E h => by obtain ⟨g, b, n, rfl, _⟩ := h; rfl) (fun cdv A outer s H vs Q E hr h => ?_)
  obtain ⟨g, b, n, rfl, ⟨x, y, z, hg, z0, z1⟩, hn, b0, b1, q⟩ := h
  refine ⟨_, PSs.nox (pss_cons (ps_if (pt_cmpR op_gt (pe_ix (k_ixL K rfl) (pv 0) pe_int (fun _ _ => rfl)) pe_int (nomark _))
    (pss_cons (ps_set (i := 2) sc_law_random.nd rfl (by first | exact Or.inl rfl | exact Or.inr rfl) (pe_op op_mod (pe_callTy call_int1 (by rfl) T.n_int (by decide +kernel) (pa_cons (pe_ix (k_ixL K rfl) (pv 0) pe_int (fun _ _ => rfl)) pa_nil)) (pv 1)))
  (pss_cons (ps_asg (pe_op op_fdivW (pe_ix (k_ixL K rfl) (pv 0) pe_int (fun _ _ => rfl)) (pv 1)) (pg_sub (pv 0) pe_int set_list))
  (pss_one (ps_ret (pv 2)))))
    pss_nil)
  (pss_cons (ps_set (i := 2) sc_law_random.nd rfl (by first | exact Or.inl rfl | exact Or.inr rfl) pe_int)
  (pss_cons (ps_for PassesOwn.never rfl (pi_range1 (by rfl) T.n_range (pa_cons (pe_op op_add pe_int (pe_op op_fdivW (pe_bits (pv 1)) pe_int)) pa_nil)) (pg_name (i := 3) sc_law_random.nd rfl (by first | exact Or.inl rfl | exact Or.inr rfl))
    (pss_cons (ps_asg (pe_op op_add (pe_ix (k_ixL K rfl) (pv 0) pe_int (fun _ _ => rfl)) pe_int) (pg_sub (pv 0) pe_int set_list))
  (pss_one (ps_set (i := 2) sc_law_random.nd rfl (by first | exact Or.inl rfl | exact Or.inr rfl) (pe_op op_add (pe_op op_mul (pv 2) pe_int) (pe_call (G_law_hash T) (hr.mono (by decide)) (by rfl) T.g_law_hash T.F_law_hash.kp T.b_law_hash .nil pass0 (pa_cons (pe_ix (k_ixL K rfl) (pv 0) pe_int (fun _ _ => rfl)) (pa_cons (pe_ix (k_ixL K rfl) (pv 0) pe_int (fun _ _ => rfl)) pa_nil))))))))
  (pss_one (ps_ret (pe_op op_mod (pe_callTy call_int1 (by rfl) T.n_int (by decide +kernel) (pa_cons (pv 2) pa_nil)) (pv 1))))))), ?_⟩
  have a0 : ∀ x y z : Int, atI [V.int x, .int y, .int z] 0 = some (.int x) := fun _ _ _ => rfl
  have a1 : ∀ x y z : Int, atI [V.int x, .int y, .int z] 1 = some (.int y) := fun _ _ _ => rfl
  have a2 : ∀ x y z : Int, atI [V.int x, .int y, .int z] 2 = some (.int z) := fun _ _ _ => rfl
  have hS : SqL K H g [.int x, .int y, .int z] := .inl (.inl hg)
  have nb : b.natAbs < 2 ^ 2900 := by
    have e : ((b.natAbs : Nat) : Int) < ((2 ^ 2900 : Nat) : Int) := by
      rw [Int.natCast_pow]
      omega
    exact Int.ofNat_lt.mp e
  refine ⟨_, rfl, g, _, 0, _, rfl, rfl, hS, a0 x y z, _, _, rfl, rfl, _, rfl, ite2 (fun e => ?_) (fun e => ?_)⟩
  · refine ⟨_, rfl, g, _, 0, _, rfl, rfl, hS, a0 x y z, .inl ⟨_, rfl, _, rfl, _, _, rfl, rfl, b0, ?_⟩⟩
    refine ⟨_, rfl, g, _, 0, _, rfl, rfl, hS, a0 x y z, _, rfl, _, _, rfl, rfl, wide_div b0 nb (by decide) (by decide), _, rfl, g, _, 0, 0, rfl, rfl, hg, rfl, _, rfl, ?_⟩
    exact q _ _ (Int.emod_nonneg _ (by omega)) (Int.emod_lt_of_pos _ b0) ⟨_, _, _, upd_same, z0, by omega⟩ (But.upd But.refl)
  · have hb : Builtin.Int.intBits b ≤ 2900 := PyProof.Rows.intBits_le nb
    have hq0 : (0 : Int) ≤ ((Builtin.Int.intBits b : Nat) : Int) / 30 := Int.ediv_nonneg (Int.natCast_nonneg _) (by decide)
    have hq1 : ((Builtin.Int.intBits b : Nat) : Int) / 30 ≤ 97 := by omega
    refine ⟨_, rfl, _, rfl, _, _, rfl, rfl, ⟨by decide, by decide +kernel⟩, _, _, rfl, rfl, _, rfl, by omega, by omega, ?_⟩
    refine for_range (lo := 0) (n := (1 + ((Builtin.Int.intBits b : Nat) : Int) / 30).toNat) (fun i σ H1 => ∃ (d z' : Int) (v : Option V), σ = [some (.ref g), some (.int b), some (.int d), v] ∧ H1 g = some (.lst [.int x, .int y, .int z']) ∧ 0 ≤ z' ∧ z' ≤ (n : Int) + (i : Int) ∧ But g H H1)
      ⟨0, z, none, rfl, hg, z0, by omega, But.refl⟩ ?_ ?_
    · rintro i σ H1 hi ⟨d, z', v, rfl, hg1, y0, y1, b1⟩
      have hS1 : SqL K H1 g [.int x, .int y, .int z'] := .inl (.inl hg1)
      refine ⟨_, rfl, g, _, 2, _, rfl, rfl, hS1, a2 x y z', _, _, rfl, rfl, _, rfl, g, _, 2, 2, rfl, rfl, hg1, rfl, ?_⟩
      have hS2 : SqL K (upd H1 g (.lst [.int x, .int y, .int (z' + 1)])) g [.int x, .int y, .int (z' + 1)] := .inl (.inl upd_same)
      refine ⟨_, rfl, _, _, rfl, rfl, .inr ⟨by decide, by decide⟩, _, rfl, g, _, 1, _, rfl, rfl, hS2, a1 _ _ _, _, rfl, g, _, 2, _, rfl, rfl, hS2, a2 _ _ _, _, _, rfl, by omega, by omega, fun r => ?_⟩
      exact ⟨_, _, rfl, rfl, _, z' + 1, _, rfl, upd_same, by omega, by omega, But.upd b1⟩
    · rintro σ H1 ⟨d, z', v, rfl, hg1, y0, y1, b1⟩
      refine ⟨_, rfl, .inl ⟨_, rfl, _, rfl, _, _, rfl, rfl, b0, ?_⟩⟩
      exact q _ _ (Int.emod_nonneg _ (by omega)) (Int.emod_lt_of_pos _ b0) ⟨_, _, _, hg1, y0, by omega⟩ b1
/-- a comprehension over a range that draws whole numbers -/
theorem lc_drawR {lo : Int} {n : Nat} {j : Nat} {te : TE} {vs : List Nat} {σ : L2.St} {H1 : Hp} {D : Addr} {Qd : Hp → Prop} (g : Addr) (m step : Nat) (P : Int → Prop) (nD : H1 D = none) (hG : GenAt H1 g m) (hz : n < sizeLine)
    (hw : ∀ x, wipe ((wipe σ vs).set j (some x)) vs = wipe σ vs)
    (hs : ∀ (i : Nat) (H' : Hp), i < n → But g H1 H' → GenAt H' g (m + step * i) → ∀ Qt : V → Hp → Prop, (∀ (y : Int) H'', P y → But g H' H'' → GenAt H'' g (m + step * (i + 1)) → Qt (.int y) H'') → te ((wipe σ vs).set j (some (.int (lo + (i : Int))))) H' Qt)
    (hd : ∀ H' (ys : List Int), But g H1 H' → GenAt H' g (m + step * n) → H' D = some (.lst (ys.map V.int)) → ys.length = n → (∀ y ∈ ys, P y) → Qd H') :
    ∃ W : Nat → Nat → Hp → Prop, (∃ m, W 0 m (upd H1 D (.lst []))) ∧ ∀ i m H, W i m H →
      ((Itr lo n).stop i H ∧ Qd H) ∨ ((Itr lo n).go i H ∧ ∃ Nx : Hp → Prop, (∀ H', Nx H' → ∃ m', m' < m ∧ W (i + 1) m' H') ∧ ∀ x H', (Itr lo n).yld i H x H' → gName j x (wipe σ vs) H' fun σ2 H2 => wipe σ2 vs = wipe σ vs ∧ tYes σ2 H2 fun b H3 =>
        if b = true then te σ2 H3 fun y H4 => ∃ acc, H4 D = some (.lst acc) ∧ acc.length < sizeLine ∧ Nx (upd H4 D (.lst (acc ++ [y]))) else Nx H3) := by
  have nDg : D ≠ g := hG.ne nD
  refine lc_range (lo := lo) (n := n) (fun i H => ∃ ys : List Int, But g H1 H ∧ GenAt H g (m + step * i) ∧ H D = some (.lst (ys.map V.int)) ∧ ys.length = i ∧ ∀ y ∈ ys, P y)
    ⟨[], But.of (same_upd nD), hG.same (same_upd nD), upd_same, rfl, (fun _ h => nomatch h)⟩ ?_ ?_
  · rintro i H hi ⟨ys, b, hg, hD, hl, hP⟩
    refine ⟨hw _, ?_⟩
    unfold tYes
    dsimp only
    rw [if_pos (show true = true from rfl)]
    refine hs i H hi b hg _ fun y H2 py b2 hg2 => ?_
    refine ⟨_, b2 _ _ nDg hD, by rw [List.length_map]; omega, ys ++ [y], ?_, ?_, ?_, ?_, ?_⟩
    · intro c o nc hc
      rw [upd_ne (ne_of_none hc nD)]
      exact b2 _ _ nc (b _ _ nc hc)
    · obtain ⟨x1, x2, x3, e1, e2⟩ := hg2
      exact ⟨x1, x2, x3, by rw [upd_ne nDg.symm]; exact e1, e2⟩
    · rw [upd_same, List.map_append]
      rfl
    · rw [List.length_append, hl]
      rfl
    · intro z hz
      rcases List.mem_append.mp hz with hz | hz
      · exact hP z hz
      · rw [List.mem_singleton.mp hz]
        exact py
  · rintro H ⟨ys, b, hg, hD, hl, hP⟩
    exact hd H ys b hg hD hl hP
end
end My

namespace My
open PySem PySem.Spec PyProof.Rows L2 Pre
/-! ### min and max of a list of pairs of whole numbers -/
def pairD (p : Int × Int) : PyData := .tuple [.int p.1, .int p.2]
def ltP2 (p q : Int × Int) : Prop := p.1 < q.1 ∨ (p.1 = q.1 ∧ p.2 < q.2)
instance (p q : Int × Int) : Decidable (ltP2 p q) := by unfold ltP2; infer_instance
theorem pair_lt (p q : Int × Int) : PySem.W.dataLt (pairD p) (pairD q) = decide (ltP2 p q) := PySem.W.dataLt_ii p.1 p.2 q.1 q.2
theorem ltP2_trans {p q r : Int × Int} (h : ¬ ltP2 q p) (k : ¬ ltP2 r q) : ¬ ltP2 r p := by
  unfold ltP2 at *
  omega
def minP (p : Int × Int) (ps : List (Int × Int)) : Int × Int := ps.foldl (fun a y => if ltP2 y a then y else a) p
def maxP (p : Int × Int) (ps : List (Int × Int)) : Int × Int := ps.foldl (fun a y => if ltP2 a y then y else a) p
theorem minP_data : ∀ (ps : List (Int × Int)) (p : Int × Int), PySem.W.minD (pairD p) (ps.map pairD) = pairD (minP p ps)
  | [], _ => rfl
  | q :: ps, p => by
    show PySem.W.minD (if PySem.W.dataLt (pairD q) (pairD p) = true then pairD q else pairD p) (ps.map pairD) = pairD (minP (if ltP2 q p then q else p) ps)
    rw [pair_lt]
    by_cases h : ltP2 q p
    · rw [decide_eq_true h, if_pos rfl, if_pos h, minP_data ps q]
    · rw [decide_eq_false h, if_neg (by decide), if_neg h, minP_data ps p]
theorem maxP_data : ∀ (ps : List (Int × Int)) (p : Int × Int), PySem.W.maxD (pairD p) (ps.map pairD) = pairD (maxP p ps)
  | [], _ => rfl
  | q :: ps, p => by
    show PySem.W.maxD (if PySem.W.dataLt (pairD p) (pairD q) = true then pairD q else pairD p) (ps.map pairD) = pairD (maxP (if ltP2 p q then q else p) ps)
    rw [pair_lt]
    by_cases h : ltP2 p q
    · rw [decide_eq_true h, if_pos rfl, if_pos h, maxP_data ps q]
    · rw [decide_eq_false h, if_neg (by decide), if_neg h, maxP_data ps p]
theorem minP_spec : ∀ (ps : List (Int × Int)) (p : Int × Int), minP p ps ∈ p :: ps ∧ ∀ q ∈ p :: ps, ¬ ltP2 q (minP p ps)
  | [], p => ⟨List.mem_cons_self, fun q hq => by
      rw [List.mem_singleton.mp hq]
      show ¬ ltP2 p p
      unfold ltP2
      omega⟩
  | r :: ps, p => by
    show minP (if ltP2 r p then r else p) ps ∈ _ ∧ ∀ q ∈ p :: r :: ps, ¬ ltP2 q (minP (if ltP2 r p then r else p) ps)
    by_cases h : ltP2 r p
    · rw [if_pos h]
      obtain ⟨h1, h2⟩ := minP_spec ps r
      refine ⟨List.mem_cons_of_mem _ h1, fun q hq => ?_⟩
      rcases List.mem_cons.mp hq with rfl | hq
      · have := h2 r List.mem_cons_self
        exact fun z => this (by unfold ltP2 at *; omega)
      · exact h2 q hq
    · rw [if_neg h]
      obtain ⟨h1, h2⟩ := minP_spec ps p
      refine ⟨?_, fun q hq => ?_⟩
      · rcases List.mem_cons.mp h1 with e | e
        · rw [e]; exact List.mem_cons_self
        · exact List.mem_cons_of_mem _ (List.mem_cons_of_mem _ e)
      · rcases List.mem_cons.mp hq with rfl | hq
        · exact h2 q List.mem_cons_self
        · rcases List.mem_cons.mp hq with rfl | hq
          · have := h2 p List.mem_cons_self
            exact fun z => this (by unfold ltP2 at *; omega)
          · exact h2 q (List.mem_cons_of_mem _ hq)
theorem maxP_spec : ∀ (ps : List (Int × Int)) (p : Int × Int), maxP p ps ∈ p :: ps ∧ ∀ q ∈ p :: ps, ¬ ltP2 (maxP p ps) q
  | [], p => ⟨List.mem_cons_self, fun q hq => by
      rw [List.mem_singleton.mp hq]
      show ¬ ltP2 p p
      unfold ltP2
      omega⟩
  | r :: ps, p => by
    show maxP (if ltP2 p r then r else p) ps ∈ _ ∧ ∀ q ∈ p :: r :: ps, ¬ ltP2 (maxP (if ltP2 p r then r else p) ps) q
    by_cases h : ltP2 p r
    · rw [if_pos h]
      obtain ⟨h1, h2⟩ := maxP_spec ps r
      refine ⟨List.mem_cons_of_mem _ h1, fun q hq => ?_⟩
      rcases List.mem_cons.mp hq with rfl | hq
      · have := h2 r List.mem_cons_self
        exact fun z => this (by unfold ltP2 at *; omega)
      · exact h2 q hq
    · rw [if_neg h]
      obtain ⟨h1, h2⟩ := maxP_spec ps p
      refine ⟨?_, fun q hq => ?_⟩
      · rcases List.mem_cons.mp h1 with e | e
        · rw [e]; exact List.mem_cons_self
        · exact List.mem_cons_of_mem _ (List.mem_cons_of_mem _ e)
      · rcases List.mem_cons.mp hq with rfl | hq
        · exact h2 q List.mem_cons_self
        · rcases List.mem_cons.mp hq with rfl | hq
          · have := h2 p List.mem_cons_self
            exact fun z => this (by unfold ltP2 at *; omega)
          · exact h2 q (List.mem_cons_of_mem _ hq)
theorem pairs_alike (ps : List (Int × Int)) : PySem.W.AlikeAll (ps.map pairD) := by
  refine ⟨fun x hx y hy => ?_, fun x hx => ?_⟩
  · obtain ⟨p, _, rfl⟩ := List.mem_map.mp hx
    obtain ⟨q, _, rfl⟩ := List.mem_map.mp hy
    rfl
  · obtain ⟨p, _, rfl⟩ := List.mem_map.mp hx
    exact fun z => nomatch z
theorem pairs_lay : ∀ ps : List (Int × Int), PyData.canLayAll0 (ps.map pairD) = true
  | [] => rfl
  | p :: ps => by simp [PyData.canLayAll0, PyData.canLay0, pairD, pairs_lay ps]
theorem pairs_depth : ∀ ps : List (Int × Int), PyData.depthAll (ps.map pairD) ≤ 2
  | [] => by simp [PyData.depthAll]
  | p :: ps => by
    have := pairs_depth ps
    simp only [List.map_cons, PyData.depthAll, pairD, PyData.depth]
    omega
/-- a list of pairs, at a -/
def PairsAt (K : PySem.W.Frag) (H : Hp) (a : Addr) (ps : List (Int × Int)) : Prop := ∃ as : List Addr, SqL K H a (as.map V.ref) ∧ as.length = ps.length ∧ ∀ (i : Nat) (t : Addr) (p : Int × Int), as[i]? = some t → ps[i]? = some p → SqT K H t [.int p.1, .int p.2]
theorem pairs_dp {K : PySem.W.Frag} {H : Hp} : ∀ {as : List Addr} {ps : List (Int × Int)}, as.length = ps.length → (∀ (i : Nat) (t : Addr) (p : Int × Int), as[i]? = some t → ps[i]? = some p → SqT K H t [.int p.1, .int p.2]) → DpAll K H (as.map V.ref) (ps.map pairD)
  | [], [], _, _ => .nil
  | [], _ :: _, h, _ => by simp at h
  | _ :: _, [], h, _ => by simp at h
  | a :: as, p :: ps, h, k => .cons (.tup (k 0 a p rfl rfl) (.cons (.int _) (.cons (.int _) .nil))) (pairs_dp (by simpa using h) fun i t q ht hq => k (i + 1) t q (by simpa using ht) (by simpa using hq))
def rMnP (K : PySem.W.Frag) (best : Int × Int → List (Int × Int) → Int × Int) : List V → Hp → VK → Prop := fun xs H Q => ∃ (a : Addr) (p : Int × Int) (ps : List (Int × Int)), xs = [.ref a] ∧ PairsAt K H a (p :: ps) ∧ ∀ t, SqT K H t [.int (best p ps).1, .int (best p ps).2] → Q (.ref t) H
section
variable {X : Cx} {K : PySem.W.Frag}
theorem pick {H : Hp} {s : Shared} {as : List Addr} {ps : List (Int × Int)} {its : List Value} {i : Nat} {v : Value} {h' : Heap} {bs cs : List Addr} {b : Int × Int} (hl : as.length = ps.length)
    (hT : ∀ (i : Nat) (t : Addr) (p : Int × Int), as[i]? = some t → ps[i]? = some p → SqT K H t [.int p.1, .int p.2]) (rv : Vals (as.map V.ref) its) (hr : ReadsAll s.heap its (ps.map pairD) cs) (hv : its.toArray[i]? = some v) (rd : Reads h' v (pairD b) bs)
    (hk : ∀ b o, s.heap.get? b = some o → h'.get? b = some o) : ∃ t, v = .ref t ∧ SqT K H t [.int b.1, .int b.2] := by
  have hv' : its[i]? = some v := by simpa using hv
  have hil : i < its.length := (List.getElem?_eq_some_iff.mp hv').1
  have hvl := rv.length
  rw [List.length_map] at hvl
  obtain ⟨u, hu, ru⟩ := rv.get (show (as.map V.ref)[i]? = some (.ref (as[i]'(by omega))) by rw [List.getElem?_map, List.getElem?_eq_getElem (by omega)]; rfl)
  rw [hv'] at hu
  cases hu
  have hp : ps[i]? = some (ps[i]'(by omega)) := List.getElem?_eq_getElem (by omega)
  obtain ⟨ds, r1, _, _, _⟩ := PySem.W.readsAll_at hr i v hv'
  have e1 : (ps.map pairD).getD i .none = pairD (ps[i]'(by omega)) := by
    rw [List.getD_eq_getElem?_getD, List.getElem?_map, hp]
    rfl
  rw [e1] at r1
  have e2 := PySem.SeqAt.Reads.unique (pairD b) _ v _ _ (by simp [pairD, PyData.canLay0, PyData.canLayAll0]) rd (Reads.keeps hk r1)
  have e3 : b = ps[i]'(by omega) := by
    unfold pairD at e2
    injection e2 with e2
    injection e2 with e4 e5
    injection e5 with e5 _
    injection e4 with e4
    injection e5 with e5
    exact Prod.ext e4 e5
  refine ⟨as[i]'(by omega), ru, ?_⟩
  rw [e3]
  exact hT i _ _ (List.getElem?_eq_getElem (by omega)) hp
theorem k_minP (K : PySem.W.Frag) (h : X.K = K) (hc : X.calm = true) (hu : X.A.units + 65 < cLine) : CallR X (.builtin "min") (rMnP K minP) := by
  subst h
  intro pins s σ H xs us Q I r h
  obtain ⟨a, p, ps, rfl, ⟨as, hS, hl, hT⟩, q⟩ := h
  obtain ⟨its, rv, hL, _⟩ := I.list hS
  rw [Vals.ref1 r]
  obtain ⟨cs, hr⟩ := Dp.readsAll I _ _ its (pairs_dp hl hT) rv
  have hd := pairs_depth (p :: ps)
  refine PySem.W.min_list_data (I.ok.hd hc) hL.isList (show ReadsAll s.heap its.toArray.toList (pairD p :: ps.map pairD) cs by simpa using hr) (pairs_alike (p :: ps)) (by rw [List.map_cons] at hd; omega) fun i v h' tk bs hv rd hk => ?_
  rw [minP_data] at rd
  obtain ⟨t, rfl, ht⟩ := pick hl hT rv hr hv rd hk
  exact ⟨.ref t, H, I.kept hk, rfl, q t ht⟩
theorem k_maxP (K : PySem.W.Frag) (h : X.K = K) (hc : X.calm = true) (hu : X.A.units + 65 < cLine) : CallR X (.builtin "max") (rMnP K maxP) := by
  subst h
  intro pins s σ H xs us Q I r h
  obtain ⟨a, p, ps, rfl, ⟨as, hS, hl, hT⟩, q⟩ := h
  obtain ⟨its, rv, hL, _⟩ := I.list hS
  rw [Vals.ref1 r]
  obtain ⟨cs, hr⟩ := Dp.readsAll I _ _ its (pairs_dp hl hT) rv
  have hd := pairs_depth (p :: ps)
  refine PySem.W.max_list_data (I.ok.hd hc) hL.isList (show ReadsAll s.heap its.toArray.toList (pairD p :: ps.map pairD) cs by simpa using hr) (pairs_alike (p :: ps)) (by rw [List.map_cons] at hd; omega) fun i v h' tk bs hv rd hk => ?_
  rw [maxP_data] at rd
  obtain ⟨t, rfl, ht⟩ := pick hl hT rv hr hv rd hk
  exact ⟨.ref t, H, I.kept hk, rfl, q t ht⟩
theorem huM {k : Nat} {A : Around} (r : Room k A) : A.units + 65 < cLine := by have := r.un; omega
end
end My

namespace My
open PySem PySem.Spec PyProof.Rows L2 Pre
/-- a comprehension over a list that makes new things: R tells what is known of the i-th -/
theorem lc_relL {K : PySem.W.Frag} {a : Addr} {xs : List V} {j : Nat} {te : TE} {vs : List Nat} {σ : L2.St} {H1 : Hp} {D : Addr} {Qd : Hp → Prop} (R : Nat → V → Hp → Prop) (nD : H1 D = none) (hS : SqL K H1 a xs) (hz : xs.length < sizeLine)
    (mono : ∀ (i : Nat) (y : V) (H H' : Hp), Pre.Off D H H' → R i y H → R i y H') (hw : ∀ x, wipe ((wipe σ vs).set j (some x)) vs = wipe σ vs)
    (hs : ∀ (i : Nat) (x : V) (H' : Hp) (zs : List V), xs[i]? = some x → Same H1 H' → H' D = some (.lst zs) → ∀ Qt : V → Hp → Prop, (∀ y H'', Same H' H'' → R i y H'' → Qt y H'') → te ((wipe σ vs).set j (some x)) H' Qt)
    (hd : ∀ H' ys, Same H1 H' → H' D = some (.lst ys) → ys.length = xs.length → (∀ (i : Nat) (y : V), ys[i]? = some y → R i y H') → Qd H') :
    ∃ W : Nat → Nat → Hp → Prop, (∃ m, W 0 m (upd H1 D (.lst []))) ∧ ∀ i m H, W i m H →
      ((Itl K a).stop i H ∧ Qd H) ∨ ((Itl K a).go i H ∧ ∃ Nx : Hp → Prop, (∀ H', Nx H' → ∃ m', m' < m ∧ W (i + 1) m' H') ∧ ∀ x H', (Itl K a).yld i H x H' → gName j x (wipe σ vs) H' fun σ2 H2 => wipe σ2 vs = wipe σ vs ∧ tYes σ2 H2 fun b H3 =>
        if b = true then te σ2 H3 fun y H4 => ∃ acc, H4 D = some (.lst acc) ∧ acc.length < sizeLine ∧ Nx (upd H4 D (.lst (acc ++ [y]))) else Nx H3) := by
  refine lc_list (K := K) (a := a) (xs := xs) (RelPv R H1 D) ⟨[], same_upd nD, upd_same, rfl, fun k y h => by simp at h⟩ (fun i H _ ⟨_, s, _⟩ => s.seq hS) ?_ ?_
  · rintro i x H hx ⟨ys, s, hD, hl, hR⟩
    have hi : i < xs.length := (List.getElem?_eq_some_iff.mp hx).1
    refine ⟨hw _, ?_⟩
    unfold tYes
    dsimp only
    rw [if_pos (show true = true from rfl)]
    refine hs i x H ys hx s hD _ fun y H4 s4 r4 => ?_
    refine ⟨ys, s4 _ _ hD, by omega, ys ++ [y], same_over nD (s.trans s4), upd_same, by rw [List.length_append, hl]; rfl, fun k z hz => ?_⟩
    have off : Pre.Off D H4 (upd H4 D (.lst (ys ++ [y]))) := fun b o nb h => by rw [upd_ne nb]; exact h
    by_cases hk : k < ys.length
    · rw [List.getElem?_append_left hk] at hz
      exact mono k z H _ (fun b o nb h => off b o nb (s4 b o h)) (hR k z hz)
    · rw [List.getElem?_append_right (by omega)] at hz
      have hk2 : k - ys.length = 0 := by
        have h2 := (List.getElem?_eq_some_iff.mp hz).1
        rw [List.length_singleton] at h2
        omega
      rw [hk2] at hz
      cases hz
      have ek : k = i := by omega
      rw [ek]
      exact mono i y H4 _ off r4
  · rintro H ⟨ys, s, hD, hl, hR⟩
    exact hd H ys s hD hl hR
/-- a list of lists of whole numbers -/
def RowsIn (H : Hp) (p : Addr) (rows : List (List Int)) : Prop := ∃ as : List Addr, H p = some (.lst (as.map V.ref)) ∧ as.length = rows.length ∧ ∀ (i : Nat) (a : Addr) (r : List Int), as[i]? = some a → rows[i]? = some r → H a = some (.lst (r.map V.int))
theorem RowsIn.same {H H' : Hp} {p : Addr} {rows : List (List Int)} (h : RowsIn H p rows) (s : Same H H') : RowsIn H' p rows := by
  obtain ⟨as, h1, h2, h3⟩ := h
  exact ⟨as, s _ _ h1, h2, fun i a r ha hr => s _ _ (h3 i a r ha hr)⟩
section
variable {X : Cx}
theorem huD {k : Nat} {A : Around} (r : Room k A) : A.units + 65 < cLine := by have := r.un; omega
theorem k_inD (K : PySem.W.Frag) (h : X.K = K) (hu : X.A.units + 65 < cLine) : OpR X (compareOp .In) (rInD K) := by subst h; exact op_inD hu
theorem k_notInD (K : PySem.W.Frag) (h : X.K = K) (hu : X.A.units + 65 < cLine) : OpR X (compareOp .NotIn) (rNotInD K) := by subst h; exact op_notInD hu
theorem k_indexD (K : PySem.W.Frag) (h : X.K = K) (hu : X.A.units + 65 < cLine) : MtR X "list.index" (rIndexD K) := by subst h; exact mt_indexD hu
end
/-- rows as data -/
def rowD (r : List Int) : PyData := .list (r.map PyData.int)
theorem rows_dp {K : PySem.W.Frag} {H : Hp} : ∀ {as : List Addr} {rows : List (List Int)}, as.length = rows.length → (∀ (i : Nat) (a : Addr) (r : List Int), as[i]? = some a → rows[i]? = some r → H a = some (.lst (r.map V.int))) → DpAll K H (as.map V.ref) (rows.map rowD)
  | [], [], _, _ => .nil
  | [], _ :: _, h, _ => by simp at h
  | _ :: _, [], h, _ => by simp at h
  | a :: as, r :: rows, h, k => .cons (.lst (.inl (.inl (k 0 a r rfl rfl))) (Pre.dp_ints r)) (rows_dp (by simpa using h) fun i t q ht hq => k (i + 1) t q (by simpa using ht) (by simpa using hq))
theorem rowD_eqv (r q : List Int) : PyData.eqv (rowD r) (rowD q) = decide (r = q) := by
  unfold rowD
  rw [PyData.eqv, eqv_ints]
theorem rows_shaped (rows : List (List Int)) : SeqAt.shaped (.list (rows.map rowD)) = true := by
  have h1 : ∀ l : List (List Int), PyData.canLayAll0 (l.map rowD) = true := fun l => by
    induction l with
    | nil => rfl
    | cons r l ih =>
      show (PyData.canLay0 (rowD r) && PyData.canLayAll0 (l.map rowD)) = true
      rw [ih]
      unfold rowD
      rw [PyData.canLay0, lay_ints]
      rfl
  have h2 : ∀ l : List (List Int), PyData.depthAll (l.map rowD) ≤ 1 := fun l => by
    induction l with
    | nil => simp [PyData.depthAll]
    | cons r l ih =>
      show PyData.depthAll (rowD r :: l.map rowD) ≤ 1
      rw [PyData.depthAll]
      unfold rowD at *
      rw [PyData.depth, depth_ints]
      omega
  show (PyData.canLay0 (.list (rows.map rowD)) && decide (PyData.depth (.list (rows.map rowD)) ≤ 64)) = true
  rw [Bool.and_eq_true]
  have := h2 rows
  exact ⟨by rw [PyData.canLay0]; exact h1 rows, decide_eq_true (by rw [PyData.depth]; omega)⟩
end My

namespace My
/-! ### the mathematics: prices by widths -/
def price (ns : List Int) (w : Nat) : Int := (ns.map fun n => n / 2 ^ w + 1 + (w : Int)).sum
def cc (ns : List Int) (w : Nat) : Int := (ns.map fun n => (n + 2 ^ w) / 2 ^ (w + 1)).sum
def Folds (ns : List Int) : Prop := ∀ n ∈ ns, 0 ≤ n ∧ n < 2 ^ 40
theorem half_step (n : Int) (w : Nat) : n / 2 ^ w - n / 2 ^ (w + 1) = (n + 2 ^ w) / 2 ^ (w + 1) := by
  have hp := pow_pos' w
  have e1 : n / 2 ^ (w + 1) = n / 2 ^ w / 2 := by
    rw [Int.pow_succ, Int.ediv_ediv_of_nonneg (Int.le_of_lt hp)]
  have e2 : (n + 2 ^ w) / 2 ^ (w + 1) = (n / 2 ^ w + 1) / 2 := by
    rw [Int.pow_succ, ← Int.ediv_ediv_of_nonneg (Int.le_of_lt hp), Int.add_ediv_of_dvd_right (Int.dvd_refl _), Int.ediv_self (Int.ne_of_gt hp)]
  rw [e1, e2]
  omega
theorem price_step : ∀ (ns : List Int) (w : Nat), price ns (w + 1) = price ns w + ns.length - cc ns w
  | [], _ => rfl
  | n :: r, w => by
    have ih := price_step r w
    have h := half_step n w
    unfold price cc at ih ⊢
    simp only [List.map_cons, List.sum_cons, List.length_cons]
    rw [ih]
    push_cast
    omega
theorem cc_anti : ∀ (ns : List Int), (∀ n ∈ ns, 0 ≤ n) → ∀ w, cc ns (w + 1) ≤ cc ns w
  | [], _, _ => Int.le_refl _
  | n :: r, h, w => by
    have ih := cc_anti r (fun x hx => h x (List.mem_cons_of_mem _ hx)) w
    have hn := h n List.mem_cons_self
    have hp := pow_pos' w
    have e1 : (n + 2 ^ w) / 2 ^ (w + 1) = (n / 2 ^ w + 1) / 2 := by
      rw [Int.pow_succ, ← Int.ediv_ediv_of_nonneg (Int.le_of_lt hp), Int.add_ediv_of_dvd_right (Int.dvd_refl _), Int.ediv_self (Int.ne_of_gt hp)]
    have hp2 := pow_pos' (w + 1)
    have e2 : (n + 2 ^ (w + 1)) / 2 ^ (w + 1 + 1) = (n / 2 ^ (w + 1) + 1) / 2 := by
      rw [Int.pow_succ 2 (w + 1), ← Int.ediv_ediv_of_nonneg (Int.le_of_lt hp2), Int.add_ediv_of_dvd_right (Int.dvd_refl _), Int.ediv_self (Int.ne_of_gt hp2)]
    have e3 : n / 2 ^ (w + 1) = n / 2 ^ w / 2 := by
      rw [Int.pow_succ, Int.ediv_ediv_of_nonneg (Int.le_of_lt hp)]
    have hq : 0 ≤ n / 2 ^ w := Int.ediv_nonneg hn (Int.le_of_lt hp)
    unfold cc at ih ⊢
    simp only [List.map_cons, List.sum_cons]
    rw [e1, e2, e3]
    omega
theorem cc_le (ns : List Int) (h : ∀ n ∈ ns, 0 ≤ n) (v : Nat) : ∀ d, cc ns (v + d) ≤ cc ns v
  | 0 => Int.le_refl _
  | d + 1 => Int.le_trans (cc_anti ns h (v + d)) (cc_le ns h v d)
theorem cc_40 : ∀ (ns : List Int), Folds ns → cc ns 40 = 0
  | [], _ => rfl
  | n :: r, h => by
    have ih := cc_40 r fun x hx => h x (List.mem_cons_of_mem _ hx)
    have hn := h n List.mem_cons_self
    have e : (n + 2 ^ 40) / 2 ^ (40 + 1) = 0 := Int.ediv_eq_zero_of_lt (by omega) (by omega)
    unfold cc at ih ⊢
    simp only [List.map_cons, List.sum_cons]
    rw [ih, e]
    rfl
theorem Folds.nn {ns : List Int} (h : Folds ns) : ∀ n ∈ ns, 0 ≤ n := fun n hn => (h n hn).1
/-- m is the least price, f the first and l the last width that has it -/
structure IsLeast (ns : List Int) (m : Int) (f l : Nat) : Prop where
  fl : f ≤ l
  l40 : l ≤ 40
  at_ : ∀ w, f ≤ w → w ≤ l → price ns w = m
  lo : ∀ w, w < f → m < price ns w
  hi : ∀ w, l < w → m < price ns w
theorem IsLeast.le {ns : List Int} {m : Int} {f l : Nat} (h : IsLeast ns m f l) (w : Nat) : m ≤ price ns w := by
  by_cases h1 : w < f
  · exact Int.le_of_lt (h.lo w h1)
  · by_cases h2 : l < w
    · exact Int.le_of_lt (h.hi w h2)
    · exact Int.le_of_eq (h.at_ w (by omega) (by omega)).symm
theorem IsLeast.uniq {ns : List Int} {m m' : Int} {f l f' l' : Nat} (a : IsLeast ns m f l) (b : IsLeast ns m' f' l') : m = m' ∧ f = f' ∧ l = l' := by
  have e : m = m' := Int.le_antisymm (by rw [← b.at_ f' (Nat.le_refl _) b.fl]; exact a.le f') (by rw [← a.at_ f (Nat.le_refl _) a.fl]; exact b.le f)
  subst e
  have z : ∀ {f l f' l' : Nat}, IsLeast ns m f l → IsLeast ns m f' l' → f ≤ f' ∧ l' ≤ l := fun {f l f' l'} a b => by
    constructor
    · by_cases h : f ≤ f'
      · exact h
      · have h1 := a.lo f' (by omega)
        rw [b.at_ f' (Nat.le_refl _) b.fl] at h1
        omega
    · by_cases h : l' ≤ l
      · exact h
      · have h1 := a.hi l' (by omega)
        rw [b.at_ l' b.fl (Nat.le_refl _)] at h1
        omega
  have h1 := z a b
  have h2 := z b a
  omega
theorem fall (ns : List Int) (f : Nat) (h : ∀ w, w < f → (ns.length : Int) < cc ns w) : ∀ d, d ≤ f → 0 < d → price ns f < price ns (f - d)
  | 0, _, h0 => absurd h0 (by omega)
  | d + 1, hd, _ => by
    have e := price_step ns (f - (d + 1))
    have hw := h (f - (d + 1)) (by omega)
    have e2 : f - (d + 1) + 1 = f - d := by omega
    rw [e2] at e
    by_cases h0 : d = 0
    · subst h0
      rw [Nat.sub_zero] at e
      omega
    · have ih := fall ns f h d (by omega) (by omega)
      omega
theorem rise (ns : List Int) (nn : ∀ n ∈ ns, 0 ≤ n) (v : Nat) (h : cc ns v < ns.length) : ∀ d, price ns v < price ns (v + d + 1)
  | 0 => by
    have e := price_step ns v
    show price ns v < price ns (v + 1)
    omega
  | d + 1 => by
    have ih := rise ns nn v h d
    have e := price_step ns (v + d + 1)
    have c := cc_le ns nn v (d + 1)
    have c' : cc ns (v + d + 1) ≤ cc ns v := c
    show price ns v < price ns (v + d + 1 + 1)
    omega
/-- what the program's two loops find is the least price -/
theorem told_least (ns : List Int) (hF : Folds ns) (ne : ns ≠ []) (f l : Nat) (hf : cc ns f ≤ ns.length) (hlo : ∀ w, w < f → (ns.length : Int) < cc ns w) (hfl : f ≤ l) (hat : ∀ w, f ≤ w → w ≤ l → price ns w = price ns f)
    (hne : price ns (l + 1) ≠ price ns f) : IsLeast ns (price ns f) f l := by
  have hlen : 0 < ns.length := by cases ns with | nil => exact absurd rfl ne | cons _ _ => simp
  have c40 := cc_40 ns hF
  have hf40 : f ≤ 40 := by
    by_cases h : f ≤ 40
    · exact h
    · have := hlo 40 (by omega)
      omega
  have el := hat l hfl (Nat.le_refl _)
  have hcl : cc ns l < ns.length := by
    have e := price_step ns l
    obtain ⟨d, rfl⟩ : ∃ d, l = f + d := ⟨l - f, by omega⟩
    have c := cc_le ns hF.nn f d
    omega
  refine ⟨hfl, ?_, hat, fun w hw => ?_, fun w hw => ?_⟩
  · by_cases h : l ≤ 40
    · exact h
    · have e : price ns 41 = price ns 40 + ns.length - cc ns 40 := price_step ns 40
      have h1 := hat 40 hf40 (by omega)
      have h2 := hat 41 (by omega) (by omega)
      omega
  · have h := fall ns f hlo (f - w) (by omega) (by omega)
    rw [show f - (f - w) = w by omega] at h
    exact h
  · obtain ⟨d, rfl⟩ : ∃ d, w = l + d + 1 := ⟨w - l - 1, by omega⟩
    have h := rise ns hF.nn l hcl d
    omega
theorem least_ex (P : Nat → Prop) [DecidablePred P] : ∀ n, P n → ∃ k, P k ∧ k ≤ n ∧ ∀ w, w < k → ¬ P w := by
  intro n
  induction n using Nat.strongRecOn with
  | _ n ih =>
    intro hn
    by_cases h : ∃ w, w < n ∧ P w
    · obtain ⟨w, hw, pw⟩ := h
      obtain ⟨k, a, b, c⟩ := ih w hw pw
      exact ⟨k, a, by omega, c⟩
    · exact ⟨n, hn, Nat.le_refl _, fun w hw pw => h ⟨w, hw, pw⟩⟩
theorem least_is (ns : List Int) (hF : Folds ns) (ne : ns ≠ []) : ∃ m f l, IsLeast ns m f l := by
  have hlen : 0 < ns.length := by cases ns with | nil => exact absurd rfl ne | cons _ _ => simp
  have c40 := cc_40 ns hF
  obtain ⟨f, h1, h2, h3⟩ := least_ex (fun w => cc ns w ≤ ns.length) 40 (by show cc ns 40 ≤ ns.length; omega)
  obtain ⟨l, g1, g2, g3⟩ := least_ex (fun w => f ≤ w ∧ price ns (w + 1) ≠ price ns f) 40 ⟨h2, by
    have r := rise ns hF.nn 40 (by omega) 0
    have q : price ns f ≤ price ns 40 := by
      obtain ⟨d, hd⟩ : ∃ d, 40 = f + d := ⟨40 - f, by omega⟩
      have up : ∀ d, price ns f ≤ price ns (f + d) := fun d => by
        induction d with
        | zero => exact Int.le_refl _
        | succ d ih =>
          have e := price_step ns (f + d)
          have c := cc_le ns hF.nn f d
          show price ns f ≤ price ns (f + d + 1)
          omega
      rw [hd]
      exact up d
    have r' : price ns 40 < price ns 41 := r
    show price ns 41 ≠ price ns f
    omega⟩
  refine ⟨_, f, l, told_least ns hF ne f l h1 (fun w hw => by have := h3 w hw; omega) g1.1 (fun w hw hl => ?_) g1.2⟩
  have key : ∀ d, f + d ≤ l → price ns (f + d) = price ns f := fun d => by
    induction d with
    | zero => intro _; rfl
    | succ d ih =>
      intro hd
      have := g3 (f + d) (by omega)
      by_cases hq : price ns (f + d + 1) = price ns f
      · exact hq
      · exact absurd ⟨by omega, hq⟩ this
  have := key (w - f) (by omega)
  rw [show f + (w - f) = w by omega] at this
  exact this
/-- what the law finds over 45 widths -/
theorem law_least (ns : List Int) (m0 : Int) (f0 l0 : Nat) (h : IsLeast ns m0 f0 l0) (m : Int) (hm : m ∈ (List.range 45).map (price ns)) (hle : ∀ y ∈ (List.range 45).map (price ns), m ≤ y) :
    m = m0 ∧ ((List.range 45).filter fun w => decide (price ns w = m)) = (List.range (l0 + 1 - f0)).map (fun d => f0 + d) := by
  have e : m = m0 := by
    obtain ⟨w, hw, ew⟩ := List.mem_map.mp hm
    have a := h.le w
    have b := hle (price ns f0) (List.mem_map.mpr ⟨f0, List.mem_range.mpr (by have := h.fl; have := h.l40; omega), rfl⟩)
    rw [h.at_ f0 (Nat.le_refl _) h.fl] at b
    omega
  refine ⟨e, ?_⟩
  subst e
  have e1 : (List.range 45).filter (fun w => decide (price ns w = m)) = (List.range 45).filter (fun w => decide (f0 ≤ w ∧ w ≤ l0)) := by
    refine List.filter_congr fun w _ => ?_
    have : price ns w = m ↔ f0 ≤ w ∧ w ≤ l0 := by
      constructor
      · intro hp
        constructor
        · by_cases q : f0 ≤ w
          · exact q
          · have := h.lo w (by omega); omega
        · by_cases q : w ≤ l0
          · exact q
          · have := h.hi w (by omega); omega
      · rintro ⟨a, b⟩
        exact h.at_ w a b
    simp only [this]
  rw [e1]
  have hfl := h.fl
  have h40 := h.l40
  have key : ∀ n, (List.range n).filter (fun w => decide (f0 ≤ w ∧ w ≤ l0)) = (List.range (min n (l0 + 1) - f0)).map (fun d => f0 + d) := fun n => by
    induction n with
    | zero => simp
    | succ n ih =>
      rw [List.range_succ, List.filter_append, ih]
      by_cases c : f0 ≤ n ∧ n ≤ l0
      · rw [List.filter_cons_of_pos (by simpa using c)]
        rw [show min (n + 1) (l0 + 1) - f0 = (min n (l0 + 1) - f0) + 1 by omega, List.range_succ, List.map_append]
        simp
        omega
      · rw [List.filter_cons_of_neg (by simpa using c)]
        rw [show min (n + 1) (l0 + 1) - f0 = (min n (l0 + 1) - f0) by omega]
        simp
  rw [key 45, show min 45 (l0 + 1) - f0 = l0 + 1 - f0 by omega]
theorem price_app (a b : List Int) (w : Nat) : price (a ++ b) w = price a w + price b w := by
  unfold price
  rw [List.map_append, List.sum_append]
theorem price_rev (a : List Int) (w : Nat) : price a.reverse w = price a w := by
  unfold price
  rw [List.map_reverse, List.sum_reverse]
theorem IsLeast.rev {a : List Int} {m : Int} {f l : Nat} (h : IsLeast a m f l) : IsLeast a.reverse m f l :=
  ⟨h.fl, h.l40, fun w x y => by rw [price_rev]; exact h.at_ w x y, fun w x => by rw [price_rev]; exact h.lo w x, fun w x => by rw [price_rev]; exact h.hi w x⟩
theorem convex {ns : List Int} (h : Folds ns) (w : Nat) : ¬ price ns (w + 2) - price ns (w + 1) < price ns (w + 1) - price ns w := by
  have a := price_step ns w
  have b := price_step ns (w + 1)
  have c := cc_anti ns h.nn w
  have b' : price ns (w + 2) = price ns (w + 1) + ns.length - cc ns (w + 1) := b
  omega
/-- a sum of prices, as the program says it -/
theorem price_raw : ∀ (ns : List Int) (w : Nat), (ns.length : Int) * ((w : Int) + 1) + (ns.map fun n => n / 2 ^ w).sum = price ns w
  | [], w => by simp [price]
  | n :: r, w => by
    have ih := price_raw r w
    unfold price at ih ⊢
    simp only [List.map_cons, List.sum_cons, List.length_cons]
    rw [← ih]
    push_cast
    rw [Int.add_mul]
    omega
def minI : List Int → Int
  | [] => 0
  | x :: xs => xs.foldl min x
def maxI : List Int → Int
  | [] => 0
  | x :: xs => xs.foldl max x
theorem fold_min : ∀ (xs : List Int) (x : Int), xs.foldl min x ∈ x :: xs ∧ ∀ y ∈ x :: xs, xs.foldl min x ≤ y
  | [], x => ⟨List.mem_cons_self, fun y hy => by rw [List.mem_singleton.mp hy]; exact Int.le_refl _⟩
  | a :: xs, x => by
    obtain ⟨h1, h2⟩ := fold_min xs (min x a)
    show xs.foldl min (min x a) ∈ _ ∧ ∀ y ∈ x :: a :: xs, xs.foldl min (min x a) ≤ y
    have h3 := h2 (min x a) List.mem_cons_self
    refine ⟨?_, fun y hy => ?_⟩
    · rcases List.mem_cons.mp h1 with e | e
      · rw [e]
        rcases Int.le_total x a with h | h
        · rw [Int.min_eq_left h]; exact List.mem_cons_self
        · rw [Int.min_eq_right h]; exact List.mem_cons_of_mem _ List.mem_cons_self
      · exact List.mem_cons_of_mem _ (List.mem_cons_of_mem _ e)
    · rcases List.mem_cons.mp hy with rfl | hy
      · omega
      · rcases List.mem_cons.mp hy with rfl | hy
        · omega
        · exact h2 y (List.mem_cons_of_mem _ hy)
theorem fold_max : ∀ (xs : List Int) (x : Int), xs.foldl max x ∈ x :: xs ∧ ∀ y ∈ x :: xs, y ≤ xs.foldl max x
  | [], x => ⟨List.mem_cons_self, fun y hy => by rw [List.mem_singleton.mp hy]; exact Int.le_refl _⟩
  | a :: xs, x => by
    obtain ⟨h1, h2⟩ := fold_max xs (max x a)
    show xs.foldl max (max x a) ∈ _ ∧ ∀ y ∈ x :: a :: xs, y ≤ xs.foldl max (max x a)
    have h3 := h2 (max x a) List.mem_cons_self
    refine ⟨?_, fun y hy => ?_⟩
    · rcases List.mem_cons.mp h1 with e | e
      · rw [e]
        rcases Int.le_total x a with h | h
        · rw [Int.max_eq_right h]; exact List.mem_cons_of_mem _ List.mem_cons_self
        · rw [Int.max_eq_left h]; exact List.mem_cons_self
      · exact List.mem_cons_of_mem _ (List.mem_cons_of_mem _ e)
    · rcases List.mem_cons.mp hy with rfl | hy
      · omega
      · rcases List.mem_cons.mp hy with rfl | hy
        · omega
        · exact h2 y (List.mem_cons_of_mem _ hy)
theorem min_uniq {l : List Int} {m : Int} (h1 : m ∈ l) (h2 : ∀ y ∈ l, m ≤ y) : m = minI l := by
  cases l with
  | nil => cases h1
  | cons x xs =>
    obtain ⟨h3, h4⟩ := fold_min xs x
    exact Int.le_antisymm (h2 _ h3) (h4 _ h1)
theorem max_uniq {l : List Int} {m : Int} (h1 : m ∈ l) (h2 : ∀ y ∈ l, y ≤ m) : m = maxI l := by
  cases l with
  | nil => cases h1
  | cons x xs =>
    obtain ⟨h3, h4⟩ := fold_max xs x
    exact Int.le_antisymm (h4 _ h1) (h2 _ h3)
theorem price_take (ns : List Int) (w : Nat) {i : Nat} {n : Int} (h : ns[i]? = some n) : price (ns.take (i + 1)) w = price (ns.take i) w + n / 2 ^ w + 1 + (w : Int) := by
  unfold price
  rw [List.take_add_one, h, List.map_append, List.sum_append]
  show _ + ([n / 2 ^ w + 1 + (w : Int)]).sum = _
  rw [List.sum_singleton]
  omega
end My

namespace My
/-! ### parts of rows, rounded up or down -/
def fl (ns : List Int) (w : Nat) : Int := (ns.map fun n => n / 2 ^ w).sum
def rup (t u : Int) : Int := max 0 (-((-t) / u))
def Row (m : Nat) (t : Int) (ns : List Int) : Prop := ns.length = m ∧ ns.sum = t ∧ ∀ n ∈ ns, 0 ≤ n
theorem p2 (w : Nat) : (0 : Int) < 2 ^ w := Int.pow_pos (by decide)
theorem price_fl : ∀ (ns : List Int) (w : Nat), price ns w = fl ns w + ns.length * (1 + (w : Int))
  | [], w => by simp [price, fl]
  | n :: ns, w => by
    have ih := price_fl ns w
    unfold price fl at *
    rw [List.map_cons, List.sum_cons, List.map_cons, List.sum_cons, List.length_cons, ih, Int.natCast_add, Int.add_mul]
    omega
theorem rup_le {t u d : Int} (hu : 0 < u) (hd : 0 ≤ d) (h : t ≤ u * d) : rup t u ≤ d := by
  unfold rup
  have h1 := Int.mul_ediv_self_le (x := -t) (k := u) (by omega)
  have h2 : -d ≤ (-t) / u := (Int.le_ediv_iff_mul_le hu).mpr (by rw [Int.neg_mul, Int.mul_comm]; omega)
  omega
theorem rup_ge {t u : Int} (hu : 0 < u) : t ≤ u * rup t u := by
  have h1 := Int.lt_ediv_add_one_mul_self (-t) hu
  have h3 := Int.mul_ediv_self_le (x := -t) (k := u) (by omega)
  have h4 : u * (-((-t) / u)) ≤ u * rup t u := Int.mul_le_mul_of_nonneg_left (by unfold rup; omega) (by omega)
  rw [Int.mul_neg] at h4
  omega
theorem rup_nn (t u : Int) : 0 ≤ rup t u := by unfold rup; omega
theorem rup_lt {t u : Int} (hu : 0 < u) (h : 0 < rup t u) : u * rup t u < t + u := by
  have h1 := Int.lt_ediv_add_one_mul_self (-t) hu
  have e : rup t u = -((-t) / u) := by unfold rup at *; omega
  rw [e, Int.mul_neg]
  rw [Int.add_mul, Int.mul_comm, Int.one_mul] at h1
  omega
theorem fl_nn : ∀ (ns : List Int) (w : Nat), (∀ n ∈ ns, 0 ≤ n) → 0 ≤ fl ns w
  | [], _, _ => by simp [fl]
  | n :: ns, w, h => by
    have ih := fl_nn ns w fun k hk => h k (List.mem_cons_of_mem _ hk)
    have h0 := Int.ediv_nonneg (h n List.mem_cons_self) (Int.le_of_lt (p2 w))
    unfold fl at *
    rw [List.map_cons, List.sum_cons]
    omega
theorem fl_sum : ∀ (ns : List Int) (w : Nat), 2 ^ w * fl ns w ≤ ns.sum ∧ ns.sum ≤ 2 ^ w * fl ns w + ns.length * (2 ^ w - 1)
  | [], w => by simp [fl]
  | n :: ns, w => by
    obtain ⟨h1, h2⟩ := fl_sum ns w
    have hp := p2 w
    have h3 := Int.mul_ediv_self_le (x := n) (k := 2 ^ w) (by omega)
    have h4 := Int.lt_ediv_add_one_mul_self n hp
    rw [Int.add_mul, Int.one_mul, Int.mul_comm] at h4
    unfold fl at *
    rw [List.map_cons, List.sum_cons, List.sum_cons, List.length_cons, Int.mul_add, Int.natCast_add, Int.add_mul]
    generalize 2 ^ w * (n / 2 ^ w) = z at *
    generalize (2 : Int) ^ w = u at *
    omega
theorem fl_le (ns : List Int) (w : Nat) : fl ns w ≤ ns.sum / 2 ^ w := (Int.le_ediv_iff_mul_le (p2 w)).mpr (by rw [Int.mul_comm]; exact (fl_sum ns w).1)
theorem p2_le {a b : Nat} (h : a ≤ b) : (2 : Int) ^ a ≤ 2 ^ b := by
  have e := Nat.pow_le_pow_right (show 0 < 2 by decide) h
  have e1 : ((2 ^ a : Nat) : Int) ≤ ((2 ^ b : Nat) : Int) := Int.ofNat_le.mpr e
  rw [Int.natCast_pow, Int.natCast_pow] at e1
  exact e1
theorem rup_div {e u : Int} (hu : 0 < u) (he : 0 < e) : (u - 1 + e) / u = rup e u := by
  have h1 := rup_ge (t := e) hu
  have h0 : 0 < rup e u := by
    have := rup_nn e u
    rcases Int.lt_or_eq_of_le this with z | z
    · exact z
    · rw [← z] at h1; omega
  have h2 := rup_lt hu h0
  refine Int.le_antisymm (Int.le_of_lt_add_one ((Int.ediv_lt_iff_lt_mul hu).mpr ?_)) ((Int.le_ediv_iff_mul_le hu).mpr ?_)
  · rw [Int.add_mul, Int.one_mul, Int.mul_comm]; omega
  · rw [Int.mul_comm]; omega
theorem fl_small {ns : List Int} {w : Nat} (h : ∀ n ∈ ns, 0 ≤ n ∧ n ≤ 2 ^ w - 1) : fl ns w = 0 := by
  unfold fl
  have : ∀ l : List Int, (∀ n ∈ l, 0 ≤ n ∧ n ≤ 2 ^ w - 1) → (l.map fun n => n / 2 ^ w).sum = 0 := fun l => by
    induction l with
    | nil => intro _; rfl
    | cons n l ih =>
      intro hl
      have h1 := hl n List.mem_cons_self
      rw [List.map_cons, List.sum_cons, ih fun k hk => hl k (List.mem_cons_of_mem _ hk), Int.ediv_eq_zero_of_lt h1.1 (by omega)]
      rfl
  exact this ns h
theorem fl_cons (n : Int) (ns : List Int) (w : Nat) : fl (n :: ns) w = n / 2 ^ w + fl ns w := by
  unfold fl
  rw [List.map_cons, List.sum_cons]
def rowsK : Nat → Nat → List (List Int)
  | 0, t => [[(t : Int)]]
  | j + 1, t => (List.range (t + 1)).flatMap fun o => (rowsK j (t - o)).map fun r => (o : Int) :: r
theorem flat_len {α β : Type} (f : α → List β) (c : Nat) : ∀ l : List α, (∀ x ∈ l, (f x).length ≤ c) → (l.flatMap f).length ≤ l.length * c
  | [], _ => by simp
  | x :: l, h => by
    have ih := flat_len f c l fun y hy => h y (List.mem_cons_of_mem _ hy)
    have hx := h x List.mem_cons_self
    rw [List.flatMap_cons, List.length_append, List.length_cons, Nat.succ_mul]
    omega
end My

namespace My
/-! ### rows of a number and a sum -/
theorem rowsK_len : ∀ (j t : Nat), t ≤ 12 ∨ j = 0 → (rowsK j t).length ≤ 13 ^ j
  | 0, _, _ => by simp [rowsK]
  | j + 1, t, h => by
    have ht : t ≤ 12 := by omega
    show ((List.range (t + 1)).flatMap _).length ≤ _
    refine Nat.le_trans (flat_len _ (13 ^ j) _ fun o _ => ?_) ?_
    · rw [List.length_map]
      exact rowsK_len j (t - o) (by omega)
    · rw [List.length_range, Nat.pow_succ, Nat.mul_comm]
      exact Nat.mul_le_mul_left _ (by omega)
theorem rowsK_ok : ∀ (j t : Nat) (r : List Int), r ∈ rowsK j t ↔ Row (j + 1) t r
  | 0, t, r => by
    rw [rowsK, List.mem_singleton]
    constructor
    · rintro rfl
      exact ⟨rfl, by simp, fun n hn => by rw [List.mem_singleton.mp hn]; omega⟩
    · rintro ⟨h1, h2, h3⟩
      match r, h1 with
      | [x], _ => simp at h2; rw [h2]
  | j + 1, t, r => by
    rw [rowsK, List.mem_flatMap]
    constructor
    · rintro ⟨o, ho, h⟩
      obtain ⟨r', hr, rfl⟩ := List.mem_map.mp h
      obtain ⟨h1, h2, h3⟩ := (rowsK_ok j _ r').mp hr
      have := List.mem_range.mp ho
      refine ⟨by rw [List.length_cons, h1], by rw [List.sum_cons, h2]; omega, fun n hn => ?_⟩
      rcases List.mem_cons.mp hn with rfl | z
      · omega
      · exact h3 n z
    · rintro ⟨h1, h2, h3⟩
      match r, h1 with
      | x :: r', h1 =>
        have hx := h3 x List.mem_cons_self
        have hs : 0 ≤ r'.sum := by
          have : ∀ l : List Int, (∀ n ∈ l, 0 ≤ n) → 0 ≤ l.sum := fun l => by
            induction l with
            | nil => intro _; simp
            | cons a l ih => intro h; rw [List.sum_cons]; have := h a List.mem_cons_self; have := ih fun n hn => h n (List.mem_cons_of_mem _ hn); omega
          exact this r' fun n hn => h3 n (List.mem_cons_of_mem _ hn)
        rw [List.sum_cons] at h2
        refine ⟨x.toNat, List.mem_range.mpr (by omega), List.mem_map.mpr ⟨r', (rowsK_ok j _ r').mpr ⟨by simpa using h1, by omega, fun n hn => h3 n (List.mem_cons_of_mem _ hn)⟩, ?_⟩⟩
        rw [Int.toNat_of_nonneg hx]
theorem rowsK_ne (j t : Nat) : 0 < (rowsK j t).length := by
  have : Row (j + 1) t ((t : Int) :: List.replicate j 0) := by
    refine ⟨by simp, ?_, fun n hn => ?_⟩
    · rw [List.sum_cons]
      have : ∀ k : Nat, (List.replicate k (0 : Int)).sum = 0 := fun k => by induction k with | zero => rfl | succ k ih => rw [List.replicate_succ, List.sum_cons, ih]; rfl
      rw [this]
      omega
    · rcases List.mem_cons.mp hn with rfl | z
      · omega
      · rw [(List.mem_replicate.mp z).2]; exact Int.le_refl _
  exact List.length_pos_of_mem ((rowsK_ok j t _).mpr this)
/-! ### the first width of a row -/
structure Fst (ns : List Int) (f : Nat) : Prop where
  at_ : cc ns f ≤ ns.length
  ne : ∀ w, w < f → (ns.length : Int) < cc ns w
theorem fst_uniq {ns : List Int} {f g : Nat} (a : Fst ns f) (b : Fst ns g) : f = g := by
  rcases Nat.lt_trichotomy f g with h | h | h
  · have := b.ne f h
    have := a.at_
    omega
  · exact h
  · have := a.ne g h
    have := b.at_
    omega
theorem sum_add (c : Int) : ∀ ns : List Int, (ns.map fun n => n + c).sum = ns.sum + ns.length * c
  | [] => by simp
  | n :: ns => by
    rw [List.map_cons, List.sum_cons, List.sum_cons, sum_add c ns, List.length_cons, Int.natCast_add, Int.add_mul]
    omega
theorem cc_sum (ns : List Int) (w : Nat) : 2 ^ (w + 1) * cc ns w ≤ ns.sum + ns.length * 2 ^ w ∧ ns.sum + ns.length * 2 ^ w ≤ 2 ^ (w + 1) * cc ns w + ns.length * (2 ^ (w + 1) - 1) := by
  have h := fl_sum (ns.map fun n => n + 2 ^ w) (w + 1)
  have e : fl (ns.map fun n => n + 2 ^ w) (w + 1) = cc ns w := by
    unfold fl cc
    rw [List.map_map]
    rfl
  rw [e, sum_add, List.length_map] at h
  exact h
def gF (w : Nat) : Int := 3 * 2 ^ w - 1
def lsF (m : Int) (w : Nat) : Int := if w = 0 then 0 else m * 2 ^ (w - 1) + 2 ^ w
theorem fst_ex {m : Nat} {t : Int} {ns : List Int} (h : Row m t ns) {b : Nat} (hb : t < 2 ^ b) : ∃ f, f ≤ b ∧ Fst ns f := by
  have hc : cc ns b ≤ ns.length := by
    have h1 := (cc_sum ns b).1
    rw [h.2.1, Int.pow_succ] at h1
    have hp := p2 b
    rcases Int.lt_or_le (ns.length : Int) (cc ns b) with z | z
    · exfalso
      have h2 : 2 ^ b * 2 * ((ns.length : Int) + 1) ≤ 2 ^ b * 2 * cc ns b := Int.mul_le_mul_of_nonneg_left (by omega) (by omega)
      rw [Int.mul_add, Int.mul_one] at h2
      have e : 2 ^ b * 2 * (ns.length : Int) = (ns.length : Int) * 2 ^ b + (ns.length : Int) * 2 ^ b := by rw [Int.mul_comm, ← Int.mul_assoc]; omega
      rw [e] at h2
      have h3 : 0 ≤ (ns.length : Int) * 2 ^ b := Int.mul_nonneg (Int.natCast_nonneg _) (Int.le_of_lt hp)
      omega
    · exact z
  obtain ⟨f, h1, h2, h3⟩ := least_ex (fun w => cc ns w ≤ ns.length) b hc
  exact ⟨f, h2, h1, fun w hw => Int.lt_of_not_ge (h3 w hw)⟩
theorem fst_in {m : Nat} {t : Int} {ns : List Int} (h : Row m t ns) (ht : 0 ≤ t) {f : Nat} (hf : Fst ns f) : lsF m f ≤ t ∧ t ≤ m * gF f := by
  obtain ⟨hl, hs, hn⟩ := h
  constructor
  · unfold lsF
    split
    · exact ht
    · rename_i f0
      have h1 := (cc_sum ns (f - 1)).1
      have h2 := hf.ne (f - 1) (by omega)
      rw [hl, hs, show f - 1 + 1 = f by omega] at h1
      rw [hl] at h2
      have ep : (2 : Int) ^ f = 2 ^ (f - 1) * 2 := by rw [← Int.pow_succ, show (f - 1).succ = f by omega]
      have hp := p2 f
      have h3 : 2 ^ f * ((m : Int) + 1) ≤ 2 ^ f * cc ns (f - 1) := Int.mul_le_mul_of_nonneg_left (by omega) (by omega)
      rw [Int.mul_add, Int.mul_one] at h3
      have e : 2 ^ f * (m : Int) = (m : Int) * 2 ^ (f - 1) + (m : Int) * 2 ^ (f - 1) := by rw [ep, Int.mul_comm, ← Int.mul_assoc]; omega
      rw [e] at h3
      omega
  · have h1 := (cc_sum ns f).2
    have h2 := hf.at_
    rw [hl, hs] at h1
    rw [hl] at h2
    have hp := p2 (f + 1)
    have h3 : 2 ^ (f + 1) * cc ns f ≤ 2 ^ (f + 1) * (m : Int) := Int.mul_le_mul_of_nonneg_left h2 (by omega)
    have e1 : 2 ^ (f + 1) * (m : Int) = (m : Int) * 2 ^ f + (m : Int) * 2 ^ f := by rw [Int.pow_succ, Int.mul_comm, ← Int.mul_assoc]; omega
    have e2 : (m : Int) * (2 ^ (f + 1) - 1) = (m : Int) * 2 ^ f + (m : Int) * 2 ^ f - m := by rw [Int.mul_sub, Int.mul_one, Int.pow_succ, ← Int.mul_assoc]; omega
    have e3 : (m : Int) * gF f = 3 * ((m : Int) * 2 ^ f) - m := by unfold gF; rw [Int.mul_sub, Int.mul_one, Int.mul_left_comm]
    rw [e1] at h3
    rw [e2] at h1
    rw [e3]
    omega
/-! ### the widths of a number and a sum -/
structure Poss (m t : Int) (F L : Nat) : Prop where
  hi : t ≤ m * gF F
  lo : ∀ w, w < F → m * gF w < t
  le : F ≤ L
  up : ∀ w, F < w → w ≤ L → lsF m w ≤ t
  no : t < lsF m (L + 1)
theorem gF_mono {a b : Nat} (h : a ≤ b) : gF a ≤ gF b := by unfold gF; have := p2_le h; omega
theorem gF_pos (w : Nat) : 0 ≤ gF w := by unfold gF; have := p2 w; omega
theorem mg_mono {m : Int} (hm : 1 ≤ m) {a b : Nat} (h : a ≤ b) : m * gF a ≤ m * gF b := Int.mul_le_mul_of_nonneg_left (gF_mono h) (by omega)
theorem lsF_succ (m : Int) (w : Nat) : lsF m (w + 1) = m * 2 ^ w + 2 * 2 ^ w := by unfold lsF; rw [if_neg (by omega), Nat.add_sub_cancel, Int.pow_succ]; omega
theorem lsF_mono {m : Int} (hm : 1 ≤ m) : ∀ {a b : Nat}, a ≤ b → lsF m a ≤ lsF m b := by
  intro a b h
  cases a with
  | zero =>
    cases b with
    | zero => exact Int.le_refl _
    | succ b =>
      rw [lsF_succ]
      have := p2 b
      have : 0 ≤ m * 2 ^ b := Int.mul_nonneg (by omega) (by omega)
      show (0 : Int) ≤ _
      omega
  | succ a =>
    cases b with
    | zero => omega
    | succ b =>
      rw [lsF_succ, lsF_succ]
      have h1 := p2_le (show a ≤ b by omega)
      have : m * 2 ^ a ≤ m * 2 ^ b := Int.mul_le_mul_of_nonneg_left h1 (by omega)
      omega
theorem mg_eq (m : Int) (w : Nat) : m * gF w = 3 * (m * 2 ^ w) - m := by unfold gF; rw [Int.mul_sub, Int.mul_one, Int.mul_left_comm]
theorem mp_ge {m : Int} (hm : 1 ≤ m) (w : Nat) : 2 ^ w - 1 ≤ m * 2 ^ w - m := by
  have h : (1 : Int) * (2 ^ w - 1) ≤ m * (2 ^ w - 1) := Int.mul_le_mul_of_nonneg_right hm (by have := p2 w; omega)
  rw [Int.one_mul, Int.mul_sub, Int.mul_one] at h
  omega
theorem poss_iff {m t : Int} (hm : 1 ≤ m) (ht : 0 ≤ t) {F L : Nat} (h : Poss m t F L) (w : Nat) : (F ≤ w ∧ w ≤ L) ↔ (lsF m w ≤ t ∧ t ≤ m * gF w) := by
  constructor
  · rintro ⟨h1, h2⟩
    refine ⟨?_, Int.le_trans h.hi (mg_mono hm h1)⟩
    rcases Nat.eq_or_lt_of_le h1 with z | z
    · subst z
      cases F with
      | zero => exact ht
      | succ f =>
        have h3 := h.lo f (by omega)
        rw [mg_eq] at h3
        rw [lsF_succ]
        have h4 := mp_ge hm f
        omega
    · exact h.up w z h2
  · rintro ⟨h1, h2⟩
    constructor
    · rcases Nat.lt_or_ge w F with z | z
      · have := h.lo w z
        omega
      · exact z
    · rcases Nat.lt_or_ge L w with z | z
      · have := lsF_mono hm (show L + 1 ≤ w from z)
        have := h.no
        omega
      · exact z
theorem poss_two {m t : Int} (hm : 1 ≤ m) {F L : Nat} (h : Poss m t F L) : L ≤ F + 2 := by
  rcases Nat.lt_or_ge (F + 2) L with z | z
  · exfalso
    have h1 := h.up (F + 2 + 1) (by omega) z
    have h2 := h.hi
    rw [lsF_succ] at h1
    rw [mg_eq] at h2
    have e : (2 : Int) ^ (F + 2) = 2 ^ F * 4 := by rw [Int.pow_add]; rfl
    rw [e, ← Int.mul_assoc] at h1
    have := p2 F
    have : 0 ≤ m * 2 ^ F := Int.mul_nonneg (by omega) (by omega)
    omega
  · exact z
/-! ### folds raised one after the other -/
def fillG (top : Int) : List Int → Int → List Int
  | [], _ => []
  | u :: us, l => (u + min l (top - u)) :: fillG top us (l - min l (top - u))
theorem fillG_len (top : Int) : ∀ (us : List Int) (l : Int), (fillG top us l).length = us.length
  | [], _ => rfl
  | u :: us, l => by show (fillG top us _).length + 1 = _; rw [fillG_len top us]; rfl
theorem fillG_in (top : Int) : ∀ (us : List Int) (l : Int), 0 ≤ l → (∀ u ∈ us, u ≤ top) → ∀ b, (∀ u ∈ us, b ≤ u) → ∀ n ∈ fillG top us l, b ≤ n ∧ n ≤ top
  | [], _, _, _, _, _, n, hn => nomatch hn
  | u :: us, l, hl, ht, b, hb, n, hn => by
    have h1 := ht u List.mem_cons_self
    have h2 := hb u List.mem_cons_self
    rcases List.mem_cons.mp hn with rfl | z
    · omega
    · exact fillG_in top us _ (by omega) (fun k hk => ht k (List.mem_cons_of_mem _ hk)) b (fun k hk => hb k (List.mem_cons_of_mem _ hk)) n z
theorem fillG_sum (top : Int) : ∀ (us : List Int) (l : Int), 0 ≤ l → (∀ u ∈ us, u ≤ top) → l ≤ us.length * top - us.sum → (fillG top us l).sum = us.sum + l
  | [], l, hl, _, h => by
    simp at h
    have : l = 0 := by omega
    subst this
    rfl
  | u :: us, l, hl, ht, h => by
    have h1 := ht u List.mem_cons_self
    rw [List.sum_cons, List.length_cons, Int.natCast_add, Int.add_mul] at h
    show (u + min l (top - u)) + (fillG top us (l - min l (top - u))).sum = _
    rw [fillG_sum top us _ (by omega) (fun k hk => ht k (List.mem_cons_of_mem _ hk)) (by
      rcases Int.le_total l (top - u) with z | z
      · rw [Int.min_eq_left z, Int.sub_self]
        have : ∀ l : List Int, (∀ k ∈ l, k ≤ top) → l.sum ≤ l.length * top := fun l => by
          induction l with
          | nil => intro _; simp
          | cons a l ih => intro h; rw [List.sum_cons, List.length_cons, Int.natCast_add, Int.add_mul]; have := h a List.mem_cons_self; have := ih fun n hn => h n (List.mem_cons_of_mem _ hn); omega
        have := this us fun k hk => ht k (List.mem_cons_of_mem _ hk)
        omega
      · rw [Int.min_eq_right z]
        omega), List.sum_cons]
    omega
def firstsF (m : Nat) (w : Nat) : List Int := if w = 0 then List.replicate m 0 else (3 * 2 ^ (w - 1)) :: List.replicate (m - 1) (2 ^ (w - 1))
def wrow (m : Nat) (t : Int) (w : Nat) : List Int := fillG (gF w) (firstsF m w) (t - lsF m w)
theorem sum_rep (k : Nat) (a : Int) : (List.replicate k a).sum = k * a := by
  induction k with
  | zero => simp
  | succ k ih => rw [List.replicate_succ, List.sum_cons, ih, Int.natCast_add, Int.add_mul]; omega
theorem firsts_len {m : Nat} (hm : 1 ≤ m) (w : Nat) : (firstsF m w).length = m := by
  unfold firstsF
  split
  · rw [List.length_replicate]
  · rw [List.length_cons, List.length_replicate]; omega
theorem firsts_sum {m : Nat} (hm : 1 ≤ m) (w : Nat) : (firstsF m w).sum = lsF m w := by
  unfold firstsF lsF
  split
  · rw [sum_rep, Int.mul_zero]
  · rename_i h
    rw [List.sum_cons, sum_rep]
    have e : ((m - 1 : Nat) : Int) = (m : Int) - 1 := by omega
    have ep : (2 : Int) ^ w = 2 ^ (w - 1) * 2 := by rw [← Int.pow_succ, show (w - 1).succ = w by omega]
    rw [e, Int.sub_mul, ep]
    omega
theorem cc_le_of (ns : List Int) (w : Nat) (h : ∀ n ∈ ns, n ≤ gF w) : cc ns w ≤ ns.length := by
  unfold cc
  induction ns with
  | nil => simp
  | cons n ns ih =>
    rw [List.map_cons, List.sum_cons, List.length_cons, Int.natCast_add]
    have h1 := ih fun k hk => h k (List.mem_cons_of_mem _ hk)
    have h2 := h n List.mem_cons_self
    unfold gF at h2
    have hp := p2 w
    have : (n + 2 ^ w) / 2 ^ (w + 1) < 2 := (Int.ediv_lt_iff_lt_mul (p2 _)).mpr (by rw [Int.pow_succ]; omega)
    show _ ≤ (ns.length : Int) + 1
    omega
theorem cc_ge_of (ns : List Int) (w : Nat) (h : ∀ n ∈ ns, 2 ^ w ≤ n) : (ns.length : Int) ≤ cc ns w := by
  unfold cc
  induction ns with
  | nil => simp
  | cons n ns ih =>
    rw [List.map_cons, List.sum_cons, List.length_cons, Int.natCast_add]
    have h1 := ih fun k hk => h k (List.mem_cons_of_mem _ hk)
    have h2 := h n List.mem_cons_self
    have : 1 ≤ (n + 2 ^ w) / 2 ^ (w + 1) := (Int.le_ediv_iff_mul_le (p2 _)).mpr (by rw [Int.pow_succ]; omega)
    show (ns.length : Int) + 1 ≤ _
    omega
theorem wrow_ok {m : Nat} {t : Int} (hm : 1 ≤ m) {w : Nat} (h1 : lsF m w ≤ t) (h2 : t ≤ m * gF w) : Row m t (wrow m t w) ∧ Fst (wrow m t w) w := by
  have hp := p2 w
  have hlen : (wrow m t w).length = m := by unfold wrow; rw [fillG_len, firsts_len hm]
  have htop : ∀ u ∈ firstsF m w, u ≤ gF w := by
    intro u hu
    unfold firstsF at hu
    unfold gF
    split at hu
    · rw [(List.mem_replicate.mp hu).2]; omega
    · rename_i h
      have ep : (2 : Int) ^ w = 2 ^ (w - 1) * 2 := by rw [← Int.pow_succ, show (w - 1).succ = w by omega]
      have hp1 := p2 (w - 1)
      rcases List.mem_cons.mp hu with rfl | z
      · omega
      · rw [(List.mem_replicate.mp z).2]; omega
  have hsum : (wrow m t w).sum = t := by
    unfold wrow
    rw [fillG_sum _ _ _ (by omega) htop (by rw [firsts_sum hm, firsts_len hm]; omega), firsts_sum hm]
    omega
  have hin := fillG_in (gF w) (firstsF m w) (t - lsF m w) (by omega) htop
  refine ⟨⟨hlen, hsum, fun n hn => (hin 0 (fun u hu => ?_) n hn).1⟩, ?_, ?_⟩
  · unfold firstsF at hu
    split at hu
    · rw [(List.mem_replicate.mp hu).2]; exact Int.le_refl _
    · have hp1 := p2 (w - 1)
      rcases List.mem_cons.mp hu with rfl | z
      · omega
      · rw [(List.mem_replicate.mp z).2]; omega
  · refine cc_le_of _ w fun n hn => (hin (-1) (fun u hu => ?_) n hn).2
    unfold firstsF at hu
    split at hu
    · rw [(List.mem_replicate.mp hu).2]; decide
    · have hp1 := p2 (w - 1)
      rcases List.mem_cons.mp hu with rfl | z
      · omega
      · rw [(List.mem_replicate.mp z).2]; omega
  · intro v hv
    have w0 : w ≠ 0 := by omega
    have ep : (2 : Int) ^ w = 2 ^ (w - 1) * 2 := by rw [← Int.pow_succ, show (w - 1).succ = w by omega]
    have hp1 := p2 (w - 1)
    have hnn : ∀ n ∈ wrow m t w, 0 ≤ n := fun n hn => (hin 0 (fun u hu => by
      unfold firstsF at hu
      rw [if_neg w0] at hu
      rcases List.mem_cons.mp hu with rfl | z
      · omega
      · rw [(List.mem_replicate.mp z).2]; omega) n hn).1
    have hcc := cc_le (wrow m t w) hnn v (w - 1 - v)
    rw [show v + (w - 1 - v) = w - 1 by omega] at hcc
    refine Int.lt_of_lt_of_le ?_ hcc
    have e : wrow m t w = (3 * 2 ^ (w - 1) + min (t - lsF m w) (gF w - 3 * 2 ^ (w - 1))) :: fillG (gF w) (List.replicate (m - 1) (2 ^ (w - 1))) (t - lsF m w - min (t - lsF m w) (gF w - 3 * 2 ^ (w - 1))) := by
      unfold wrow firstsF
      rw [if_neg w0]
      rfl
    have htail := fillG_in (gF w) (List.replicate (m - 1) (2 ^ (w - 1))) (t - lsF m w - min (t - lsF m w) (gF w - 3 * 2 ^ (w - 1))) (by omega) (fun u hu => htop u (by unfold firstsF; rw [if_neg w0]; exact List.mem_cons_of_mem _ hu)) (2 ^ (w - 1)) (fun u hu => by rw [(List.mem_replicate.mp hu).2]; exact Int.le_refl _)
    have hg := cc_ge_of _ (w - 1) fun n hn => (htail n hn).1
    rw [fillG_len, List.length_replicate] at hg
    rw [hlen, e]
    unfold cc at hg ⊢
    rw [List.map_cons, List.sum_cons]
    have hmin : 0 ≤ min (t - lsF m w) (gF w - 3 * 2 ^ (w - 1)) := by unfold gF; omega
    have h2' : 2 ≤ (3 * 2 ^ (w - 1) + min (t - lsF m w) (gF w - 3 * 2 ^ (w - 1)) + 2 ^ (w - 1)) / 2 ^ (w - 1 + 1) := (Int.le_ediv_iff_mul_le (p2 _)).mpr (by rw [Int.pow_succ]; omega)
    omega
end My

namespace My
open PySem PySem.Spec PyProof.Rows L2 Pre
local macro_rules | `(tactic| walk_at "go") => `(tactic| repeat (first | (with_reducible first | refine iteT ?_ | refine iteF ?_ | refine iteNtt ?_ | refine iteNff ?_ | refine iteET (by omega) ?_ | refine iteEF (by omega) ?_ | refine iteENT (by omega) ?_ | refine iteENF (by omega) ?_ | refine iteDT (by omega) ?_ | refine iteDF (by omega) ?_ | refine iteNT (by omega) ?_ | refine iteNF (by omega) ?_) | refine ⟨_, rfl, ?_⟩ | refine ⟨_, _, rfl, rfl, ?_⟩ | refine ⟨_, _, rfl, ?_⟩ | refine ⟨rfl, ?_⟩ | refine .inl ⟨_, rfl, ?_⟩ | refine .inr ⟨_, rfl, ?_⟩))
local macro_rules | `(tactic| walk_at "b") => `(tactic| try dsimp (config := { proj := false, iota := false, eta := false, zeta := false }) only)
section
variable {P : Program} {w : World} {K : PySem.W.Frag} {mg : Str → Option Value} {base : Heap}
def sp_check_number : Sp := fun vs H Q _ => ∃ (i lo : Int) (hi : Option Int), vs = [.int i, .int lo, (match hi with | some j => .int j | none => .non)] ∧ lo ≤ i ∧ (∀ j, hi = some j → i ≤ j) ∧ Q .non H
theorem G_check_number (T : Top K mg) : FnOk P w K mg base CX0 3 T.f_check_number T.fd_check_number ["number", "low", "high"] sp_check_number := by
  refine T.F_check_number.ok sc_check_number (fun vs H Q E h => by obtain ⟨i, lo, hi, rfl, _⟩ := h; rfl) (fun cdv A outer s H vs Q E hr h => ?_)
  obtain ⟨i, lo, hi, rfl, h0, h1, q⟩ := h
  refine ⟨_, PSs.nox (pss_one (ps_if (pt_not (pt_val (pe_call (G_is_between T) (hr.mono (by decide)) (by rfl) T.g_is_between T.F_is_between.kp T.b_is_between .nil pass0 (pa_cons (pv 0) (pa_cons (pv 1) (pa_cons (pv 2) pa_nil))))))
    (pss_one ps_never)
    pss_nil)), ?_⟩
  refine ⟨_, rfl, _, rfl, _, rfl, i, lo, hi, rfl, _, rfl, ?_⟩
  rw [decide_eq_true ⟨h0, h1⟩]
  exact iteF q
def sp_check_width : Sp := fun vs H Q _ => ∃ i : Int, vs = [.int i] ∧ 0 ≤ i ∧ i ≤ 120 ∧ Q .non H
theorem G_check_width (T : Top K mg) : FnOk P w K mg base CX0 3 T.f_check_width T.fd_check_width ["width"] sp_check_width := by
  refine T.F_check_width.ok sc_check_width (fun vs H Q E h => by obtain ⟨i, rfl, _⟩ := h; rfl) (fun cdv A outer s H vs Q E hr h => ?_)
  obtain ⟨i, rfl, h0, h1, q⟩ := h
  refine ⟨_, PSs.nox (pss_one (ps_if (pt_not (pt_val (pe_call (G_is_between T) (hr.mono (by decide)) (by rfl) T.g_is_between T.F_is_between.kp T.b_is_between .nil pass0 (pa_cons (pv 0) (pa_cons pe_int (pa_cons (pe_glob (v := .int 120) rfl T.m_MOST_WIDTH ⟨_, rfl⟩) pa_nil))))))
    (pss_one ps_never)
    pss_nil)), ?_⟩
  refine ⟨_, rfl, i, 0, some 120, rfl, _, rfl, ?_⟩
  rw [decide_eq_true ⟨h0, fun j h => by cases h; exact h1⟩]
  exact iteF q
def sp_check_sum : Sp := fun vs H Q _ => ∃ m t : Int, vs = [.int m, .int t] ∧ 1 ≤ m ∧ 0 ≤ t ∧ Q .non H
theorem G_check_sum (T : Top K mg) : FnOk P w K mg base CX0 4 T.f_check_sum T.fd_check_sum ["many", "total"] sp_check_sum := by
  refine T.F_check_sum.ok sc_check_sum (fun vs H Q E h => by obtain ⟨m, t, rfl, _⟩ := h; rfl) (fun cdv A outer s H vs Q E hr h => ?_)
  obtain ⟨m, t, rfl, h0, h1, q⟩ := h
  refine ⟨_, PSs.nox (pss_cons (ps_expr (pe_call (G_check_number T) (hr.mono (by decide)) (by rfl) T.g_check_number T.F_check_number.kp T.b_check_number .nil pass0 (pa_cons (pv 0) (pa_cons pe_int (pa_cons pe_non pa_nil)))))
  (pss_one (ps_expr (pe_call (G_check_number T) (hr.mono (by decide)) (by rfl) T.g_check_number T.F_check_number.kp T.b_check_number .nil pass0 (pa_cons (pv 1) (pa_cons pe_int (pa_cons pe_non pa_nil))))))), ?_⟩
  refine ⟨_, rfl, m, 1, none, rfl, h0, (fun j h => nomatch h), ?_⟩
  exact ⟨_, rfl, t, 0, none, rfl, h1, (fun j h => nomatch h), q⟩
def sp_rounded_up : Sp := fun vs H Q _ => ∃ (t : Int) (u : Int), vs = [.int t, .int u] ∧ 0 < u ∧ u.natAbs < 2 ^ 200 ∧ Q (.int (rup t u)) H
theorem G_rounded_up (T : Top K mg) : FnOk P w K mg base CX0 1 T.f_rounded_up T.fd_rounded_up ["top", "under"] sp_rounded_up := by
  refine T.F_rounded_up.ok sc_rounded_up (fun vs H Q E h => by obtain ⟨t, u, rfl, _⟩ := h; rfl) (fun cdv A outer s H vs Q E hr h => ?_)
  obtain ⟨t, u, rfl, hu, hb, q⟩ := h
  refine ⟨_, PSs.nox (pss_one (ps_ret (pe_callB (call_max2 rfl) (by rfl) T.n_max (by decide +kernel) (pa_cons pe_int (pa_cons (pe_un un_neg (pe_op op_fdivW (pe_un un_neg (pv 0)) (pv 1))) pa_nil))))), ?_⟩
  unfold rup at q
  refine ⟨_, rfl, _, rfl, _, rfl, _, _, rfl, rfl, wide_div (b := 200) hu hb (by decide) (by decide), _, rfl, _, _, rfl, ?_⟩
  have e : (if -(-t / u) > 0 then -(-t / u) else 0) = max 0 (-(-t / u)) := by omega
  rw [e]
  exact q
theorem rep_one (k : Nat) (x : Int) : (List.replicate k [V.int x]).flatten = (List.replicate k x).map V.int := by
  induction k with
  | zero => rfl
  | succ k ih => rw [List.replicate_succ, List.flatten_cons, ih, List.replicate_succ]; rfl
theorem leftShl (k : Nat) : (1 : Int) * 2 ^ ((k : Int)).toNat = 2 ^ k := by rw [Int.one_mul, Int.toNat_natCast]
def sp_least_sum : Sp := fun vs H Q _ => ∃ (m : Int) (w : Nat), vs = [.int m, .int w] ∧ 0 ≤ m ∧ m ≤ 10 ^ 12 ∧ w ≤ 200 ∧ Q (.int (lsF m w)) H
theorem G_least_sum (T : Top K mg) : FnOk P w K mg base CX0 1 T.f_least_sum T.fd_least_sum ["many", "width"] sp_least_sum := by
  refine T.F_least_sum.ok sc_least_sum (fun vs H Q E h => by obtain ⟨m, w, rfl, _⟩ := h; rfl) (fun cdv A outer s H vs Q E hr h => ?_)
  obtain ⟨m, w, rfl, hm, hm2, hw, q⟩ := h
  refine ⟨_, PSs.nox (pss_one (ps_ret (pe_ifExp (pt_cmpR op_eq (pv 1) pe_int (nomark _)) pe_int (pe_op op_add (pe_op op_shl (pv 0) (pe_op op_sub (pv 1) pe_int)) (pe_op op_shl pe_int (pv 1)))))), ?_⟩
  refine ⟨_, rfl, rfl, _, rfl, ?_⟩
  unfold lsF at q
  by_cases c : w = 0
  · rw [if_pos c] at q
    exact iteET (by omega) q
  · rw [if_neg c] at q
    refine iteEF (by omega) ?_
    refine ⟨_, rfl, _, rfl, _, _, rfl, rfl, _, _, rfl, rfl, ⟨by omega, by omega, by omega⟩, _, rfl, _, _, rfl, rfl, ⟨by omega, by omega, by decide⟩, _, _, rfl, rfl, ?_⟩
    walk_at "b"
    rw [leftShl, show ((w : Int) - 1).toNat = w - 1 by omega]
    exact q
def sp_greatest_fold : Sp := fun vs H Q _ => ∃ (w : Nat), vs = [.int w] ∧ w ≤ 200 ∧ Q (.int (gF w)) H
theorem G_greatest_fold (T : Top K mg) : FnOk P w K mg base CX0 1 T.f_greatest_fold T.fd_greatest_fold ["width"] sp_greatest_fold := by
  refine T.F_greatest_fold.ok sc_greatest_fold (fun vs H Q E h => by obtain ⟨w, rfl, _⟩ := h; rfl) (fun cdv A outer s H vs Q E hr h => ?_)
  obtain ⟨w, rfl, hw, q⟩ := h
  refine ⟨_, PSs.nox (pss_one (ps_ret (pe_op op_sub (pe_op op_mul pe_int (pe_op op_shl pe_int (pv 0))) pe_int))), ?_⟩
  refine ⟨_, rfl, _, _, rfl, rfl, ⟨by omega, by omega, by decide⟩, _, _, rfl, rfl, .inl ⟨by decide, by decide⟩, _, _, rfl, rfl, ?_⟩
  walk_at "b"
  rw [leftShl]
  exact q
theorem gF_big {m t : Int} (hm : 1 ≤ m) {w k : Nat} (h : m * gF w < t) (ht : t < 2 ^ k) : w < k := by
  rcases Nat.lt_or_ge w k with z | z
  · exact z
  · have h1 := p2_le z
    have h2 : 1 * gF w ≤ m * gF w := Int.mul_le_mul_of_nonneg_right hm (gF_pos w)
    unfold gF at h2 h
    have := p2 w
    omega
theorem lsF_big {m t : Int} (hm : 1 ≤ m) {w k : Nat} (h : lsF m (w + 1) ≤ t) (ht : t < 2 ^ k) : w < k := by
  rcases Nat.lt_or_ge w k with z | z
  · exact z
  · have h1 := p2_le z
    rw [lsF_succ] at h
    have := p2 w
    have : 0 ≤ m * 2 ^ w := Int.mul_nonneg (by omega) (by omega)
    omega
def sp_possible_widths : Sp := fun vs H Q _ => ∃ (m t : Int), vs = [.int m, .int t] ∧ 1 ≤ m ∧ m ≤ 10 ^ 12 ∧ 0 ≤ t ∧ t < 2 ^ 100 ∧ ∀ (F L : Nat) H' p, Same H H' → H p = none → H' p = some (.tup [.int F, .int L]) → F ≤ 100 → Poss m t F L → Q (.ref p) H'
theorem G_possible_widths (T : Top K mg) : FnOk P w K mg base CX0 5 T.f_possible_widths T.fd_possible_widths ["many", "total"] sp_possible_widths := by
  refine T.F_possible_widths.ok sc_possible_widths (fun vs H Q E h => by obtain ⟨m, t, rfl, _⟩ := h; rfl) (fun cdv A outer s H vs Q E hr h => ?_)
  obtain ⟨m, t, rfl, hm, hm2, ht, ht2, q⟩ := h
  refine ⟨_, PSs.nox (pss_cons (ps_expr (pe_call (G_check_sum T) (hr.mono (by decide)) (by rfl) T.g_check_sum T.F_check_sum.kp T.b_check_sum .nil pass0 (pa_cons (pv 0) (pa_cons (pv 1) pa_nil))))
  (pss_cons (ps_set (i := 2) sc_possible_widths.nd rfl (by first | exact Or.inl rfl | exact Or.inr rfl) pe_int)
  (pss_cons (ps_while PassesOwn.never (pt_cmpR op_lt (pe_op op_mul (pv 0) (pe_call (G_greatest_fold T) (hr.mono (by decide)) (by rfl) T.g_greatest_fold T.F_greatest_fold.kp T.b_greatest_fold .nil pass0 (pa_cons (pv 2) pa_nil))) (pv 1) (nomark _))
    (pss_one (ps_set (i := 2) sc_possible_widths.nd rfl (by first | exact Or.inl rfl | exact Or.inr rfl) (pe_op op_add (pv 2) pe_int))))
  (pss_cons (ps_set (i := 3) sc_possible_widths.nd rfl (by first | exact Or.inl rfl | exact Or.inr rfl) (pv 2))
  (pss_cons (ps_while PassesOwn.never (pt_cmpR op_le (pe_call (G_least_sum T) (hr.mono (by decide)) (by rfl) T.g_least_sum T.F_least_sum.kp T.b_least_sum .nil pass0 (pa_cons (pv 0) (pa_cons (pe_op op_add (pv 3) pe_int) pa_nil))) (pv 1) (nomark _))
    (pss_one (ps_set (i := 3) sc_possible_widths.nd rfl (by first | exact Or.inl rfl | exact Or.inr rfl) (pe_op op_add (pv 3) pe_int))))
  (pss_one (ps_ret (pe_tup (pa_cons (pv 2) (pa_cons (pv 3) pa_nil)))))))))), ?_⟩
  refine ⟨_, rfl, _, rfl, m, t, rfl, hm, ht, ?_⟩
  refine ⟨fun k σ H1 => ∃ f : Nat, σ = [some (.int m), some (.int t), some (.int f), none] ∧ H1 = H ∧ k = 101 - f ∧ f ≤ 100 ∧ ∀ w, w < f → m * gF w < t, ⟨101, 0, rfl, rfl, rfl, by omega, fun w h => absurd h (by omega)⟩, ?_⟩
  rintro k σ H1 ⟨f, rfl, rfl, hk, hf, hlo⟩
  refine ⟨_, rfl, _, rfl, f, rfl, by omega, _, _, rfl, rfl, .inl ⟨by omega, by omega⟩, _, rfl, _, _, rfl, rfl, _, rfl, ite2 (fun c => ?_) (fun c => ?_)⟩
  · have c1 := of_decide_eq_true c
    have := gF_big hm c1 ht2
    refine ⟨fun σ' H' => σ' = [some (.int m), some (.int t), some (.int ((f + 1 : Nat) : Int)), none] ∧ H' = H1, fun σ' H' ⟨e1, e2⟩ => ⟨101 - (f + 1), by omega, f + 1, e1, e2, rfl, by omega, fun w h => ?_⟩, ?_⟩
    · rcases Nat.lt_or_ge w f with z | z
      · exact hlo w z
      · have : w = f := by omega
        subst this
        exact c1
    · exact ⟨_, rfl, _, _, rfl, rfl, rfl, rfl⟩
  · have c1 : t ≤ m * gF f := Int.not_lt.mp fun z => c (decide_eq_true z)
    refine ⟨_, rfl, ?_⟩
    refine ⟨fun k σ H2 => ∃ l : Nat, σ = [some (.int m), some (.int t), some (.int f), some (.int l)] ∧ H2 = H1 ∧ k = 201 - l ∧ l ≤ 200 ∧ f ≤ l ∧ ∀ w, f < w → w ≤ l → lsF m w ≤ t, ⟨201 - f, f, rfl, rfl, rfl, by omega, Nat.le_refl _, fun w h1 h2 => absurd h2 (by omega)⟩, ?_⟩
    rintro k2 σ H2 ⟨l, rfl, rfl, hk2, hl, hfl, hup⟩
    have e1 : (l : Int) + 1 = ((l + 1 : Nat) : Int) := by omega
    refine ⟨_, rfl, _, rfl, _, _, rfl, rfl, ?_⟩
    walk_at "b"
    rw [e1]
    by_cases l2 : l + 1 ≤ 200
    · refine ⟨m, l + 1, rfl, by omega, hm2, l2, _, rfl, _, _, rfl, rfl, _, rfl, ite2 (fun c => ?_) (fun c => ?_)⟩
      · have c2 := of_decide_eq_true c
        have := lsF_big hm c2 ht2
        refine ⟨fun σ' H' => σ' = [some (.int m), some (.int t), some (.int f), some (.int ((l + 1 : Nat) : Int))] ∧ H' = H2, fun σ' H' ⟨e1, e2⟩ => ⟨201 - (l + 1), by omega, l + 1, e1, e2, rfl, by omega, by omega, fun w h1 h2 => ?_⟩, ?_⟩
        · rcases Nat.lt_or_ge l w with z | z
          · have : w = l + 1 := by omega
            subst this
            exact c2
          · exact hup w h1 z
        · exact ⟨_, rfl, _, _, rfl, rfl, rfl, rfl⟩
      · have c2 : t < lsF m (l + 1) := Int.not_le.mp fun z => c (decide_eq_true z)
        refine ⟨_, rfl, _, rfl, (show 2 ≤ sizeLine by decide), fun p np => ?_⟩
        exact q f l _ p (same_upd np) np upd_same hf ⟨c1, hlo, hfl, hup, c2⟩
    · exfalso
      have h1 := hup l (by omega) (Nat.le_refl _)
      obtain ⟨l', rfl⟩ : ∃ l', l = l' + 1 := ⟨l - 1, by omega⟩
      have := lsF_big hm h1 ht2
      omega
def leftG (top : Int) : List Int → Int → Int
  | [], l => l
  | u :: us, l => leftG top us (l - min l (top - u))
theorem left_app (top u : Int) : ∀ (us : List Int) (l : Int), leftG top (us ++ [u]) l = leftG top us l - min (leftG top us l) (top - u)
  | [], _ => rfl
  | v :: us, l => left_app top u us _
theorem fill_app (top u : Int) : ∀ (us : List Int) (l : Int), fillG top (us ++ [u]) l = fillG top us l ++ [u + min (leftG top us l) (top - u)]
  | [], _ => rfl
  | v :: us, l => by show _ :: fillG top (us ++ [u]) _ = _ :: _; rw [fill_app top u us]; rfl
def sp_filled (K : PySem.W.Frag) : Sp := fun vs H Q _ => ∃ (a : Addr) (us : List Int) (top left : Int), vs = [.ref a, .int top, .int left] ∧ SqL K H a (us.map V.int) ∧ us.length ≤ 1000 ∧ ∀ H' p, Same H H' → H p = none → H' p = some (.lst ((fillG top us left).map V.int)) → Q (.ref p) H'
theorem G_filled (T : Top K mg) : FnOk P w K mg base CX0 1 T.f_filled T.fd_filled ["folds", "top", "left"] (sp_filled K) := by
  refine T.F_filled.ok sc_filled (fun vs H Q E h => by obtain ⟨a, us, top, left, rfl, _⟩ := h; rfl) (fun cdv A outer s H vs Q E hr h => ?_)
  obtain ⟨a, us, top, left, rfl, hA, hm, q⟩ := h
  refine ⟨_, PSs.nox (pss_cons (ps_set (i := 3) sc_filled.nd rfl (by first | exact Or.inl rfl | exact Or.inr rfl) (pe_lst pa_nil))
  (pss_cons (ps_for PassesOwn.never rfl (k_piL K rfl (pv 0)) (pg_name (i := 4) sc_filled.nd rfl (by first | exact Or.inl rfl | exact Or.inr rfl))
    (pss_cons (ps_set (i := 5) sc_filled.nd rfl (by first | exact Or.inl rfl | exact Or.inr rfl) (pe_callB (call_min2 rfl) (by rfl) T.n_min (by decide +kernel) (pa_cons (pv 2) (pa_cons (pe_op op_sub (pv 1) (pv 4)) pa_nil))))
  (pss_cons (ps_expr (pe_bm PySem.F.plainAttrs_list PySem.F.slot_list_append PySem.F.type_list_append mt_append (pv 3) (pa_cons (pe_op op_add (pv 4) (pv 5)) pa_nil)))
  (pss_one (ps_set (i := 2) sc_filled.nd rfl (by first | exact Or.inl rfl | exact Or.inr rfl) (pe_op op_sub (pv 2) (pv 5)))))))
  (pss_one (ps_ret (pv 3))))), ?_⟩
  refine ⟨Nat.zero_le _, fun f nf => ?_⟩
  obtain ⟨H1, e1, s1, h1⟩ := fresh (.lst []) nf
  rw [e1]
  refine ⟨_, rfl, a, rfl, ⟨_, s1.seq hA⟩, for_list (K := K) (a := a) (xs := us.map V.int) (fun i σ H2 => ∃ v4 v5, σ = [some (.ref a), some (.int top), some (.int (leftG top (us.take i) left)), some (.ref f), v4, v5] ∧ Same H H2 ∧ H2 f = some (.lst ((fillG top (us.take i) left).map V.int))) ⟨none, none, rfl, s1, h1⟩ (fun i σ H2 _ ⟨_, _, _, s, _⟩ => s.seq hA) ?_ ?_⟩
  · rintro i x σ H2 hx ⟨v4, v5, rfl, s2, h2⟩
    obtain ⟨u, hu, rfl⟩ := int_at hx
    have hi : i < us.length := (List.getElem?_eq_some_iff.mp hu).1
    refine ⟨_, rfl, _, rfl, _, rfl, _, _, rfl, rfl, _, _, rfl, ?_⟩
    have em : (if top - u < leftG top (us.take i) left then top - u else leftG top (us.take i) left) = min (leftG top (us.take i) left) (top - u) := by omega
    rw [em]
    refine ⟨_, rfl, .inl ⟨rfl, _, .inl (.inl h2)⟩, _, rfl, _, rfl, _, _, rfl, rfl, f, _, _, rfl, rfl, h2, by rw [List.length_map, fillG_len, List.length_take]; exact Nat.lt_of_le_of_lt (Nat.min_le_left _ _) (small1000 (by omega)), ?_⟩
    have et : us.take (i + 1) = us.take i ++ [u] := by rw [List.take_add_one, hu]; rfl
    refine ⟨_, rfl, _, rfl, _, _, rfl, rfl, some (.int u), some (.int (min (leftG top (us.take i) left) (top - u))), ?_, same_over nf s2, ?_⟩
    · rw [et, left_app]
      rfl
    · rw [upd_same, et, fill_app, List.map_append]
      rfl
  · rintro σ H2 ⟨v4, v5, rfl, s2, h2⟩
    rw [List.length_map, List.take_length] at h2
    exact ⟨_, rfl, q _ f s2 nf h2⟩
def sp_width_row (K : PySem.W.Frag) : Sp := fun vs H Q _ => ∃ (m : Nat) (t : Int) (w : Nat), vs = [.int m, .int t, .int w] ∧ 1 ≤ m ∧ m ≤ 1000 ∧ 0 ≤ t ∧ w ≤ 120 ∧ ∀ H' v, Same H H' →
  ((¬ (lsF m w ≤ t ∧ t ≤ m * gF w) ∧ v = .non) ∨ ((lsF m w ≤ t ∧ t ≤ m * gF w) ∧ ∃ p, v = .ref p ∧ H p = none ∧ H' p = some (.lst ((wrow m t w).map V.int)))) → Q v H'
theorem G_width_row (T : Top K mg) : FnOk P w K mg base CX0 5 T.f_width_row T.fd_width_row ["many", "total", "width"] (sp_width_row K) := by
  refine T.F_width_row.ok sc_width_row (fun vs H Q E h => by obtain ⟨m, t, w, rfl, _⟩ := h; rfl) (fun cdv A outer s H vs Q E hr h => ?_)
  obtain ⟨m, t, w, rfl, hm, hm2, ht, hw, q⟩ := h
  refine ⟨_, PSs.nox (pss_cons (ps_expr (pe_call (G_check_sum T) (hr.mono (by decide)) (by rfl) T.g_check_sum T.F_check_sum.kp T.b_check_sum .nil pass0 (pa_cons (pv 0) (pa_cons (pv 1) pa_nil))))
  (pss_cons (ps_expr (pe_call (G_check_width T) (hr.mono (by decide)) (by rfl) T.g_check_width T.F_check_width.kp T.b_check_width .nil pass0 (pa_cons (pv 2) pa_nil)))
  (pss_cons (ps_if (PW.pt (pw_or (pt_cmpR op_lt (pv 1) (pe_call (G_least_sum T) (hr.mono (by decide)) (by rfl) T.g_least_sum T.F_least_sum.kp T.b_least_sum .nil pass0 (pa_cons (pv 0) (pa_cons (pv 2) pa_nil))) (nomark _)) (pw_or1 (pt_cmpR op_gt (pv 1) (pe_op op_mul (pv 0) (pe_call (G_greatest_fold T) (hr.mono (by decide)) (by rfl) T.g_greatest_fold T.F_greatest_fold.kp T.b_greatest_fold .nil pass0 (pa_cons (pv 2) pa_nil))) (nomark _)))))
    (pss_one (ps_ret pe_non))
    pss_nil)
  (pss_cons (ps_if (pt_cmpR op_eq (pv 2) pe_int (nomark _))
    (pss_one (ps_ret (pe_call (G_filled T) (hr.mono (by decide)) (by rfl) T.g_filled T.F_filled.kp T.b_filled .nil pass0 (pa_cons (pe_op op_rep (pe_lst (pa_cons pe_int pa_nil)) (pv 0)) (pa_cons pe_int (pa_cons (pv 1) pa_nil))))))
    pss_nil)
  (pss_cons (ps_set (i := 3) sc_width_row.nd rfl (by first | exact Or.inl rfl | exact Or.inr rfl) (pe_op op_cat (pe_lst (pa_cons (pe_op op_shl pe_int (pe_op op_sub (pv 2) pe_int)) pa_nil)) (pe_op op_rep (pe_lst (pa_cons (pe_op op_shl pe_int (pe_op op_sub (pv 2) pe_int)) pa_nil)) (pe_op op_sub (pv 0) pe_int))))
  (pss_one (ps_ret (pe_call (G_filled T) (hr.mono (by decide)) (by rfl) T.g_filled T.F_filled.kp T.b_filled .nil pass0 (pa_cons (pv 3) (pa_cons (pe_call (G_greatest_fold T) (hr.mono (by decide)) (by rfl) T.g_greatest_fold T.F_greatest_fold.kp T.b_greatest_fold .nil pass0 (pa_cons (pv 2) pa_nil)) (pa_cons (pe_op op_sub (pv 1) (pe_call (G_least_sum T) (hr.mono (by decide)) (by rfl) T.g_least_sum T.F_least_sum.kp T.b_least_sum .nil pass0 (pa_cons (pv 0) (pa_cons (pv 2) pa_nil)))) pa_nil))))))))))), ?_⟩
  refine ⟨_, rfl, _, rfl, m, t, rfl, by omega, ht, ?_⟩
  refine ⟨_, rfl, w, rfl, by omega, by omega, ?_⟩
  refine ⟨_, rfl, _, rfl, _, rfl, m, w, rfl, by omega, by omega, by omega, _, _, rfl, rfl, _, rfl, ite2 (fun c => ?_) (fun c => ?_)⟩
  · have c1 := of_decide_eq_true c
    exact q _ _ (Same.refl _) (.inl ⟨fun z => by omega, rfl⟩)
  have c1 : lsF m w ≤ t := Int.not_lt.mp fun z => c (decide_eq_true z)
  refine ⟨_, rfl, _, rfl, _, rfl, w, rfl, by omega, _, _, rfl, rfl, .inl ⟨by omega, by omega⟩, _, _, rfl, rfl, _, rfl, ite2 (fun c => ?_) (fun c => ?_)⟩
  · have c2 : t > m * gF w := of_decide_eq_true c
    exact q _ _ (Same.refl _) (.inl ⟨fun z => by omega, rfl⟩)
  have c2 : t ≤ m * gF w := Int.not_lt.mp fun z => c (decide_eq_true z)
  refine ⟨_, rfl, rfl, _, rfl, ?_⟩
  have hls := firsts_len hm w
  by_cases w0 : w = 0
  · refine iteET (by omega) ?_
    subst w0
    refine ⟨(show 1 ≤ sizeLine by decide), fun p1 n1 => ?_⟩
    obtain ⟨H1, e1, s1, h1⟩ := fresh (.lst [V.int 0]) n1
    rw [e1]
    refine ⟨_, rfl, p1, m, _, rfl, rfl, h1, by omega, by omega, by rw [Int.toNat_natCast]; show 1 * m ≤ _; rw [Nat.one_mul]; exact Nat.le_of_lt (small1000 (by omega)), fun p2' n2 => ?_⟩
    rw [Int.toNat_natCast]
    have er : (List.replicate m [V.int 0]).flatten = (firstsF m 0).map V.int := by
      unfold firstsF
      rw [if_pos rfl, rep_one]
    rw [er]
    obtain ⟨H2, e2, s2, h2⟩ := fresh (.lst ((firstsF m 0).map V.int)) n2
    rw [e2]
    refine ⟨_, rfl, p2', firstsF m 0, 2, t, rfl, .inl (.inl h2), by omega, fun H3 p s3 np h3 => ?_⟩
    have s03 := s1.trans (s2.trans s3)
    refine q H3 _ s03 (.inr ⟨⟨c1, c2⟩, p, rfl, (s1.trans s2).free np, ?_⟩)
    rw [h3]
    unfold wrow
    have : t - lsF (m : Int) 0 = t := by show t - 0 = t; omega
    rw [this]
    rfl
  · refine iteEF (by omega) ?_
    have ew : ((w : Int) - 1).toNat = w - 1 := by omega
    refine ⟨_, rfl, _, _, rfl, rfl, _, _, rfl, rfl, ⟨by omega, by omega, by decide⟩, (show 1 ≤ sizeLine by decide), fun p1 n1 => ?_⟩
    obtain ⟨H1, e1, s1, h1⟩ := fresh (.lst [V.int (3 * 2 ^ ((w : Int) - 1).toNat)]) n1
    rw [e1]
    refine ⟨_, rfl, _, _, rfl, rfl, _, _, rfl, rfl, ⟨by omega, by omega, by decide⟩, (show 1 ≤ sizeLine by decide), fun p2' n2 => ?_⟩
    obtain ⟨H2, e2, s2, h2⟩ := fresh (.lst [V.int (1 * 2 ^ ((w : Int) - 1).toNat)]) n2
    rw [e2]
    have em : ((m : Int) - 1).toNat = m - 1 := by omega
    refine ⟨_, rfl, _, _, rfl, rfl, p2', _, _, rfl, rfl, h2, by omega, by omega, by rw [em]; show 1 * (m - 1) ≤ _; rw [Nat.one_mul]; exact Nat.le_of_lt (small1000 (by omega)), fun p3 n3 => ?_⟩
    rw [em]
    have er : (List.replicate (m - 1) [V.int (1 * 2 ^ ((w : Int) - 1).toNat)]).flatten = (List.replicate (m - 1) (2 ^ (w - 1) : Int)).map V.int := by
      rw [ew, Int.one_mul, rep_one]
    rw [er]
    obtain ⟨H3, e3, s3, h3⟩ := fresh (.lst ((List.replicate (m - 1) (2 ^ (w - 1) : Int)).map V.int)) n3
    rw [e3]
    refine ⟨_, _, _, _, rfl, rfl, s3 _ _ (s2 _ _ h1), h3, by rw [List.length_map, List.length_replicate]; exact Nat.le_of_lt (small1000 (show 1 + (m - 1) ≤ 1000 by omega)), fun p4 n4 => ?_⟩
    have ef : [V.int (3 * 2 ^ ((w : Int) - 1).toNat)] ++ (List.replicate (m - 1) (2 ^ (w - 1) : Int)).map V.int = (firstsF m w).map V.int := by
      unfold firstsF
      rw [if_neg w0, ew]
      rfl
    rw [ef]
    obtain ⟨H4, e4, s4, h4⟩ := fresh (.lst ((firstsF m w).map V.int)) n4
    rw [e4]
    have s04 := s1.trans (s2.trans (s3.trans s4))
    refine ⟨_, rfl, _, rfl, w, rfl, by omega, _, rfl, _, rfl, _, rfl, m, w, rfl, by omega, by omega, by omega, _, _, rfl, rfl, ?_⟩
    refine ⟨p4, firstsF m w, gF w, t - lsF m w, rfl, .inl (.inl h4), by omega, fun H5 p s5 np h5 => ?_⟩
    exact q H5 _ (s04.trans s5) (.inr ⟨⟨c1, c2⟩, p, rfl, s04.free np, h5⟩)
def sp_price_bounds : Sp := fun vs H Q _ => ∃ (m t : Int) (w : Nat), vs = [.int m, .int t, .int w] ∧ 1 ≤ m ∧ m ≤ 10 ^ 13 ∧ 0 ≤ t ∧ w ≤ 120 ∧ ∀ H' p, Same H H' → H p = none → H' p = some (.tup [.int (m * ((w : Int) + 1) + rup (t - m * (2 ^ w - 1)) (2 ^ w)), .int (m * ((w : Int) + 1) + t / 2 ^ w)]) → Q (.ref p) H'
theorem G_price_bounds (T : Top K mg) : FnOk P w K mg base CX0 5 T.f_price_bounds T.fd_price_bounds ["many", "total", "width"] sp_price_bounds := by
  refine T.F_price_bounds.ok sc_price_bounds (fun vs H Q E h => by obtain ⟨m, t, w, rfl, _⟩ := h; rfl) (fun cdv A outer s H vs Q E hr h => ?_)
  obtain ⟨m, t, w, rfl, hm, hm2, ht, hw, q⟩ := h
  refine ⟨_, PSs.nox (pss_cons (ps_expr (pe_call (G_check_sum T) (hr.mono (by decide)) (by rfl) T.g_check_sum T.F_check_sum.kp T.b_check_sum .nil pass0 (pa_cons (pv 0) (pa_cons (pv 1) pa_nil))))
  (pss_cons (ps_expr (pe_call (G_check_width T) (hr.mono (by decide)) (by rfl) T.g_check_width T.F_check_width.kp T.b_check_width .nil pass0 (pa_cons (pv 2) pa_nil)))
  (pss_cons (ps_set (i := 3) sc_price_bounds.nd rfl (by first | exact Or.inl rfl | exact Or.inr rfl) (pe_call (G_rounded_up T) (hr.mono (by decide)) (by rfl) T.g_rounded_up T.F_rounded_up.kp T.b_rounded_up .nil pass0 (pa_cons (pe_op op_sub (pv 1) (pe_op op_mul (pv 0) (pe_op op_sub (pe_op op_shl pe_int (pv 2)) pe_int))) (pa_cons (pe_op op_shl pe_int (pv 2)) pa_nil))))
  (pss_one (ps_ret (pe_tup (pa_cons (pe_op op_add (pe_op op_mul (pv 0) (pe_op op_add (pv 2) pe_int)) (pv 3)) (pa_cons (pe_op op_add (pe_op op_mul (pv 0) (pe_op op_add (pv 2) pe_int)) (pe_op op_shr (pv 1) (pv 2))) pa_nil)))))))), ?_⟩
  refine ⟨_, rfl, _, rfl, m, t, rfl, by omega, ht, ?_⟩
  refine ⟨_, rfl, w, rfl, by omega, by omega, ?_⟩
  have hp := p2 w
  have hp2 := p2_le (show w ≤ 120 by omega)
  refine ⟨_, rfl, _, rfl, _, rfl, _, _, rfl, rfl, ⟨by omega, by omega, by decide⟩, _, _, rfl, rfl, _, _, rfl, rfl, .inl ⟨by omega, by omega⟩, _, _, rfl, rfl, _, rfl, _, _, rfl, rfl, ⟨by omega, by omega, by decide⟩, ?_⟩
  walk_at "b"
  rw [leftShl]
  refine ⟨t - m * (2 ^ w - 1), 2 ^ w, rfl, hp, by omega, ?_⟩
  refine ⟨_, rfl, _, rfl, _, _, rfl, rfl, _, _, rfl, rfl, .inl ⟨by omega, by omega⟩, _, rfl, _, _, rfl, rfl, _, rfl, _, rfl, _, _, rfl, rfl, _, _, rfl, rfl, .inl ⟨by omega, by omega⟩, _, rfl, _, rfl, _, _, rfl, rfl, by omega, _, _, rfl, rfl, (show 2 ≤ sizeLine by decide), fun p np => ?_⟩
  walk_at "b"
  rw [Int.toNat_natCast]
  exact q _ p (same_upd np) np upd_same
end
end My

namespace My
theorem price_up {ns : List Int} (nn : ∀ n ∈ ns, 0 ≤ n) {f : Nat} (h : cc ns f ≤ ns.length) : ∀ d, price ns f ≤ price ns (f + d)
  | 0 => Int.le_refl _
  | d + 1 => by
    have ih := price_up nn h d
    have h1 := price_step ns (f + d)
    have h2 := cc_le ns nn f d
    rw [show f + (d + 1) = f + d + 1 by omega, h1]
    omega
theorem fst_price {m : Nat} {t : Int} {ns : List Int} (h : Row m t ns) {f : Nat} (hf : Fst ns f) : (∀ w, price ns f ≤ price ns w) ∧ ∀ w, w < f → price ns f < price ns w := by
  have lt : ∀ w, w < f → price ns f < price ns w := fun w hw => by
    have := fall ns f hf.ne (f - w) (by omega) (by omega)
    rwa [show f - (f - w) = w by omega] at this
  refine ⟨fun w => ?_, lt⟩
  rcases Nat.lt_or_ge w f with z | z
  · exact Int.le_of_lt (lt w z)
  · have := price_up h.2.2 hf.at_ (w - f)
    rwa [show f + (w - f) = w by omega] at this
theorem filter_first {p : Nat → Bool} {N f : Nat} (hf : f < N) (h1 : p f = true) (h2 : ∀ w, w < f → p w = false) : ∃ r, (List.range N).filter p = f :: r := by
  have e : List.range N = List.range f ++ f :: List.range' (f + 1) (N - f - 1) := by
    rw [List.range_eq_range', List.range_eq_range', show N = f + (N - f - 1 + 1) by omega, ← List.range'_append_1, Nat.zero_add, List.range'_succ, show f + (N - f - 1 + 1) - f - 1 = N - f - 1 by omega]
  rw [e, List.filter_append, List.filter_eq_nil_iff.mpr (fun w hw => by rw [h2 w (List.mem_range.mp hw)]; decide), List.nil_append, List.filter_cons, if_pos h1]
  exact ⟨_, rfl⟩
/-! ### a row that is cheap at a width -/
theorem left_zero (top : Int) (ht : 0 ≤ top) : ∀ (m : Nat) (l : Int), 0 ≤ l → leftG top (List.replicate m 0) l = max 0 (l - m * top)
  | 0, l, h => by simp [leftG]; omega
  | m + 1, l, h => by
    show leftG top (List.replicate m 0) (l - min l (top - 0)) = _
    have hm : 0 ≤ (m : Int) * top := Int.mul_nonneg (Int.natCast_nonneg _) ht
    rw [left_zero top ht m _ (by omega), Int.natCast_add, Int.add_mul]
    omega
def cheapF (m : Nat) (t : Int) (w : Nat) : List Int := (fillG (2 ^ w - 1) (List.replicate m 0) t).set 0 ((fillG (2 ^ w - 1) (List.replicate m 0) t).getD 0 0 + leftG (2 ^ w - 1) (List.replicate m 0) t)
theorem cheap_price {m : Nat} (hm : 1 ≤ m) {t : Int} (ht : 0 ≤ t) (w : Nat) : price (cheapF m t w) w = m * ((w : Int) + 1) + rup (t - m * (2 ^ w - 1)) (2 ^ w) := by
  have hp := p2 w
  obtain ⟨k, rfl⟩ : ∃ k, m = k + 1 := ⟨m - 1, by omega⟩
  have hl := left_zero (2 ^ w - 1) (by omega) (k + 1) t ht
  have hlen : (cheapF (k + 1) t w).length = k + 1 := by unfold cheapF; rw [List.length_set, fillG_len, List.length_replicate]
  rw [price_fl, hlen]
  have hin := fillG_in (2 ^ w - 1) (List.replicate k 0) (t - min t (2 ^ w - 1 - 0)) (by omega) (fun u hu => by rw [(List.mem_replicate.mp hu).2]; omega) 0 (fun u hu => by rw [(List.mem_replicate.mp hu).2]; exact Int.le_refl _)
  have e : cheapF (k + 1) t w = (0 + min t (2 ^ w - 1 - 0) + max 0 (t - ((k + 1 : Nat) : Int) * (2 ^ w - 1))) :: fillG (2 ^ w - 1) (List.replicate k 0) (t - min t (2 ^ w - 1 - 0)) := by
    unfold cheapF
    rw [hl]
    rfl
  rw [e, fl_cons, fl_small hin]
  have hz : (0 + min t (2 ^ w - 1 - 0) + max 0 (t - ((k + 1 : Nat) : Int) * (2 ^ w - 1))) / 2 ^ w = rup (t - ((k + 1 : Nat) : Int) * (2 ^ w - 1)) (2 ^ w) := by
    have hk : 1 * (2 ^ w - 1) ≤ ((k + 1 : Nat) : Int) * (2 ^ w - 1) := Int.mul_le_mul_of_nonneg_right (by omega) (by omega)
    rcases Int.lt_or_le 0 (t - ((k + 1 : Nat) : Int) * (2 ^ w - 1)) with z | z
    · rw [← rup_div hp z]
      congr 1
      omega
    · have r0 : rup (t - ((k + 1 : Nat) : Int) * (2 ^ w - 1)) (2 ^ w) = 0 := by
        have h1 := rup_le (t := t - ((k + 1 : Nat) : Int) * (2 ^ w - 1)) hp (Int.le_refl 0) (by omega)
        have h2 := rup_nn (t - ((k + 1 : Nat) : Int) * (2 ^ w - 1)) (2 ^ w)
        omega
      rw [r0]
      exact Int.ediv_eq_zero_of_lt (by omega) (by omega)
  rw [hz, Int.mul_add, Int.mul_add]
  omega
theorem dear_price {m : Nat} (hm : 1 ≤ m) {t : Int} (w : Nat) : price (t :: List.replicate (m - 1) 0) w = m * ((w : Int) + 1) + t / 2 ^ w := by
  rw [price_fl, fl_cons, fl_small (fun n hn => by rw [(List.mem_replicate.mp hn).2]; have := p2 w; omega), List.length_cons, List.length_replicate, show m - 1 + 1 = m by omega, Int.mul_add, Int.mul_add]
  omega
theorem between {m : Nat} {t : Int} {ns : List Int} (h : Row m t ns) (w : Nat) : m * ((w : Int) + 1) + rup (t - m * (2 ^ w - 1)) (2 ^ w) ≤ price ns w ∧ price ns w ≤ m * ((w : Int) + 1) + t / 2 ^ w := by
  have hp := p2 w
  have h1 := fl_sum ns w
  have h2 := fl_le ns w
  rw [h.1, h.2.1] at h1
  rw [h.2.1] at h2
  have h3 := rup_le (t := t - m * (2 ^ w - 1)) hp (fl_nn ns w h.2.2) (by omega)
  rw [price_fl, h.1, Int.mul_add, Int.mul_add]
  omega
/-! ### sorted without repeats -/
theorem strict_ext {xs ys : List Int} (hx : xs.Pairwise (· < ·)) (hy : ys.Pairwise (· < ·)) (h : ∀ k, k ∈ xs ↔ k ∈ ys) : xs = ys := by
  have nx : xs.Nodup := hx.imp fun h => Int.ne_of_lt h
  have ny : ys.Nodup := hy.imp fun h => Int.ne_of_lt h
  exact List.Perm.eq_of_pairwise (fun a b _ _ h1 h2 => absurd h1 (by omega)) hx hy ((List.perm_ext_iff_of_nodup nx ny).mpr h)
def spanI (lo hi : Int) : List Int := (List.range (hi + 1 - lo).toNat).map fun i => lo + (i : Nat)
theorem span_mem {lo hi k : Int} : k ∈ spanI lo hi ↔ lo ≤ k ∧ k ≤ hi := by
  unfold spanI
  rw [List.mem_map]
  constructor
  · rintro ⟨i, hi', rfl⟩
    have := List.mem_range.mp hi'
    omega
  · rintro ⟨h1, h2⟩
    exact ⟨(k - lo).toNat, List.mem_range.mpr (by omega), by omega⟩
theorem span_up (lo hi : Int) : (spanI lo hi).Pairwise (· < ·) := by
  unfold spanI
  exact List.pairwise_map.mpr (List.pairwise_lt_range.imp fun {a b} h => by omega)
/-! ### small rows: all prices between are met -/
def lbF (j t w : Nat) : Int := ((j + 1 : Nat) : Int) * ((w : Int) + 1) + rup ((t : Int) - ((j + 1 : Nat) : Int) * (2 ^ w - 1)) (2 ^ w)
def ubF (j t w : Nat) : Int := ((j + 1 : Nat) : Int) * ((w : Int) + 1) + (t : Int) / 2 ^ w
def contB (j t : Nat) : Bool := decide ((rowsK j t).length < 64) && (List.range 7).all fun w => (List.range (ubF j t w + 1 - lbF j t w).toNat).all fun k => decide (lbF j t w + (k : Int) ∈ (rowsK j t).map fun r => price r w)
theorem cont_ok : ∀ j : Fin 4, ∀ t : Fin 40, (t.val < 11 - 2 * j.val ∨ j.val = 0) → contB j.val t.val = true := by decide +kernel
end My

namespace My
open PySem PySem.Spec PyProof.Rows L2 Pre
theorem at_ints {l : List Int} {k : Nat} (h : k < l.length) : atI (l.map V.int) (k : Int) = some (.int (l.getD k 0)) := by
  refine at_of (j := k) (by omega) ?_
  rw [List.getElem?_map, List.getElem?_eq_getElem h, List.getD_eq_getElem?_getD, List.getElem?_eq_getElem h]
  rfl
section
variable {P : Program} {w : World} {K : PySem.W.Frag} {mg : Str → Option Value} {base : Heap}
def sp_law_price (K : PySem.W.Frag) : Sp := fun vs H Q _ => ∃ (a : Addr) (ns : List Int) (v : Nat), vs = [.ref a, .int v] ∧ SqL K H a (ns.map V.int) ∧ v ≤ 200 ∧ Q (.int (price ns v)) H
theorem G_law_price (T : Top K mg) : FnOk P w K mg base CX0 1 T.f_law_price T.fd_law_price ["_law_folds", "_law_width"] (sp_law_price K) := by
  refine T.F_law_price.ok sc_law_price (fun vs H Q E h => by obtain ⟨a, ns, v, rfl, _⟩ := h; rfl) (fun cdv A outer s H vs Q E hr h => ?_)
  obtain ⟨a, ns, v, rfl, hA, hv, q⟩ := h
  refine ⟨_, PSs.nox (pss_cons (ps_set (i := 2) sc_law_price.nd rfl (by first | exact Or.inl rfl | exact Or.inr rfl) pe_int)
  (pss_cons (ps_for PassesOwn.never rfl (k_piL K rfl (pv 0)) (pg_name (i := 3) sc_law_price.nd rfl (by first | exact Or.inl rfl | exact Or.inr rfl))
    (pss_one (ps_set (i := 2) sc_law_price.nd rfl (by first | exact Or.inl rfl | exact Or.inr rfl) (pe_op op_add (pe_op op_add (pe_op op_add (pv 2) (pe_op op_fdivW (pv 3) (pe_op op_shl pe_int (pv 1)))) pe_int) (pv 1)))))
  (pss_one (ps_ret (pv 2))))), ?_⟩
  refine ⟨_, rfl, a, rfl, ⟨_, hA⟩, for_list (K := K) (a := a) (xs := ns.map V.int) (fun i σ H1 => ∃ v3, σ = [some (.ref a), some (.int v), some (.int (price (ns.take i) v)), v3] ∧ H1 = H) ⟨none, rfl, rfl⟩ (fun i σ H1 _ ⟨_, _, e⟩ => by rw [e]; exact hA) ?_ ?_⟩
  · rintro i x σ H1 hx ⟨v3, rfl, rfl⟩
    obtain ⟨n, hn, rfl⟩ := int_at hx
    have hp := pow_pos' v
    have hp2 : (2 : Int) ^ v ≤ 2 ^ 200 := pow2_le hv
    refine ⟨_, rfl, _, rfl, _, rfl, _, _, rfl, rfl, ⟨by omega, by omega, by decide⟩, _, _, rfl, rfl, ?_, ?_⟩
    · show CDivW n (1 * 2 ^ ((v : Int)).toNat)
      rw [Int.one_mul, Int.toNat_natCast]
      exact wide_div (b := 201) hp (by omega) (by decide) (by decide)
    dsimp only
    rw [Int.one_mul, Int.toNat_natCast]
    refine ⟨_, _, rfl, rfl, _, _, rfl, rfl, _, rfl, _, _, rfl, rfl, some (.int n), ?_, rfl⟩
    rw [price_take ns v hn]
    rfl
  · rintro σ H1 ⟨v3, rfl, rfl⟩
    rw [List.length_map, List.take_length]
    exact ⟨_, rfl, q⟩
end
end My

namespace My
open PySem PySem.Spec PyProof.Rows L2 Pre
theorem rowsK_row (j t : Nat) (r : List Int) (h : r ∈ rowsK j t) : r.length = j + 1 := ((rowsK_ok j t r).mp h).1
theorem flat_next {α β : Type} (f : α → List β) (l : List α) (i : Nat) (x : α) (h : l[i]? = some x) : (l.take (i + 1)).flatMap f = (l.take i).flatMap f ++ f x := by
  rw [List.take_add_one, h, List.flatMap_append]
  simp
theorem RowsIn.app {H : Hp} {p p1 p2 : Addr} {r1 r2 : List (List Int)} {as bs : List Addr} (h1 : as.length = r1.length) (k1 : ∀ (i : Nat) (a : Addr) (r : List Int), as[i]? = some a → r1[i]? = some r → H a = some (.lst (r.map V.int)))
    (h2 : bs.length = r2.length) (k2 : ∀ (i : Nat) (a : Addr) (r : List Int), bs[i]? = some a → r2[i]? = some r → H a = some (.lst (r.map V.int))) (hp : H p = some (.lst (as.map V.ref ++ bs.map V.ref))) : RowsIn H p (r1 ++ r2) := by
  refine ⟨as ++ bs, by rw [hp, List.map_append], by rw [List.length_append, List.length_append, h1, h2], fun i a r ha hr => ?_⟩
  by_cases hi : i < as.length
  · rw [List.getElem?_append_left hi] at ha
    rw [List.getElem?_append_left (by omega)] at hr
    exact k1 i a r ha hr
  · rw [List.getElem?_append_right (by omega)] at ha
    rw [List.getElem?_append_right (by omega), ← h1] at hr
    exact k2 _ a r ha hr
section
variable {P : Program} {w : World} {K : PySem.W.Frag} {mg : Str → Option Value} {base : Heap}
def sp_rows (k : Nat) : Sp := fun vs H Q _ => ∃ (j t : Nat), vs = [.int ((j : Int) + 1), .int t] ∧ j < k ∧ j ≤ 3 ∧ (t ≤ 12 ∨ j = 0) ∧ ∀ H' p, Same H H' → RowsIn H' p (rowsK j t) → Q (.ref p) H'
theorem rows_fn (T : Top K mg) : ∀ k, FnOk P w K mg base CX0 k T.f_law_all_rows T.fd_law_all_rows ["_law_many", "_law_total"] (sp_rows k)
  | 0 => ⟨fun vs H Q E h => by obtain ⟨j, t, _, hj, _⟩ := h; omega, fun _ _ _ _ _ _ _ _ _ _ _ _ _ h => by obtain ⟨j, t, _, hj, _⟩ := h; omega⟩
  | k + 1 => by
    have ih := rows_fn T k
    refine T.F_law_all_rows.ok sc_law_all_rows (fun vs H Q E h => by obtain ⟨j, t, rfl, _⟩ := h; rfl) (fun cdv A outer s H vs Q E hr h => ?_)
    obtain ⟨j, t, rfl, hj, hj3, ht, q⟩ := h
    refine ⟨_, PSs.nox (pss_cons (ps_set (i := 2) sc_law_all_rows.nd rfl (by first | exact Or.inl rfl | exact Or.inr rfl) (pe_lst (pa_cons (pe_lst (pa_cons (pv 1) pa_nil)) pa_nil)))
  (pss_cons (ps_if (pt_cmpR op_gt (pv 0) pe_int (nomark _))
    (pss_cons (ps_set (i := 2) sc_law_all_rows.nd rfl (by first | exact Or.inl rfl | exact Or.inr rfl) (pe_lst pa_nil))
  (pss_one (ps_for PassesOwn.never rfl (pi_range1 (by rfl) T.n_range (pa_cons (pe_op op_add (pv 1) pe_int) pa_nil)) (pg_name (i := 3) sc_law_all_rows.nd rfl (by first | exact Or.inl rfl | exact Or.inr rfl))
    (pss_one (ps_set (i := 2) sc_law_all_rows.nd rfl (by first | exact Or.inl rfl | exact Or.inr rfl) (pe_op op_cat (pv 2) (pe_lc (own := [("_law_row", 4)]) (g := gName 4) (tt := tYes) (by rfl) sc_law_all_rows.nd (k_piL K rfl (pe_call ih hr (by rfl) T.g_law_all_rows T.F_law_all_rows.kp T.b_law_all_rows .nil pass0 (pa_cons (pe_op op_sub (pv 0) pe_int) (pa_cons (pe_op op_sub (pv 1) (pv 3)) pa_nil)))) (blkOk_by (own := [("_law_row", 4)]) (N := N_law_all_rows) (sc := defScope s_law_all_rows) (by decide +kernel)) (fun _ _ _ _ _ => (pg_name (i := 4) sc_law_all_rows.nd rfl (by first | exact Or.inl rfl | exact Or.inr rfl))) (fun _ _ _ _ _ => pts_nil) (fun _ _ _ _ _ => (pe_op op_cat (pe_lst (pa_cons (pv 3) pa_nil)) (pv 4))))))))))
    pss_nil)
  (pss_one (ps_ret (pv 2))))), ?_⟩
    refine ⟨_, rfl, (show 1 ≤ sizeLine by decide), fun c nc => ?_⟩
    obtain ⟨H1, e1, s1, h1⟩ := fresh (.lst [V.int (t : Int)]) nc
    rw [e1]
    refine ⟨(show 1 ≤ sizeLine by decide), fun f nf => ?_⟩
    obtain ⟨H2, e2, s2, h2⟩ := fresh (.lst [V.ref c]) nf
    rw [e2]
    refine ⟨_, rfl, _, _, rfl, rfl, _, rfl, ?_⟩
    cases j with
    | zero =>
      rw [decide_eq_false (by omega)]
      refine iteF ⟨_, rfl, q _ f (s1.trans s2) ⟨[c], h2, rfl, fun i a r ha hr => ?_⟩⟩
      have hi : i = 0 := by
        have := (List.getElem?_eq_some_iff.mp ha).1
        rw [List.length_singleton] at this
        omega
      subst hi
      cases ha
      cases hr
      exact s2 _ _ h1
    | succ j =>
      have ht : t ≤ 12 := by omega
      rw [decide_eq_true (show ((j + 1 : Nat) : Int) + 1 > 1 by omega)]
      refine iteT ⟨Nat.zero_le _, fun f2 nf2 => ?_⟩
      obtain ⟨H3, e3, s3, h3⟩ := fresh (.lst []) nf2
      rw [e3]
      have s13 := (s1.trans s2).trans s3
      refine ⟨_, rfl, _, _, rfl, rfl, _, rfl, by omega, by omega, ?_⟩
      have en : ((t : Int) + 1).toNat = t + 1 := by omega
      rw [en]
      have hlen := rowsK_len (j + 1) t (.inl ht)
      have h13 : 13 ^ (j + 1) ≤ 13 ^ 3 := Nat.pow_le_pow_right (by decide) (by omega)
      refine for_range (lo := 0) (n := t + 1) (fun i σ H4 => ∃ (p : Addr) (v3 v4 : Option V), σ = [some (.int (((j + 1 : Nat) : Int) + 1)), some (.int t), some (.ref p), v3, v4] ∧ Same H H4 ∧ RowsIn H4 p (((List.range (t + 1)).take i).flatMap fun o => (rowsK j (t - o)).map fun r => (o : Int) :: r)) ⟨f2, none, none, rfl, s13, [], h3, rfl, fun i a r ha _ => by simp at ha⟩ ?_ ?_
      · rintro i σ H4 hi ⟨p, v3, v4, rfl, s4, as, hp, hal, hat⟩
        refine ⟨_, rfl, _, rfl, _, _, rfl, rfl, _, rfl, _, rfl, _, _, rfl, rfl, j, t - i, ?_, by omega, by omega, by omega, fun H5 p5 s5 hR5 => ?_⟩
        · show [V.int (((j + 1 : Nat) : Int) + 1 - 1), V.int ((t : Int) - (0 + (i : Int)))] = _
          rw [show ((j + 1 : Nat) : Int) + 1 - 1 = (j : Int) + 1 by omega, show (t : Int) - (0 + (i : Int)) = ((t - i : Nat) : Int) by omega]
        obtain ⟨bs, hp5, hbl, hbt⟩ := hR5
        have hS5 : SqL K H5 p5 (bs.map V.ref) := .inl (.inl hp5)
        have hjl := rowsK_len j (t - i) (by omega)
        have h13j : 13 ^ j ≤ 13 ^ 3 := Nat.pow_le_pow_right (by decide) (by omega)
        refine ⟨p5, rfl, ⟨_, hS5⟩, fun D nD => ?_⟩
        refine lc_relL (K := K) (xs := bs.map V.ref) (fun m y H' => ∃ c, y = .ref c ∧ c ≠ D ∧ ∀ r, (rowsK j (t - i))[m]? = some r → H' c = some (.lst (((i : Int) :: r).map V.int))) nD hS5 (by rw [List.length_map, sizeLine_eq]; omega) ?_ (fun x => rfl) ?_ ?_
        · rintro m y H6 H7 o ⟨c, rfl, nc, hc⟩
          exact ⟨c, rfl, nc, fun r hr => o _ _ nc (hc r hr)⟩
        · intro m x H' zs hx s hD Qt qt
          rw [List.getElem?_map] at hx
          obtain ⟨rb, hrb, rfl⟩ := Option.map_eq_some_iff.mp hx
          have hm : m < bs.length := (List.getElem?_eq_some_iff.mp hrb).1
          obtain ⟨r, hr⟩ : ∃ r, (rowsK j (t - i))[m]? = some r := ⟨_, List.getElem?_eq_getElem (by omega)⟩
          have hrb' := s _ _ (hbt m rb r hrb hr)
          refine ⟨_, rfl, (show 1 ≤ sizeLine by decide), fun c nc => ?_⟩
          obtain ⟨H6, e6, s6, h6⟩ := fresh (.lst [V.int (0 + (i : Int))]) nc
          rw [e6]
          refine ⟨_, rfl, c, rb, _, _, rfl, rfl, h6, s6 _ _ hrb', ?_, fun c2 nc2 => ?_⟩
          · rw [List.length_map, rowsK_row j (t - i) r (List.mem_of_getElem? hr), sizeLine_eq]
            show 1 + (j + 1) ≤ _
            omega
          · refine qt _ _ (s6.trans (same_upd nc2)) ⟨c2, rfl, (ne_of_none (s6 _ _ hD) nc2).symm, fun r' hr' => ?_⟩
            rw [hr] at hr'
            cases hr'
            rw [upd_same, Int.zero_add]
            rfl
        intro H6 ys s6 hD6 hyl hR6
        rw [List.length_map] at hyl
        have hex : ∀ m, m < ys.length → ∃ c, ys[m]? = some (V.ref c) ∧ ∀ r, (rowsK j (t - i))[m]? = some r → H6 c = some (.lst (((i : Int) :: r).map V.int)) := fun m hm => by
          obtain ⟨c, e, _, hc⟩ := hR6 m ys[m] (List.getElem?_eq_getElem hm)
          exact ⟨c, by rw [List.getElem?_eq_getElem hm, e], hc⟩
        have eys : ys = (ys.map fun y => match y with | .ref c => c | _ => 0).map V.ref := by
          rw [List.map_map]
          refine List.ext_getElem? fun m => ?_
          rw [List.getElem?_map]
          by_cases hm : m < ys.length
          · obtain ⟨c, e, _⟩ := hex m hm
            rw [e]
            rfl
          · rw [List.getElem?_eq_none (by omega)]
            rfl
        have hal2 := flat_len (fun o => (rowsK j (t - o)).map fun r => (o : Int) :: r) (13 ^ j) ((List.range (t + 1)).take i) (fun o _ => by rw [List.length_map]; exact rowsK_len j (t - o) (by omega))
        have htk : ((List.range (t + 1)).take i).length ≤ 13 := by rw [List.length_take, List.length_range]; omega
        have hb : ((List.range (t + 1)).take i).length * 13 ^ j ≤ 13 * 13 ^ 3 := Nat.mul_le_mul htk h13j
        refine ⟨p, D, _, _, rfl, rfl, s6 _ _ (s5 _ _ hp), hD6, by rw [List.length_map, sizeLine_eq]; omega, fun p7 np7 => ?_⟩
        obtain ⟨H7, e7, s7, h7⟩ := fresh (.lst (as.map V.ref ++ ys)) np7
        rw [e7]
        have s47 := (s5.trans s6).trans s7
        refine ⟨p7, some (.int (0 + (i : Int))), v4, rfl, s4.trans s47, ?_⟩
        rw [flat_next _ (List.range (t + 1)) i i (List.getElem?_range hi)]
        rw [eys] at h7
        refine RowsIn.app (p1 := p) (p2 := D) hal (fun m a r ha hr => s47 _ _ (hat m a r ha hr)) (by rw [List.length_map, List.length_map, hyl, hbl]) (fun m a r ha hr => ?_) h7
        rw [List.getElem?_map] at ha hr
        obtain ⟨y, hy, rfl⟩ := Option.map_eq_some_iff.mp ha
        obtain ⟨r', hr', rfl⟩ := Option.map_eq_some_iff.mp hr
        obtain ⟨c, e, hc⟩ := hex m (List.getElem?_eq_some_iff.mp hy).1
        rw [hy] at e
        cases e
        exact s7 _ _ (hc r' hr')
      · rintro σ H4 ⟨p, v3, v4, rfl, s4, hR⟩
        rw [List.take_of_length_le (by rw [List.length_range]; exact Nat.le_refl _)] at hR
        exact ⟨_, rfl, q _ p s4 hR⟩
theorem G_law_all_rows (T : Top K mg) : FnOk P w K mg base CX0 5 T.f_law_all_rows T.fd_law_all_rows ["_law_many", "_law_total"] (sp_rows 5) := rows_fn T 5
end
end My

namespace My
open PySem PySem.Spec PyProof.Rows L2 Pre
theorem restate {R : L2.St → Hp → Prop} {σ : L2.St} {H : Hp} (σ' : L2.St) (e : σ = σ') (h : R σ' H) : R σ H := by rw [e]; exact h
theorem sel_filtI (ns : List Nat) (p : Nat → Bool) : (ns.map fun n => if p n = true then some (V.int (n : Int)) else none).filterMap id = (ns.filter p).map fun (n : Nat) => V.int (n : Int) := by
  induction ns with
  | nil => rfl
  | cons n r ih =>
    rw [List.map_cons, List.filter_cons]
    by_cases c : p n = true
    · rw [if_pos c, if_pos c]
      show V.int (n : Int) :: _ = _
      rw [ih]
      rfl
    · rw [if_neg c, if_neg c]
      rw [← ih]
      rfl
theorem lc_filtI {n : Nat} {j : Nat} {tt : TT} {te : TE} {vs : List Nat} {σ : L2.St} {H1 : Hp} {D : Addr} {Qd : Hp → Prop} (p : Nat → Bool) (nD : H1 D = none) (hz : n < sizeLine)
    (hw : ∀ x, wipe ((wipe σ vs).set j (some x)) vs = wipe σ vs)
    (hs : ∀ (k : Nat) (H' : Hp), k < n → Same H1 H' → ∀ Qt : Option V → Hp → Prop, (∀ H'', Same H' H'' → Qt (if p k = true then some (V.int (k : Int)) else none) H'') →
      tt ((wipe σ vs).set j (some (V.int (0 + (k : Int))))) H' fun b H3 => if b = true then te ((wipe σ vs).set j (some (V.int (0 + (k : Int))))) H3 fun y H4 => Qt (some y) H4 else Qt none H3)
    (hd : ∀ H', Same H1 H' → H' D = some (.lst (((List.range n).filter p).map fun (n : Nat) => V.int (n : Int))) → Qd H') :
    ∃ W : Nat → Nat → Hp → Prop, (∃ m, W 0 m (upd H1 D (.lst []))) ∧ ∀ i m H, W i m H →
      ((Itr 0 n).stop i H ∧ Qd H) ∨ ((Itr 0 n).go i H ∧ ∃ Nx : Hp → Prop, (∀ H', Nx H' → ∃ m', m' < m ∧ W (i + 1) m' H') ∧ ∀ x H', (Itr 0 n).yld i H x H' → gName j x (wipe σ vs) H' fun σ2 H2 => wipe σ2 vs = wipe σ vs ∧ tt σ2 H2 fun b H3 =>
        if b = true then te σ2 H3 fun y H4 => ∃ acc, H4 D = some (.lst acc) ∧ acc.length < sizeLine ∧ Nx (upd H4 D (.lst (acc ++ [y]))) else Nx H3) := by
  refine lc_selR (lo := 0) (n := n) ((List.range n).map fun n => if p n = true then some (V.int (n : Int)) else none) nD (by rw [List.length_map, List.length_range]) hz hw ?_ ?_
  · intro i o H' hi ho s Qt qt
    rw [List.getElem?_map, List.getElem?_range hi] at ho
    cases ho
    exact hs i H' hi s Qt qt
  · intro H' s hD
    rw [sel_filtI] at hD
    exact hd H' s hD
theorem at_lastI {α : Type} (xs : List α) (h : xs ≠ []) : ∃ x, atI xs (-1) = some x := by
  obtain ⟨x, hx⟩ : ∃ x, xs[xs.length - 1]? = some x := ⟨_, List.getElem?_eq_getElem (by have := List.length_pos_iff.mpr h; omega)⟩
  refine ⟨x, ?_⟩
  have hl := List.length_pos_iff.mpr h
  have e : ixN xs.length (-1) = some (xs.length - 1) := by
    unfold ixN
    rw [if_neg (by omega)]
    simp
    omega
  unfold atI
  rw [e]
  exact hx
theorem min_fst {m : Nat} {t : Int} {ns : List Int} (h : Row m t ns) {f : Nat} (hf : Fst ns f) {N : Nat} (hN : f < N) {M : Int} (hM : M ∈ (List.range N).map (price ns)) (hle : ∀ y ∈ (List.range N).map (price ns), M ≤ y) : M = price ns f := by
  obtain ⟨w, _, rfl⟩ := List.mem_map.mp hM
  have h1 := (fst_price h hf).1 w
  have h2 := hle (price ns f) (List.mem_map.mpr ⟨f, List.mem_range.mpr hN, rfl⟩)
  omega
local macro_rules | `(tactic| walk_at "go") => `(tactic| repeat (first | (with_reducible first | refine iteT ?_ | refine iteF ?_ | refine iteNtt ?_ | refine iteNff ?_ | refine iteET (by omega) ?_ | refine iteEF (by omega) ?_ | refine iteENT (by omega) ?_ | refine iteENF (by omega) ?_ | refine iteDT (by omega) ?_ | refine iteDF (by omega) ?_ | refine iteNT (by omega) ?_ | refine iteNF (by omega) ?_) | refine ⟨_, rfl, ?_⟩ | refine ⟨_, _, rfl, rfl, ?_⟩ | refine ⟨_, _, rfl, ?_⟩ | refine ⟨rfl, ?_⟩ | refine .inl ⟨_, rfl, ?_⟩ | refine .inr ⟨_, rfl, ?_⟩))
local macro_rules | `(tactic| walk_at "b") => `(tactic| try dsimp (config := { proj := false, iota := false, eta := false, zeta := false }) only)
section
variable {P : Program} {w : World} {K : PySem.W.Frag} {mg : Str → Option Value} {base : Heap}
def sp_law_least (K : PySem.W.Frag) : Sp := fun vs H Q _ => ∃ (a : Addr) (ns : List Int) (m f : Nat) (t : Int), vs = [.ref a] ∧ SqL K H a (ns.map V.int) ∧ Row m t ns ∧ 1 ≤ m ∧ m ≤ 1000 ∧ Fst ns f ∧ f < 45 ∧ ∀ H' p v0 v2, Same H H' → H' p = some (.tup [v0, .int f, v2]) → Q (.ref p) H'
theorem G_law_least (T : Top K mg) : FnOk P w K mg base CX0 2 T.f_law_least T.fd_law_least ["_law_folds"] (sp_law_least K) := by
  refine T.F_law_least.ok sc_law_least (fun vs H Q E h => by obtain ⟨a, ns, m, f, t, rfl, _⟩ := h; rfl) (fun cdv A outer s H vs Q E hr h => ?_)
  obtain ⟨a, ns, m, f, t, rfl, hA, hR, hm, hm2, hf, h45, q⟩ := h
  refine ⟨_, PSs.nox (pss_cons (ps_set (i := 1) sc_law_least.nd rfl (Or.inr rfl) (pe_lc (own := [("_law_width", 3)]) (g := gName 3) (tt := tYes) (by rfl) sc_law_least.nd (pi_range1 (by rfl) T.n_range (pa_cons pe_int pa_nil)) (blkOk_by (own := [("_law_width", 3)]) (N := N_law_least) (sc := defScope s_law_least) (by decide +kernel)) (fun _ _ _ _ _ => (pg_name (i := 3) sc_law_least.nd rfl (by first | exact Or.inl rfl | exact Or.inr rfl))) (fun _ _ _ _ _ => pts_nil) (fun _ _ _ _ _ => (pe_call (G_law_price T) (hr.mono (by decide)) (by rfl) T.g_law_price T.F_law_price.kp T.b_law_price .nil pass0 (pa_cons (pv 0) (pa_cons (pv 3) pa_nil))))))
  (pss_cons (ps_setLc (i := 2) (own := [("_law_width", 3)]) (g := gName 3) (by rfl) sc_law_least.nd rfl rfl (sw_true rfl rfl rfl (by decide +kernel)) (pi_range1 (by rfl) T.n_range (pa_cons pe_int pa_nil)) (blkOk_by (own := [("_law_width", 3)]) (N := N_law_least) (sc := defScope s_law_least) (by decide +kernel)) (fun _ _ _ _ _ => (pg_name (i := 3) sc_law_least.nd rfl (by first | exact Or.inl rfl | exact Or.inr rfl))) (fun _ _ _ _ _ => (pts_one (pt_cmpR op_eq (pe_ix (k_ixL K rfl) (pv 1) (pv 3) (fun _ _ => rfl)) (pe_callB (k_min K rfl rfl) (by rfl) T.n_min (by decide +kernel) (pa_cons (pv 1) pa_nil)) (nomark _)))) (fun _ _ _ _ _ => (pv 3)))
  (pss_one (ps_ret (pe_ifExp (pt_cmpR (k_neD K rfl hr.units) (pv 0) (pe_lst pa_nil) (nomark _)) (pe_tup (pa_cons (pe_callB (k_min K rfl rfl) (by rfl) T.n_min (by decide +kernel) (pa_cons (pv 1) pa_nil)) (pa_cons (pe_ix (k_ixL K rfl) (pv 2) pe_int (fun _ _ => rfl)) (pa_cons (pe_ix (k_ixL K rfl) (pv 2) (pe_un un_neg pe_int) (fun _ _ => rfl)) pa_nil)))) (pe_tup (pa_cons pe_int (pa_cons pe_int (pa_cons pe_non pa_nil))))))))), ?_⟩
  have hl : ((List.range 45).map (price ns)).length = 45 := by rw [List.length_map, List.length_range]
  have hne : 0 < ((List.range 45).map (price ns)).length := by rw [hl]; decide
  refine ⟨_, rfl, by decide, by decide, fun D nD => ?_⟩
  refine lc_mapR (lo := 0) (n := 45) (((List.range 45).map (price ns)).map V.int) nD (by rw [List.length_map, hl]) (small1000 (by decide)) ?_ ?_ ?_
  · exact fun x => rfl
  · intro k y H' hk hy s Qt qt
    rw [List.getElem?_map, List.getElem?_map, List.getElem?_range hk] at hy
    cases hy
    refine ⟨_, rfl, _, rfl, a, ns, k, ?_, s.seq hA, by omega, qt _ (Same.refl _)⟩
    show [V.ref a, V.int (0 + (k : Int))] = _
    rw [Int.zero_add]
  intro H1 s1 h1
  refine ⟨_, rfl, by decide, by decide, fun D2 nD2 => ?_⟩
  refine lc_filtI (n := 45) (fun w => decide (price ns w = price ns f)) nD2 (by decide) ?_ ?_ ?_
  · exact fun x => rfl
  · intro k H' hk s Qt qt
    have qt := qt _ (Same.refl _)
    have hg : ((List.range 45).map (price ns)).getD k 0 = price ns k := by
      rw [List.getD_eq_getElem?_getD, List.getElem?_map, List.getElem?_range hk]
      rfl
    have hat : atI (((List.range 45).map (price ns)).map V.int) (0 + (k : Int)) = some (.int (price ns k)) := by
      rw [Int.zero_add, at_ints (by rw [hl]; exact hk), hg]
    refine ⟨_, rfl, _, rfl, D, _, _, _, rfl, rfl, .inl (.inl (s _ _ h1)), hat, _, rfl, D, _, rfl, .inl (.inl (s _ _ h1)), hne, fun M hM hle => ⟨rfl, _, rfl, ?_⟩⟩
    rw [min_fst hR hf h45 hM hle]
    by_cases c : price ns k = price ns f
    · rw [decide_eq_true c] at qt
      refine iteET c ?_
      refine ⟨_, rfl, ?_⟩
      rw [Int.zero_add]
      exact qt
    · rw [decide_eq_false c] at qt
      exact iteEF c qt
  intro H2 s2 h2
  obtain ⟨r, hr2⟩ := filter_first (p := fun w => decide (price ns w = price ns f)) h45 (decide_eq_true rfl) (fun w hw => decide_eq_false (by have := (fst_price hR hf).2 w hw; omega))
  rw [hr2] at h2
  have s02 := s1.trans s2
  refine ⟨_, rfl, Nat.zero_le _, fun t3 n3 => ?_⟩
  obtain ⟨H3, e3, s3, h3⟩ := fresh (.lst ([] : List V)) n3
  rw [e3]
  refine neD_lst (ns := ns) (ms := []) ((s02.trans s3).seq hA) (.inl (.inl h3)) ⟨_, rfl, ?_⟩
  have nn : ns ≠ [] := fun z => by have := hR.1; rw [z] at this; simp at this; omega
  rw [decide_eq_false nn]
  refine iteT ?_
  have hd : SqL K H3 D (((List.range 45).map (price ns)).map V.int) := .inl (.inl (s3 _ _ (s2 _ _ h1)))
  have hd2 : SqL K H3 D2 ((f :: r).map fun (n : Nat) => V.int (n : Int)) := .inl (.inl (s3 _ _ h2))
  obtain ⟨x, hx⟩ := at_lastI ((f :: r).map fun (n : Nat) => V.int (n : Int)) (by simp)
  refine ⟨_, rfl, D, _, rfl, hd, hne, fun M hM hle => ?_⟩
  refine ⟨_, rfl, D2, _, _, .int (f : Int), rfl, rfl, hd2, (show atI ((f :: r).map fun (n : Nat) => V.int (n : Int)) ((0 : Nat) : Int) = some (.int (f : Int)) from atI_nat rfl), ?_⟩
  refine ⟨_, rfl, _, rfl, D2, _, _, x, rfl, rfl, hd2, hx, (show 3 ≤ sizeLine by decide), fun p np => ?_⟩
  exact q _ p _ _ ((s02.trans s3).trans (same_upd np)) upd_same
def sp_law_first (K : PySem.W.Frag) : Sp := fun vs H Q _ => ∃ (a : Addr) (ns : List Int) (m f : Nat) (t : Int), vs = [.ref a] ∧ SqL K H a (ns.map V.int) ∧ Row m t ns ∧ Fst ns f ∧ f < 118 ∧ ∀ H', Same H H' → Q (.int f) H'
theorem G_law_first (T : Top K mg) : FnOk P w K mg base CX0 2 T.f_law_first T.fd_law_first ["_law_folds"] (sp_law_first K) := by
  refine T.F_law_first.ok sc_law_first (fun vs H Q E h => by obtain ⟨a, ns, m, f, t, rfl, _⟩ := h; rfl) (fun cdv A outer s H vs Q E hr h => ?_)
  obtain ⟨a, ns, m, f, t, rfl, hA, hR, hf, h118, q⟩ := h
  refine ⟨_, PSs.nox (pss_cons (ps_setLc (i := 1) (own := [("_law_width", 2)]) (g := gName 2) (tt := tYes) (by rfl) sc_law_first.nd rfl rfl (sw_true rfl rfl rfl (by decide +kernel)) (pi_range1 (by rfl) T.n_range (pa_cons pe_int pa_nil)) (blkOk_by (own := [("_law_width", 2)]) (N := N_law_first) (sc := defScope s_law_first) (by decide +kernel)) (fun _ _ _ _ _ => (pg_name (i := 2) sc_law_first.nd rfl (by first | exact Or.inl rfl | exact Or.inr rfl))) (fun _ _ _ _ _ => pts_nil) (fun _ _ _ _ _ => (pe_call (G_law_price T) (hr.mono (by decide)) (by rfl) T.g_law_price T.F_law_price.kp T.b_law_price .nil pass0 (pa_cons (pv 0) (pa_cons (pv 2) pa_nil)))))
  (pss_one (ps_ret (pe_bm PySem.F.plainAttrs_list PySem.F.slot_list_index PySem.F.type_list_index (k_index K rfl) (pv 1) (pa_cons (pe_callB (k_min K rfl rfl) (by rfl) T.n_min (by decide +kernel) (pa_cons (pv 1) pa_nil)) pa_nil))))), ?_⟩
  have hl : ((List.range 118).map (price ns)).length = 118 := by rw [List.length_map, List.length_range]
  have hne : 0 < ((List.range 118).map (price ns)).length := by rw [hl]; decide
  refine ⟨_, rfl, by decide, by decide, fun D nD => ?_⟩
  refine lc_mapR (lo := 0) (n := 118) (((List.range 118).map (price ns)).map V.int) nD (by rw [List.length_map, hl]) (small1000 (by decide)) ?_ ?_ ?_
  · exact fun x => rfl
  · intro k y H' hk hy s Qt qt
    rw [List.getElem?_map, List.getElem?_map, List.getElem?_range hk] at hy
    cases hy
    refine ⟨_, rfl, _, rfl, a, ns, k, ?_, s.seq hA, by omega, qt _ (Same.refl _)⟩
    show [V.ref a, V.int (0 + (k : Int))] = _
    rw [Int.zero_add]
  intro H1 s1 h1
  have hg : ∀ k, k < 118 → (((List.range 118).map (price ns)).map V.int)[k]? = some (V.int (price ns k)) := fun k hk => by
    rw [List.getElem?_map, List.getElem?_map, List.getElem?_range hk]
    rfl
  have flat : (((List.range 118).map (price ns)).map V.int).all flatV = true := by
    rw [List.all_map, List.all_eq_true]
    intro x _
    rfl
  refine ⟨_, rfl, .inl ⟨rfl, _, .inl (.inl h1)⟩, _, rfl, D, _, rfl, .inl (.inl h1), hne, fun M hM hle => ?_⟩
  rw [min_fst hR hf h118 hM hle]
  refine ⟨D, _, .int (price ns f), f, .int (price ns f), rfl, rfl, .inl (.inl h1), rfl, flat, hg f h118, ?_, ?_, q _ s1⟩
  · show (price ns f == price ns f) = true
    exact beq_iff_eq.mpr rfl
  · intro k z hk hz
    rw [hg k (by omega)] at hz
    cases hz
    show (price ns k == price ns f) = false
    rw [beq_eq_false_iff_ne]
    have := (fst_price hR hf).2 k hk
    omega
theorem small_101 {b : Int} (h : b ≤ 2 ^ 100 + 1) : b < 2 ^ 2900 := by
  have : (2 : Int) ^ 100 + 1 < 2 ^ 2900 := by decide +kernel
  omega
def sp_law_row_cut : Sp := fun vs H Q _ => ∃ (g : Addr) (m n : Nat) (t : Int), vs = [.ref g, .int m, .int t] ∧ GenAt H g n ∧ n ≤ 10 ^ 8 ∧ 1 ≤ m ∧ m ≤ 100 ∧ 0 ≤ t ∧ t < 2 ^ 100 ∧ ∀ H' p ns, H p = none → But g H H' → GenAt H' g (n + 20000) → H' p = some (.lst (ns.map V.int)) → Row m t ns → Q (.ref p) H'
theorem G_law_row_cut (T : Top K mg) : FnOk P w K mg base CX0 3 T.f_law_row_cut T.fd_law_row_cut ["_law_generator_here", "_law_many", "_law_total"] sp_law_row_cut := by
  refine T.F_law_row_cut.ok sc_law_row_cut (fun vs H Q E h => by obtain ⟨g, m, n, t, rfl, _⟩ := h; rfl) (fun cdv A outer s H vs Q E hr h => ?_)
  obtain ⟨g, m, n, t, rfl, hG, hn, hm, hm2, ht, ht2, q⟩ := h
  refine ⟨_, PSs.nox (pss_cons (ps_par (by rfl) sc_law_row_cut.nd (i := 4) (j := 5) rfl rfl (by decide) rfl rfl (pa_cons (pe_lst pa_nil) (pa_cons (pv 2) pa_nil)) (by rfl))
  (pss_cons (ps_for PassesOwn.never rfl (pi_range1 (by rfl) T.n_range (pa_cons (pe_op op_sub (pv 1) pe_int) pa_nil)) (pg_name (i := 3) sc_law_row_cut.nd rfl (by first | exact Or.inl rfl | exact Or.inr rfl))
    (pss_cons (ps_set (i := 6) sc_law_row_cut.nd rfl (by first | exact Or.inl rfl | exact Or.inr rfl) (pe_call (G_law_random T) (hr.mono (by decide)) (by rfl) T.g_law_random T.F_law_random.kp T.b_law_random .nil pass0 (pa_cons (pv 0) (pa_cons (pe_op op_add (pe_op op_fdivW (pv 5) (pe_op op_add pe_int (pe_call (G_law_random T) (hr.mono (by decide)) (by rfl) T.g_law_random T.F_law_random.kp T.b_law_random .nil pass0 (pa_cons (pv 0) (pa_cons pe_int pa_nil))))) pe_int) pa_nil))))
  (pss_cons (ps_expr (pe_bm PySem.F.plainAttrs_list PySem.F.slot_list_append PySem.F.type_list_append mt_append (pv 4) (pa_cons (pv 6) pa_nil)))
  (pss_one (ps_set (i := 5) sc_law_row_cut.nd rfl (by first | exact Or.inl rfl | exact Or.inr rfl) (pe_op op_sub (pv 5) (pv 6)))))))
  (pss_one (ps_ret (pe_op op_cat (pv 4) (pe_lst (pa_cons (pv 5) pa_nil))))))), ?_⟩
  refine ⟨Nat.zero_le _, fun f nf => ?_⟩
  obtain ⟨H1, e1, s1, h1⟩ := fresh (.lst ([] : List V)) nf
  rw [e1]
  have fg : f ≠ g := hG.ne nf
  refine ⟨_, rfl, _, _, rfl, ?_⟩
  refine ⟨_, rfl, _, _, rfl, rfl, _, rfl, by omega, by omega, ?_⟩
  have em : ((m : Int) - 1).toNat = m - 1 := by omega
  walk_at "b"
  rw [em]
  refine for_range (lo := 0) (n := m - 1) (fun i σ H2 => ∃ (xs : List Int) (l : Int) (v3 v6 : Option V), σ = [some (.ref g), some (.int m), some (.int t), v3, some (.ref f), some (.int l), v6] ∧ But g H H2 ∧ GenAt H2 g (n + 200 * i) ∧ H2 f = some (.lst (xs.map V.int)) ∧ xs.length = i ∧ (∀ x ∈ xs, 0 ≤ x) ∧ xs.sum = t - l ∧ 0 ≤ l ∧ l ≤ t) ⟨[], t, none, none, rfl, But.of s1, hG.same s1, h1, rfl, (fun x hx => nomatch hx), (by simp), ht, Int.le_refl _⟩ ?_ ?_
  · rintro i σ H2 hi ⟨xs, l, v3, v6, rfl, b2, g2, hF, hl, hx, hs, l0, lt⟩
    refine ⟨_, rfl, _, rfl, _, rfl, g, 4, _, rfl, g2, by omega, by decide, by decide, fun r H3 r0 r1 g3 b3 => ⟨_, _, rfl, rfl, _, _, rfl, rfl, wide_div (b := 30) (by omega) (by omega) (by decide) (by decide), _, _, rfl, rfl, ?_⟩⟩
    have hd0 : 0 ≤ l / (1 + r) := Int.ediv_nonneg l0 (by omega)
    have hd1 : l / (1 + r) ≤ l := Int.ediv_le_self _ l0
    refine ⟨g, _, _, rfl, g3, by omega, by omega, small_101 (by omega), fun o H4 o0 o1 g4 b4 => ?_⟩
    have hF4 := b4 _ _ fg (b3 _ _ fg hF)
    refine ⟨_, rfl, .inl ⟨rfl, _, .inl (.inl hF4)⟩, _, rfl, f, _, _, rfl, rfl, hF4, by rw [List.length_map, hl]; exact small1000 (by omega), ?_⟩
    refine ⟨_, rfl, _, rfl, _, _, rfl, rfl, xs ++ [o], l - o, _, _, rfl, fun b u nb hb => ?_, ?_, ?_, ?_, ?_, ?_, by omega, by omega⟩
    · rw [upd_ne (ne_of_none hb nf)]
      exact b4 _ _ nb (b3 _ _ nb (b2 _ _ nb hb))
    · obtain ⟨x1, x2, x3, e, y⟩ := g4
      exact ⟨x1, x2, x3, by rw [upd_ne fg.symm]; exact e, by omega⟩
    · rw [upd_same, List.map_append]
      rfl
    · rw [List.length_append, hl]
      rfl
    · intro x hx'
      rcases List.mem_append.mp hx' with z | z
      · exact hx x z
      · rw [List.mem_singleton.mp z]; exact o0
    · rw [List.sum_append, hs, List.sum_cons]
      simp
      omega
  · rintro σ H2 ⟨xs, l, v3, v6, rfl, b2, g2, hF, hl, hx, hs, l0, lt⟩
    refine ⟨_, rfl, _, rfl, (show 1 ≤ sizeLine by decide), fun t3 n3 => ?_⟩
    obtain ⟨H3, e3, s3, h3⟩ := fresh (.lst [V.int l]) n3
    rw [e3]
    refine ⟨_, _, _, _, rfl, rfl, s3 _ _ hF, h3, by rw [List.length_map, hl]; exact Nat.le_of_lt (small1000 (show m - 1 + 1 ≤ 1000 by omega)), fun p np => ?_⟩
    have np2 : H2 p = none := s3.free np
    have pg : p ≠ g := g2.ne np2
    refine q _ p (xs ++ [l]) (b2.free pg np2) ((b2.same s3).same (same_upd np)) (((g2.same s3).same (same_upd np)).mono (by omega)) (by rw [upd_same, List.map_append]; rfl) ⟨by rw [List.length_append, hl]; show m - 1 + 1 = m; omega, ?_, fun x hx' => ?_⟩
    · rw [List.sum_append, hs, List.sum_cons]
      simp
    · rcases List.mem_append.mp hx' with z | z
      · exact hx x z
      · rw [List.mem_singleton.mp z]; exact l0
def sp_law_cheap_row : Sp := fun vs H Q _ => ∃ (m w : Nat) (t : Int), vs = [.int m, .int t, .int w] ∧ 1 ≤ m ∧ m ≤ 1000 ∧ 0 ≤ t ∧ w ≤ 120 ∧ ∀ H' p, Same H H' → H p = none → H' p = some (.lst ((cheapF m t w).map V.int)) → Q (.ref p) H'
theorem G_law_cheap_row (T : Top K mg) : FnOk P w K mg base CX0 1 T.f_law_cheap_row T.fd_law_cheap_row ["_law_many", "_law_total", "_law_width"] sp_law_cheap_row := by
  refine T.F_law_cheap_row.ok sc_law_cheap_row (fun vs H Q E h => by obtain ⟨m, w, t, rfl, _⟩ := h; rfl) (fun cdv A outer s H vs Q E hr h => ?_)
  obtain ⟨m, w, t, rfl, hm, hm2, ht, hw, q⟩ := h
  refine ⟨_, PSs.nox (pss_cons (ps_par (by rfl) sc_law_cheap_row.nd (i := 4) (j := 5) rfl rfl (by decide) rfl rfl (pa_cons (pe_lst pa_nil) (pa_cons (pv 1) pa_nil)) (by rfl))
  (pss_cons (ps_for PassesOwn.never rfl (pi_range1 (by rfl) T.n_range (pa_cons (pv 0) pa_nil)) (pg_name (i := 3) sc_law_cheap_row.nd rfl (by first | exact Or.inl rfl | exact Or.inr rfl))
    (pss_cons (ps_set (i := 6) sc_law_cheap_row.nd rfl (by first | exact Or.inl rfl | exact Or.inr rfl) (pe_callB (call_min2 rfl) (by rfl) T.n_min (by decide +kernel) (pa_cons (pv 5) (pa_cons (pe_op op_sub (pe_op op_shl pe_int (pv 2)) pe_int) pa_nil))))
  (pss_cons (ps_expr (pe_bm PySem.F.plainAttrs_list PySem.F.slot_list_append PySem.F.type_list_append mt_append (pv 4) (pa_cons (pv 6) pa_nil)))
  (pss_one (ps_set (i := 5) sc_law_cheap_row.nd rfl (by first | exact Or.inl rfl | exact Or.inr rfl) (pe_op op_sub (pv 5) (pv 6)))))))
  (pss_cons (ps_asg (pe_op op_add (pe_ix (k_ixL K rfl) (pv 4) pe_int (fun _ _ => rfl)) (pv 5)) (pg_sub (pv 4) pe_int set_list))
  (pss_one (ps_ret (pv 4)))))), ?_⟩
  have hp := p2 w
  refine ⟨Nat.zero_le _, fun f nf => ?_⟩
  obtain ⟨H1, e1, s1, h1⟩ := fresh (.lst ([] : List V)) nf
  rw [e1]
  refine ⟨_, rfl, _, _, rfl, ?_⟩
  refine ⟨_, rfl, _, rfl, by omega, by omega, ?_⟩
  rw [Int.toNat_natCast]
  have rs : ∀ i : Nat, List.replicate (i + 1) (0 : Int) = List.replicate i 0 ++ [0] := fun i => List.replicate_succ'
  refine for_range (lo := 0) (n := m) (fun i σ H2 => ∃ (v3 v6 : Option V), σ = [some (.int m), some (.int t), some (.int w), v3, some (.ref f), some (.int (leftG (2 ^ w - 1) (List.replicate i 0) t)), v6] ∧ Same H H2 ∧ H2 f = some (.lst ((fillG (2 ^ w - 1) (List.replicate i 0) t).map V.int))) ⟨none, none, rfl, s1, h1⟩ ?_ ?_
  · rintro i σ H2 hi ⟨v3, v6, rfl, s2, hF⟩
    refine ⟨_, rfl, _, rfl, _, _, rfl, rfl, ⟨by omega, by omega, by decide⟩, _, _, rfl, rfl, _, _, rfl, ?_⟩
    walk_at "b"
    rw [leftShl]
    have em : (if (2 : Int) ^ w - 1 < leftG (2 ^ w - 1) (List.replicate i 0) t then (2 : Int) ^ w - 1 else leftG (2 ^ w - 1) (List.replicate i 0) t) = min (leftG (2 ^ w - 1) (List.replicate i 0) t) (2 ^ w - 1 - 0) := by omega
    rw [em]
    refine ⟨_, rfl, .inl ⟨rfl, _, .inl (.inl hF)⟩, _, rfl, f, _, _, rfl, rfl, hF, by rw [List.length_map, fillG_len, List.length_replicate]; exact small1000 (by omega), ?_⟩
    refine ⟨_, rfl, _, rfl, _, _, rfl, rfl, some (.int (0 + (i : Int))), some (.int (min (leftG (2 ^ w - 1) (List.replicate i 0) t) (2 ^ w - 1 - 0))), ?_, same_over nf s2, ?_⟩
    · rw [rs, left_app]
      rfl
    · rw [upd_same, rs, fill_app, List.map_append, Int.zero_add]
      rfl
  · rintro σ H2 ⟨v3, v6, rfl, s2, hF⟩
    have hlen : (fillG (2 ^ w - 1) (List.replicate m 0) t).length = m := by rw [fillG_len, List.length_replicate]
    have h0 : atI ((fillG (2 ^ w - 1) (List.replicate m 0) t).map V.int) 0 = some (.int ((fillG (2 ^ w - 1) (List.replicate m 0) t).getD 0 0)) := at_ints (k := 0) (by omega)
    refine ⟨_, rfl, f, _, _, _, rfl, rfl, .inl (.inl hF), h0, _, rfl, _, _, rfl, rfl, _, rfl, f, _, 0, 0, rfl, rfl, hF, ?_, ?_⟩
    · rw [List.length_map, hlen]
      unfold ixN
      rw [if_pos (by decide), if_pos (by omega)]
      rfl
    · refine ⟨_, rfl, q _ f (same_over nf s2) nf ?_⟩
      rw [upd_same]
      unfold cheapF
      rw [List.map_set]
end
end My

namespace My
open PySem PySem.Spec PyProof.Rows L2 Pre
theorem inV_int (x : Int) : ∀ l : List Int, inV (.int x) (l.map V.int) = decide (x ∈ l)
  | [] => rfl
  | y :: l => by
    have ih := inV_int x l
    unfold inV at ih ⊢
    rw [List.map_cons, List.any_cons, ih]
    show ((y == x) || decide (x ∈ l)) = decide (x ∈ y :: l)
    by_cases h : y = x
    · subst h; simp
    · have h2 : ¬ x = y := fun z => h z.symm
      simp [h, h2]
theorem flat_int (l : List Int) : (l.map V.int).all flatV = true := by
  rw [List.all_map, List.all_eq_true]
  intro x _
  rfl
theorem in_int (x : Int) (l : List Int) : (if false = true then !inV (.int x) (l.map V.int) else inV (.int x) (l.map V.int)) = decide (x ∈ l) := by rw [if_neg (by decide), inV_int]
theorem notin_int (x : Int) (l : List Int) : (if true = true then !inV (.int x) (l.map V.int) else inV (.int x) (l.map V.int)) = !decide (x ∈ l) := by rw [if_pos rfl, inV_int]
theorem span_at {lo hi : Int} (h : lo ≤ hi) : atI ((spanI lo hi).map V.int) 0 = some (.int lo) ∧ atI ((spanI lo hi).map V.int) (-1) = some (.int hi) := by
  obtain ⟨n, hn⟩ : ∃ n, (hi + 1 - lo).toNat = n + 1 := ⟨(hi - lo).toNat, by omega⟩
  have hl : (spanI lo hi).length = n + 1 := by unfold spanI; rw [List.length_map, List.length_range, hn]
  have hg : ∀ i, i < n + 1 → (spanI lo hi)[i]? = some (lo + (i : Int)) := fun i hi' => by
    unfold spanI
    rw [hn, List.getElem?_map, List.getElem?_range hi']
    rfl
  constructor
  · have e : (0 : Int) = ((0 : Nat) : Int) := rfl
    rw [e]
    refine atI_nat ?_
    rw [List.getElem?_map, hg 0 (by omega)]
    show some (V.int (lo + 0)) = _
    rw [Int.add_zero]
  · have e : ixN ((spanI lo hi).map V.int).length (-1) = some n := by
      rw [List.length_map, hl]
      unfold ixN
      rw [if_neg (by omega)]
      simp
      omega
    unfold atI
    rw [e]
    show ((spanI lo hi).map V.int)[n]? = _
    rw [List.getElem?_map, hg n (by omega)]
    show some (V.int (lo + (n : Int))) = _
    rw [show lo + (n : Int) = hi by omega]
theorem rg_span (lo hi : Int) : L2.rgV lo (hi + 1) = (spanI lo hi).map V.int := by
  unfold L2.rgV spanI
  rw [List.map_map]
  rfl
noncomputable def fstC (ns : List Int) : Nat := by
  classical
  exact if h : ∃ f, Fst ns f then h.choose else 0
theorem fstC_ok {ns : List Int} {f : Nat} (h : Fst ns f) : fstC ns = f := by
  unfold fstC
  have hx : ∃ f, Fst ns f := ⟨f, h⟩
  rw [dif_pos hx]
  exact fst_uniq hx.choose_spec h
noncomputable def firstsL (j t : Nat) : List Int := (rowsK j t).map fun r => (fstC r : Int)
theorem firsts_mem {j t : Nat} (w : Nat) : (w : Int) ∈ firstsL j t ↔ (lsF ((j + 1 : Nat) : Int) w ≤ t ∧ (t : Int) ≤ ((j + 1 : Nat) : Int) * gF w) := by
  unfold firstsL
  rw [List.mem_map]
  constructor
  · rintro ⟨r, hr, e⟩
    have hR := (rowsK_ok j t r).mp hr
    obtain ⟨f, _, hf⟩ := fst_ex hR (b := t) (by
      have := Nat.lt_two_pow_self (n := t)
      have e2 : ((2 ^ t : Nat) : Int) = 2 ^ t := by rw [Int.natCast_pow]; rfl
      omega)
    rw [fstC_ok hf] at e
    have : f = w := by omega
    subst this
    exact fst_in hR (by omega) hf
  · rintro ⟨h1, h2⟩
    obtain ⟨h3, h4⟩ := wrow_ok (m := j + 1) (by omega) h1 h2
    exact ⟨_, (rowsK_ok j t _).mpr h3, by rw [fstC_ok h4]⟩
theorem firsts_nat {j t : Nat} {x : Int} (h : x ∈ firstsL j t) : ∃ w : Nat, x = (w : Int) := by
  obtain ⟨r, _, e⟩ := List.mem_map.mp h
  exact ⟨_, e.symm⟩
theorem cont_mem {j t w : Nat} (h : contB j t = true) (hw : w < 7) (k : Int) : k ∈ (rowsK j t).map (fun r => price r w) ↔ k ∈ spanI (lbF j t w) (ubF j t w) := by
  rw [span_mem]
  constructor
  · intro hk
    obtain ⟨r, hr, rfl⟩ := List.mem_map.mp hk
    exact between ((rowsK_ok j t r).mp hr) w
  · rintro ⟨h1, h2⟩
    obtain ⟨_, h3⟩ := Bool.and_eq_true_iff.mp h
    have h4 := List.all_eq_true.mp (List.all_eq_true.mp h3 w (List.mem_range.mpr hw)) (k - lbF j t w).toNat (List.mem_range.mpr (by omega))
    have h5 := of_decide_eq_true h4
    rw [show lbF j t w + ((k - lbF j t w).toNat : Int) = k by omega] at h5
    exact h5
theorem lb_le (j t w : Nat) : lbF j t w ≤ ubF j t w := by
  obtain ⟨r, hr⟩ := List.length_pos_iff_exists_mem.mp (rowsK_ne j t)
  have := between ((rowsK_ok j t r).mp hr) w
  unfold lbF ubF
  omega
local macro_rules | `(tactic| walk_at "go") => `(tactic| repeat (first | (with_reducible first | refine iteT ?_ | refine iteF ?_ | refine iteNtt ?_ | refine iteNff ?_ | refine iteET (by omega) ?_ | refine iteEF (by omega) ?_ | refine iteENT (by omega) ?_ | refine iteENF (by omega) ?_ | refine iteDT (by omega) ?_ | refine iteDF (by omega) ?_ | refine iteNT (by omega) ?_ | refine iteNF (by omega) ?_) | refine ⟨_, rfl, ?_⟩ | refine ⟨_, _, rfl, rfl, ?_⟩ | refine ⟨_, _, rfl, ?_⟩ | refine ⟨rfl, ?_⟩ | refine .inl ⟨_, rfl, ?_⟩ | refine .inr ⟨_, rfl, ?_⟩))
local macro_rules | `(tactic| walk_at "b") => `(tactic| try dsimp (config := { proj := false, iota := false, eta := false, zeta := false }) only)
section
variable {P : Program} {w : World} {K : PySem.W.Frag} {mg : Str → Option Value} {base : Heap}
def sp_law_small_right (K : PySem.W.Frag) : Sp := fun vs H Q _ => ∃ (j t : Nat), vs = [.int ((j + 1 : Nat) : Int), .int t] ∧ j ≤ 3 ∧ (t ≤ 12 ∨ j = 0) ∧ t < 40 ∧ contB j t = true ∧ ∀ H', Same H H' → Q (.bl true) H'
theorem G_law_small_right (T : Top K mg) : FnOk P w K mg base CX0 6 T.f_law_small_right T.fd_law_small_right ["_law_many", "_law_total"] (sp_law_small_right K) := by
  refine T.F_law_small_right.ok sc_law_small_right (fun vs H Q E h => by obtain ⟨j, t, rfl, _⟩ := h; rfl) (fun cdv A outer s H vs Q E hr h => ?_)
  obtain ⟨j, t, rfl, hj, ht, h40, hB, q⟩ := h
  refine ⟨_, PSs.nox (pss_cons (ps_set (i := 2) sc_law_small_right.nd rfl (by first | exact Or.inl rfl | exact Or.inr rfl) (pe_call (G_law_all_rows T) (hr.mono (by decide)) (by rfl) T.g_law_all_rows T.F_law_all_rows.kp T.b_law_all_rows .nil pass0 (pa_cons (pv 0) (pa_cons (pv 1) pa_nil))))
  (pss_cons (ps_setLc (i := 3) (own := [("_law_row", 7)]) (g := gName 7) (tt := tYes) (by rfl) sc_law_small_right.nd rfl rfl (sw_true rfl rfl rfl (by decide +kernel)) (k_piL K rfl (pv 2)) (blkOk_by (own := [("_law_row", 7)]) (N := N_law_small_right) (sc := defScope s_law_small_right) (by decide +kernel)) (fun _ _ _ _ _ => (pg_name (i := 7) sc_law_small_right.nd rfl (by first | exact Or.inl rfl | exact Or.inr rfl))) (fun _ _ _ _ _ => pts_nil) (fun _ _ _ _ _ => (pe_ix (k_ixT K rfl) (pe_call (G_law_least T) (hr.mono (by decide)) (by rfl) T.g_law_least T.F_law_least.kp T.b_law_least .nil pass0 (pa_cons (pv 7) pa_nil)) pe_int (fun _ _ => rfl))))
  (pss_cons (ps_for PassesOwn.never rfl (pi_range1 (by rfl) T.n_range (pa_cons pe_int pa_nil)) (pg_name (i := 4) sc_law_small_right.nd rfl (by first | exact Or.inl rfl | exact Or.inr rfl))
    (pss_cons (ps_set (i := 5) sc_law_small_right.nd rfl (by first | exact Or.inl rfl | exact Or.inr rfl) (pe_callB (k_sortedSet rfl) (by rfl) T.n_sorted (by decide +kernel) (pa_cons (pe_callTy (k_setL K rfl rfl) (by rfl) T.n_set (by decide +kernel) (pa_cons (pe_lc (own := [("_law_row", 7)]) (g := gName 7) (tt := tYes) (by rfl) sc_law_small_right.nd (k_piL K rfl (pv 2)) (blkOk_by (own := [("_law_row", 7)]) (N := N_law_small_right) (sc := defScope s_law_small_right) (by decide +kernel)) (fun _ _ _ _ _ => (pg_name (i := 7) sc_law_small_right.nd rfl (by first | exact Or.inl rfl | exact Or.inr rfl))) (fun _ _ _ _ _ => pts_nil) (fun _ _ _ _ _ => (pe_call (G_law_price T) (hr.mono (by decide)) (by rfl) T.g_law_price T.F_law_price.kp T.b_law_price .nil pass0 (pa_cons (pv 7) (pa_cons (pv 4) pa_nil))))) pa_nil)) pa_nil)))
  (pss_cons (ps_if (pt_cmpR (k_neD K rfl hr.units) (pe_call (G_price_bounds T) (hr.mono (by decide)) (by rfl) T.g_price_bounds T.F_price_bounds.kp T.b_price_bounds .nil pass0 (pa_cons (pv 0) (pa_cons (pv 1) (pa_cons (pv 4) pa_nil)))) (pe_tup (pa_cons (pe_ix (k_ixL K rfl) (pv 5) pe_int (fun _ _ => rfl)) (pa_cons (pe_ix (k_ixL K rfl) (pv 5) (pe_un un_neg pe_int) (fun _ _ => rfl)) pa_nil))) (nomark _))
    (pss_one (ps_ret pe_bl))
    pss_nil)
  (pss_cons (ps_if (pt_cmpR (k_neD K rfl hr.units) (pv 5) (pe_listRg rfl (by rfl) T.n_list (prg_2 (by rfl) T.n_range (pe_ix (k_ixL K rfl) (pv 5) pe_int (fun _ _ => rfl)) (pe_op op_add (pe_ix (k_ixL K rfl) (pv 5) (pe_un un_neg pe_int) (fun _ _ => rfl)) pe_int))) (nomark _))
    (pss_one (ps_ret pe_bl))
    pss_nil)
  (pss_cons (ps_set (i := 6) sc_law_small_right.nd rfl (by first | exact Or.inl rfl | exact Or.inr rfl) (pe_call (G_width_row T) (hr.mono (by decide)) (by rfl) T.g_width_row T.F_width_row.kp T.b_width_row .nil pass0 (pa_cons (pv 0) (pa_cons (pv 1) (pa_cons (pv 4) pa_nil)))))
  (pss_cons (ps_if (pt_cmpR op_ne (pe_cmpR op_isN (pv 6) pe_non (nomark _)) (pe_cmpR (k_notIn K rfl) (pv 4) (pv 3) (by rfl)) (nomark _))
    (pss_one (ps_ret pe_bl))
    pss_nil)
  (pss_one (ps_if (PW.pt (pw_and (pt_cmpR op_notN (pv 6) pe_non (nomark _)) (pw_and1 (PW.pt (pw_or (pt_cmpR (k_notInD K rfl (huD hr)) (pv 6) (pv 2) (by rfl)) (pw_or1 (pt_cmpR op_ne (pe_ix (k_ixT K rfl) (pe_call (G_law_least T) (hr.mono (by decide)) (by rfl) T.g_law_least T.F_law_least.kp T.b_law_least .nil pass0 (pa_cons (pv 6) pa_nil)) pe_int (fun _ _ => rfl)) (pv 4) (nomark _))))))))
    (pss_one (ps_ret pe_bl))
    pss_nil))))))))
  (pss_cons (ps_if (pt_cmpR (k_neD K rfl hr.units) (pe_call (G_possible_widths T) (hr.mono (by decide)) (by rfl) T.g_possible_widths T.F_possible_widths.kp T.b_possible_widths .nil pass0 (pa_cons (pv 0) (pa_cons (pv 1) pa_nil))) (pe_tup (pa_cons (pe_callB (k_min K rfl rfl) (by rfl) T.n_min (by decide +kernel) (pa_cons (pv 3) pa_nil)) (pa_cons (pe_callB (k_max K rfl rfl) (by rfl) T.n_max (by decide +kernel) (pa_cons (pv 3) pa_nil)) pa_nil))) (nomark _))
    (pss_one (ps_ret pe_bl))
    pss_nil)
  (pss_one (ps_ret (pe_and (pe_cmpR (k_eqD K rfl hr.units) (pe_callB (k_sortedSet rfl) (by rfl) T.n_sorted (by decide +kernel) (pa_cons (pe_callTy (k_setL K rfl rfl) (by rfl) T.n_set (by decide +kernel) (pa_cons (pv 3) pa_nil)) pa_nil)) (pe_listRg rfl (by rfl) T.n_list (prg_2 (by rfl) T.n_range (pe_callB (k_min K rfl rfl) (by rfl) T.n_min (by decide +kernel) (pa_cons (pv 3) pa_nil)) (pe_op op_add (pe_callB (k_max K rfl rfl) (by rfl) T.n_max (by decide +kernel) (pa_cons (pv 3) pa_nil)) pe_int))) (nomark _)) (pe_one (pe_cmpR op_lt (pe_op op_sub (pe_callB (k_max K rfl rfl) (by rfl) T.n_max (by decide +kernel) (pa_cons (pv 3) pa_nil)) (pe_callB (k_min K rfl rfl) (by rfl) T.n_min (by decide +kernel) (pa_cons (pv 3) pa_nil))) pe_int (nomark _)))))))))), ?_⟩
  have h64 : (rowsK j t).length < 64 := of_decide_eq_true (Bool.and_eq_true_iff.mp hB).1
  have t40 : (t : Int) < 2 ^ 40 := by omega
  refine ⟨_, rfl, _, rfl, j, t, rfl, by omega, hj, by omega, fun H1 pr s1 hR => ?_⟩
  obtain ⟨as, hpr, hal, hat⟩ := id hR
  have row_at : ∀ {Hx : Hp} {u : Nat} {x : V}, Same H1 Hx → (as.map V.ref)[u]? = some x → ∃ ra r, x = .ref ra ∧ (rowsK j t)[u]? = some r ∧ SqL K Hx ra (r.map V.int) ∧ Row (j + 1) t r := @fun Hx u x s hx => by
    rw [List.getElem?_map] at hx
    obtain ⟨ra, hra, rfl⟩ := Option.map_eq_some_iff.mp hx
    have hi := (List.getElem?_eq_some_iff.mp hra).1
    obtain ⟨r, hr⟩ : ∃ r, (rowsK j t)[u]? = some r := ⟨_, List.getElem?_eq_getElem (by omega)⟩
    exact ⟨ra, r, rfl, hr, .inl (.inl (s _ _ (hat _ ra r hra hr))), (rowsK_ok j t r).mp (List.mem_of_getElem? hr)⟩
  have hlen : (as.map V.ref).length < sizeLine := by rw [List.length_map, hal]; exact small1000 (by omega)
  -- firsts
  refine ⟨_, rfl, pr, rfl, ⟨_, .inl (.inl hpr)⟩, fun D nD => ?_⟩
  refine lc_mapL (K := K) (xs := as.map V.ref) ((firstsL j t).map V.int) nD (.inl (.inl hpr)) (by unfold firstsL; rw [List.length_map, List.length_map, List.length_map, hal]) hlen ?_ ?_ ?_
  · exact fun x => rfl
  · intro u x y H' hx hy s Qt qt
    obtain ⟨ra, r, rfl, hr, hS, hRow⟩ := row_at s hx
    unfold firstsL at hy
    rw [List.getElem?_map, List.getElem?_map, hr] at hy
    cases hy
    obtain ⟨f, f40, hf⟩ := fst_ex hRow t40
    refine ⟨_, rfl, ra, r, j + 1, f, t, rfl, hS, hRow, by omega, by omega, hf, by omega, fun H2 p v0 v2 s2 hp => ?_⟩
    refine ⟨p, _, _, .int (f : Int), rfl, rfl, .inl (.inl hp), rfl, ?_⟩
    have qq : Qt (V.int ((fstC r : Nat) : Int)) H2 := qt _ s2
    rw [fstC_ok hf] at qq
    exact qq
  intro H2 s2 hD
  have hpr2 := s2 _ _ hpr
  have flen : (firstsL j t).length = (rowsK j t).length := by unfold firstsL; rw [List.length_map]
  have fne : 0 < (firstsL j t).length := by rw [flen]; exact rowsK_ne j t
  refine ⟨_, rfl, by decide, by decide, ?_⟩
  walk_at "b"
  refine for_range (lo := 0) (n := 7) (fun i σ H3 => ∃ (v4 v5 v6 : Option V), σ = [some (.int ((j + 1 : Nat) : Int)), some (.int t), some (.ref pr), some (.ref D), v4, v5, v6, none] ∧ Same H2 H3) ⟨none, none, none, rfl, Same.refl _⟩ ?_ ?_
  · rintro w σ H3 hw ⟨v4, v5, v6, rfl, s3⟩
    rw [show (0 : Int) + (w : Int) = (w : Int) by omega]
    refine restate [some (.int ((j + 1 : Nat) : Int)), some (.int t), some (.ref pr), some (.ref D), some (.int w), v5, v6, none] rfl ?_
    have hD3 := s3 _ _ hD
    have hpr3 := s3 _ _ hpr2
    -- prices
    refine ⟨_, rfl, pr, rfl, ⟨_, .inl (.inl hpr3)⟩, fun D2 nD2 => ?_⟩
    refine lc_mapL (K := K) (xs := as.map V.ref) (((rowsK j t).map fun r => price r w).map V.int) nD2 (.inl (.inl hpr3)) (by rw [List.length_map, List.length_map, List.length_map, hal]) hlen ?_ ?_ ?_
    · exact fun x => rfl
    · intro u x y H' hx hy s Qt qt
      obtain ⟨ra, r, rfl, hr, hS, hRow⟩ := row_at (s2.trans (s3.trans s)) hx
      rw [List.getElem?_map, List.getElem?_map, hr] at hy
      cases hy
      exact ⟨_, rfl, _, rfl, ra, r, w, rfl, hS, by omega, qt _ (Same.refl _)⟩
    intro H4 s4 h4
    refine ⟨D2, _, rfl, .inl (.inl h4), by rw [List.length_map]; omega, fun p5 c5 n5 l5 => ?_⟩
    rw [List.length_map] at l5
    refine ⟨p5, _, c5, rfl, upd_same, by omega, fun ns p6 hs hm _ n6 => ?_⟩
    have ens : ns = spanI (lbF j t w) (ubF j t w) := strict_ext hs (span_up _ _) fun k => by
      rw [hm k, decide_eq_true_iff]
      exact cont_mem hB hw k
    subst ens
    obtain ⟨H5, e5, s5, _⟩ := fresh (SetO _ p5 (fun j_1 => decide (j_1 ∈ (rowsK j t).map fun r => price r w)) c5) n5
    rw [e5] at n6 ⊢
    obtain ⟨H6, e6, s6, h6⟩ := fresh (.lst ((spanI (lbF j t w) (ubF j t w)).map V.int)) n6
    rw [e6]
    obtain ⟨a0, a1⟩ := span_at (lb_le j t w)
    have s36 : Same H3 H6 := s4.trans (s5.trans s6)
    -- price_bounds
    refine ⟨_, rfl, _, rfl, _, rfl, ((j + 1 : Nat) : Int), t, w, rfl, by omega, by omega, by omega, by omega, fun H7 p7 s7 n7 h7 => ?_⟩
    have h67 := s7 _ _ h6
    refine ⟨_, rfl, p6, _, _, _, rfl, rfl, .inl (.inl h67), a0, _, rfl, _, rfl, p6, _, _, _, rfl, rfl, .inl (.inl h67), a1, (show 2 ≤ sizeLine by decide), fun p8 n8 => ?_⟩
    obtain ⟨H8, e8, s8, h8⟩ := fresh (.tup [V.int (lbF j t w), V.int (ubF j t w)]) n8
    rw [e8]
    refine ne_tup (ns := [lbF j t w, ubF j t w]) (.inl (.inl (s8 _ _ h7))) (.inl (.inl h8)) ⟨_, rfl, iteF ?_⟩
    have h68 := s8 _ _ h67
    -- prices != list(range(..))
    have hub : 0 ≤ lbF j t w ∧ ubF j t w ≤ 1000 := by
      have h1 : ((j + 1 : Nat) : Int) * ((w : Int) + 1) ≤ 4 * 8 := Int.mul_le_mul (by omega) (by omega) (by omega) (by omega)
      have h2 : 0 ≤ ((j + 1 : Nat) : Int) * ((w : Int) + 1) := Int.mul_nonneg (by omega) (by omega)
      have h3 := rup_nn ((t : Int) - ((j + 1 : Nat) : Int) * (2 ^ w - 1)) (2 ^ w)
      have h4 : (t : Int) / 2 ^ w ≤ t := Int.ediv_le_self _ (by omega)
      unfold lbF ubF
      omega
    have hlu := lb_le j t w
    refine ⟨_, rfl, _, rfl, p6, _, _, _, rfl, rfl, .inl (.inl h68), a0, _, rfl, _, rfl, p6, _, _, _, rfl, rfl, .inl (.inl h68), a1, _, _, rfl, rfl, _, _, rfl, rfl, RgOk.of_le hub.1 (by omega) (by omega) (by omega), fun p9 n9 => ?_⟩
    rw [rg_span]
    obtain ⟨H9, e9, s9, h9⟩ := fresh (.lst ((spanI (lbF j t w) (ubF j t w)).map V.int)) n9
    rw [e9]
    refine ne_lst (ns := spanI (lbF j t w) (ubF j t w)) (.inl (.inl (s9 _ _ h68))) (.inl (.inl h9)) ⟨_, rfl, iteF ?_⟩
    -- width_row
    refine ⟨_, rfl, _, rfl, _, rfl, j + 1, t, w, rfl, by omega, by omega, by omega, by omega, fun H10 v s10 hv => ?_⟩
    have s310 : Same H3 H10 := s36.trans (s7.trans (s8.trans (s9.trans s10)))
    have hD10 := s310 _ _ hD3
    have hfm := firsts_mem (j := j) (t := t) w
    refine ⟨_, rfl, rfl, _, rfl, _, rfl, D, _, rfl, .inl (.inl (.inl hD10)), rfl, flat_int _, rfl, _, rfl, ?_⟩
    rw [notin_int]
    have ev : decide (v = V.non) = !decide ((w : Int) ∈ firstsL j t) := by
      rcases hv with ⟨z, rfl⟩ | ⟨z, p, rfl, _⟩
      · rw [decide_eq_true rfl, decide_eq_false (fun y => z (hfm.mp y))]
        rfl
      · rw [decide_eq_false (by intro y; cases y), decide_eq_true (hfm.mpr z)]
        rfl
    refine iteNF (by rw [ev]) ?_
    rcases hv with ⟨z, rfl⟩ | ⟨z, p, rfl, np, hp⟩
    · refine ⟨_, rfl, rfl, _, rfl, iteNF rfl ?_⟩
      exact iteF ⟨_, _, _, rfl, s3.trans s310⟩
    · refine ⟨_, rfl, rfl, _, rfl, iteNT (by intro y; cases y) ?_⟩
      obtain ⟨hRow, hFst⟩ := wrow_ok (m := j + 1) (by omega) z.1 z.2
      have s110 : Same H1 H10 := s2.trans (s3.trans s310)
      have hpr10 := s110 _ _ hpr
      have hat10 : ∀ (i : Nat) (a : Addr) (r : List Int), as[i]? = some a → (rowsK j t)[i]? = some r → H10 a = some (.lst (r.map V.int)) := fun i a r ha hr => s110 _ _ (hat i a r ha hr)
      have hDr : Dp K H10 (.ref pr) (.list ((rowsK j t).map rowD)) := .lst (.inl (.inl hpr10)) (rows_dp hal hat10)
      have hDt : Dp K H10 (.ref p) (rowD (wrow (j + 1) t w)) := .lst (.inl (.inl hp)) (Pre.dp_ints _)
      have hin : (((rowsK j t).map rowD).any fun z => PyData.eqv z (rowD (wrow (j + 1) t w))) = true := by
        rw [List.any_map, List.any_eq_true]
        refine ⟨_, (rowsK_ok j t _).mpr hRow, ?_⟩
        show PyData.eqv (rowD _) (rowD _) = true
        rw [rowD_eqv]
        exact decide_eq_true rfl
      refine ⟨_, rfl, _, rfl, _, _, hDt, hDr, shaped_ints _, rows_shaped _, _, rfl, ?_⟩
      rw [hin]
      refine iteF ?_
      refine ⟨_, rfl, p, wrow (j + 1) t w, j + 1, w, t, rfl, .inl (.inl hp), hRow, by omega, by omega, hFst, by omega, fun H11 p11 v0 v2 s11 h11 => ?_⟩
      refine ⟨p11, _, _, .int (w : Int), rfl, rfl, .inl (.inl h11), rfl, _, rfl, rfl, _, rfl, iteNF rfl ?_⟩
      exact ⟨_, _, _, rfl, s3.trans (s310.trans s11)⟩
  · rintro σ H3 ⟨v4, v5, v6, rfl, s3⟩
    have hD3 := s3 _ _ hD
    -- possible_widths
    refine ⟨_, rfl, _, rfl, ((j + 1 : Nat) : Int), t, rfl, by omega, by omega, by omega, by omega, fun F L H4 p4 s4 n4 h4 _ hP => ?_⟩
    have hmem : ∀ w : Nat, (w : Int) ∈ firstsL j t ↔ F ≤ w ∧ w ≤ L := fun w => (firsts_mem w).trans (poss_iff (by omega) (by omega) hP w).symm
    have hmin : ∀ M, M ∈ firstsL j t → (∀ y ∈ firstsL j t, M ≤ y) → M = (F : Int) := fun M h1 h2 => by
      obtain ⟨x, rfl⟩ := firsts_nat h1
      have := (hmem x).mp h1
      have := h2 _ ((hmem F).mpr ⟨Nat.le_refl _, hP.le⟩)
      omega
    have hmax : ∀ M, M ∈ firstsL j t → (∀ y ∈ firstsL j t, y ≤ M) → M = (L : Int) := fun M h1 h2 => by
      obtain ⟨x, rfl⟩ := firsts_nat h1
      have := (hmem x).mp h1
      have := h2 _ ((hmem L).mpr ⟨hP.le, Nat.le_refl _⟩)
      omega
    have hD4 := s4 _ _ hD3
    refine ⟨_, rfl, D, _, rfl, .inl (.inl hD4), fne, fun M1 k1 l1 => ?_⟩
    rw [hmin M1 k1 l1]
    refine ⟨_, rfl, D, _, rfl, .inl (.inl hD4), fne, fun M2 k2 l2 => ?_⟩
    rw [hmax M2 k2 l2]
    refine ⟨(show 2 ≤ sizeLine by decide), fun p5 n5 => ?_⟩
    obtain ⟨H5, e5, s5, h5⟩ := fresh (.tup [V.int F, V.int L]) n5
    rw [e5]
    refine ne_tup (ns := [(F : Int), (L : Int)]) (.inl (.inl (s5 _ _ h4))) (.inl (.inl h5)) ⟨_, rfl, iteF ?_⟩
    have hD5 := s5 _ _ hD4
    refine ⟨_, rfl, D, _, rfl, .inl (.inl hD5), by omega, fun p6 c6 n6 l6 => ?_⟩
    refine ⟨p6, _, c6, rfl, upd_same, by omega, fun ns p7 hs hm _ n7 => ?_⟩
    have ens : ns = spanI F L := strict_ext hs (span_up _ _) fun k => by
      rw [hm k, decide_eq_true_iff, span_mem]
      constructor
      · intro h
        obtain ⟨x, rfl⟩ := firsts_nat h
        have := (hmem x).mp h
        omega
      · rintro ⟨h1, h2⟩
        have := (hmem k.toNat).mpr (by omega)
        rwa [Int.toNat_of_nonneg (by omega)] at this
    subst ens
    obtain ⟨H6, e6, s6, _⟩ := fresh (SetO _ p6 (fun j_1 => decide (j_1 ∈ firstsL j t)) c6) n6
    rw [e6] at n7 ⊢
    obtain ⟨H7, e7, s7, h7⟩ := fresh (.lst ((spanI (F : Int) L).map V.int)) n7
    rw [e7]
    have hD7 := s7 _ _ (s6 _ _ hD5)
    have hL : L ≤ 200 := by
      have h1 := (poss_iff (by omega) (by omega) hP L).mp ⟨hP.le, Nat.le_refl _⟩
      rcases Nat.lt_or_ge 200 L with z | z
      · obtain ⟨l', rfl⟩ : ∃ l', L = l' + 1 := ⟨L - 1, by omega⟩
        have := lsF_big (by omega) h1.1 t40
        omega
      · exact z
    have hFL := hP.le
    refine ⟨_, rfl, D, _, rfl, .inl (.inl hD7), fne, fun M3 k3 l3 => ?_⟩
    rw [hmin M3 k3 l3]
    refine ⟨_, rfl, D, _, rfl, .inl (.inl hD7), fne, fun M4 k4 l4 => ?_⟩
    rw [hmax M4 k4 l4]
    refine ⟨_, _, rfl, rfl, _, _, rfl, rfl, RgOk.of_le (by omega) (by omega) (by omega) (by omega), fun p8 n8 => ?_⟩
    rw [rg_span]
    obtain ⟨H8, e8, s8, h8⟩ := fresh (.lst ((spanI (F : Int) L).map V.int)) n8
    rw [e8]
    refine eq_lst (ns := spanI F L) (.inl (.inl (s8 _ _ h7))) (.inl (.inl h8)) ⟨_, rfl, iteT ?_⟩
    have hD8 := s8 _ _ hD7
    refine ⟨_, rfl, D, _, rfl, .inl (.inl hD8), fne, fun M5 k5 l5 => ?_⟩
    rw [hmax M5 k5 l5]
    refine ⟨_, rfl, D, _, rfl, .inl (.inl hD8), fne, fun M6 k6 l6' => ?_⟩
    rw [hmin M6 k6 l6']
    refine ⟨_, _, rfl, rfl, _, _, rfl, rfl, ?_⟩
    have := poss_two (by omega) hP
    walk_at "b"
    rw [decide_eq_true (show (L : Int) - (F : Int) < 3 by omega)]
    exact q _ (s1.trans (s2.trans (s3.trans (s4.trans (s5.trans (s6.trans (s7.trans s8)))))))
end
end My

namespace My
open PySem PySem.Spec PyProof.Rows L2 Pre
theorem GenAt.updNe {H : Hp} {g p : Addr} {o : HO} {n : Nat} (h : GenAt H g n) (ne : p ≠ g) : GenAt (L2.upd H p o) g n := by
  obtain ⟨x, y, z, a, b⟩ := h
  exact ⟨x, y, z, by rw [upd_ne ne.symm]; exact a, b⟩
local macro_rules | `(tactic| walk_at "go") => `(tactic| repeat (first | (with_reducible first | refine iteT ?_ | refine iteF ?_ | refine iteNtt ?_ | refine iteNff ?_ | refine iteET (by omega) ?_ | refine iteEF (by omega) ?_ | refine iteENT (by omega) ?_ | refine iteENF (by omega) ?_ | refine iteDT (by omega) ?_ | refine iteDF (by omega) ?_ | refine iteNT (by omega) ?_ | refine iteNF (by omega) ?_) | refine ⟨_, rfl, ?_⟩ | refine ⟨_, _, rfl, rfl, ?_⟩ | refine ⟨_, _, rfl, ?_⟩ | refine ⟨rfl, ?_⟩ | refine .inl ⟨_, rfl, ?_⟩ | refine .inr ⟨_, rfl, ?_⟩))
local macro_rules | `(tactic| walk_at "b") => `(tactic| try dsimp (config := { proj := false, iota := false, eta := false, zeta := false }) only)
section
variable {P : Program} {w : World} {K : PySem.W.Frag} {mg : Str → Option Value} {base : Heap}
def sp_law_great_right (K : PySem.W.Frag) : Sp := fun vs H Q _ => ∃ (g : Addr) (m n : Nat) (t : Int), vs = [.ref g, .int m, .int t] ∧ GenAt H g n ∧ n ≤ 10 ^ 6 ∧ 1 ≤ m ∧ m ≤ 100 ∧ 0 ≤ t ∧ t < 2 ^ 95 ∧ ∀ H', But g H H' → GenAt H' g (n + 100000) → Q (.bl true) H'
theorem G_law_great_right (T : Top K mg) : FnOk P w K mg base CX0 6 T.f_law_great_right T.fd_law_great_right ["_law_generator_here", "_law_many", "_law_total"] (sp_law_great_right K) := by
  refine T.F_law_great_right.ok sc_law_great_right (fun vs H Q E h => by obtain ⟨g, m, n, t, rfl, _⟩ := h; rfl) (fun cdv A outer s H vs Q E hr h => ?_)
  obtain ⟨g, m, n, t, rfl, hG, hn, hm, hm2, ht, ht2, q⟩ := h
  refine ⟨_, PSs.nox (pss_cons (ps_asg (pe_call (G_possible_widths T) (hr.mono (by decide)) (by rfl) T.g_possible_widths T.F_possible_widths.kp T.b_possible_widths .nil pass0 (pa_cons (pv 1) (pa_cons (pv 2) pa_nil))) (k_pgT K rfl (by rfl) (pgs_cons (pg_name (i := 4) sc_law_great_right.nd rfl (by first | exact Or.inl rfl | exact Or.inr rfl)) (pgs_cons (pg_name (i := 5) sc_law_great_right.nd rfl (by first | exact Or.inl rfl | exact Or.inr rfl)) pgs_nil))))
  (pss_cons (ps_if (pt_not (pt_chain3 op_le op_le op_le pe_int (pv 4) (pv 5) (pe_op op_add (pv 4) pe_int)))
    (pss_one (ps_ret pe_bl))
    pss_nil)
  (pss_cons (ps_if (pt_cmpR op_notin_rng (pe_call (G_law_first T) (hr.mono (by decide)) (by rfl) T.g_law_first T.F_law_first.kp T.b_law_first .nil pass0 (pa_cons (pe_call (G_law_row_cut T) (hr.mono (by decide)) (by rfl) T.g_law_row_cut T.F_law_row_cut.kp T.b_law_row_cut .nil pass0 (pa_cons (pv 0) (pa_cons (pv 1) (pa_cons (pv 2) pa_nil)))) pa_nil)) (pe_callTy cr_range2 (by rfl) T.n_range (by decide +kernel) (pa_cons (pv 4) (pa_cons (pe_op op_add (pv 5) pe_int) pa_nil))) (by rfl))
    (pss_one (ps_ret pe_bl))
    pss_nil)
  (pss_cons (ps_for PassesOwn.never rfl (pi_range2 (by rfl) T.n_range (pa_cons (pe_callB (call_max2 rfl) (by rfl) T.n_max (by decide +kernel) (pa_cons pe_int (pa_cons (pe_op op_sub (pv 4) pe_int) pa_nil))) (pa_cons (pe_op op_add (pv 5) pe_int) pa_nil))) (pg_name (i := 3) sc_law_great_right.nd rfl (by first | exact Or.inl rfl | exact Or.inr rfl))
    (pss_cons (ps_set (i := 6) sc_law_great_right.nd rfl (by first | exact Or.inl rfl | exact Or.inr rfl) (pe_call (G_width_row T) (hr.mono (by decide)) (by rfl) T.g_width_row T.F_width_row.kp T.b_width_row .nil pass0 (pa_cons (pv 1) (pa_cons (pv 2) (pa_cons (pv 3) pa_nil)))))
  (pss_cons (ps_if (pt_cmpR op_eq (pe_cmpR op_isN (pv 6) pe_non (nomark _)) (pe_cmpR op_in_rng (pv 3) (pe_callTy cr_range2 (by rfl) T.n_range (by decide +kernel) (pa_cons (pv 4) (pa_cons (pe_op op_add (pv 5) pe_int) pa_nil))) (by rfl)) (nomark _))
    (pss_one (ps_ret pe_bl))
    pss_nil)
  (pss_one (ps_if (PW.pt (pw_and (pt_cmpR op_notN (pv 6) pe_non (nomark _)) (pw_and1 (PW.pt (pw_or (pt_cmpR op_ne (pe_callB (k_len K rfl) (by rfl) T.n_len (by decide +kernel) (pa_cons (pv 6) pa_nil)) (pv 1) (nomark _)) (pw_or (pt_cmpR op_ne (pe_callB (k_sum K rfl rfl) (by rfl) T.n_sum (by decide +kernel) (pa_cons (pv 6) pa_nil)) (pv 2) (nomark _)) (pw_or (pt_cmpR op_lt (pe_callB (k_min K rfl rfl) (by rfl) T.n_min (by decide +kernel) (pa_cons (pv 6) pa_nil)) pe_int (nomark _)) (pw_or1 (pt_cmpR op_ne (pe_call (G_law_first T) (hr.mono (by decide)) (by rfl) T.g_law_first T.F_law_first.kp T.b_law_first .nil pass0 (pa_cons (pv 6) pa_nil)) (pv 3) (nomark _))))))))))
    (pss_one (ps_ret pe_bl))
    pss_nil)))))
  (pss_cons (ps_for PassesOwn.never rfl (k_piL K rfl (pe_lst (pa_cons (pv 4) (pa_cons (pe_op op_add (pv 5) pe_int) (pa_cons (pe_call (G_law_random T) (hr.mono (by decide)) (by rfl) T.g_law_random T.F_law_random.kp T.b_law_random .nil pass0 (pa_cons (pv 0) (pa_cons pe_int pa_nil))) pa_nil))))) (pg_name (i := 3) sc_law_great_right.nd rfl (by first | exact Or.inl rfl | exact Or.inr rfl))
    (pss_cons (ps_asg (pe_call (G_price_bounds T) (hr.mono (by decide)) (by rfl) T.g_price_bounds T.F_price_bounds.kp T.b_price_bounds .nil pass0 (pa_cons (pv 1) (pa_cons (pv 2) (pa_cons (pv 3) pa_nil)))) (k_pgT K rfl (by rfl) (pgs_cons (pg_name (i := 7) sc_law_great_right.nd rfl (by first | exact Or.inl rfl | exact Or.inr rfl)) (pgs_cons (pg_name (i := 8) sc_law_great_right.nd rfl (by first | exact Or.inl rfl | exact Or.inr rfl)) pgs_nil))))
  (pss_cons (ps_if (pt_cmpR op_ne (pe_call (G_law_price T) (hr.mono (by decide)) (by rfl) T.g_law_price T.F_law_price.kp T.b_law_price .nil pass0 (pa_cons (pe_call (G_law_cheap_row T) (hr.mono (by decide)) (by rfl) T.g_law_cheap_row T.F_law_cheap_row.kp T.b_law_cheap_row .nil pass0 (pa_cons (pv 1) (pa_cons (pv 2) (pa_cons (pv 3) pa_nil)))) (pa_cons (pv 3) pa_nil))) (pv 7) (nomark _))
    (pss_one (ps_ret pe_bl))
    pss_nil)
  (pss_cons (ps_if (pt_cmpR op_ne (pe_call (G_law_price T) (hr.mono (by decide)) (by rfl) T.g_law_price T.F_law_price.kp T.b_law_price .nil pass0 (pa_cons (pe_op op_cat (pe_lst (pa_cons (pv 2) pa_nil)) (pe_op op_rep (pe_lst (pa_cons pe_int pa_nil)) (pe_op op_sub (pv 1) pe_int))) (pa_cons (pv 3) pa_nil))) (pv 8) (nomark _))
    (pss_one (ps_ret pe_bl))
    pss_nil)
  (pss_one (ps_if (pt_not (pt_chain op_le op_le (pv 7) (pe_call (G_law_price T) (hr.mono (by decide)) (by rfl) T.g_law_price T.F_law_price.kp T.b_law_price .nil pass0 (pa_cons (pe_call (G_law_row_cut T) (hr.mono (by decide)) (by rfl) T.g_law_row_cut T.F_law_row_cut.kp T.b_law_row_cut .nil pass0 (pa_cons (pv 0) (pa_cons (pv 1) (pa_cons (pv 2) pa_nil)))) (pa_cons (pv 3) pa_nil))) (pv 8)))
    (pss_one (ps_ret pe_bl))
    pss_nil))))))
  (pss_one (ps_ret pe_bl))))))), ?_⟩
  have t100 : t < 2 ^ 100 := Int.lt_trans ht2 (by decide)
  refine ⟨_, rfl, _, rfl, (m : Int), t, rfl, by omega, by omega, ht, t100, fun F L H1 p s1 np hp hF hP => ⟨p, _, rfl, .inl (.inl hp), rfl, _, _, rfl, _, _, rfl, rfl, ?_⟩⟩
  refine restate [some (.ref g), some (.int m), some (.int t), none, some (.int F), some (.int L), none, none, none] rfl ?_
  have hFL := hP.le
  have hL2 := poss_two (by omega) hP
  have hin : ∀ w : Nat, (F ≤ w ∧ w ≤ L) ↔ (lsF m w ≤ t ∧ t ≤ m * gF w) := poss_iff (by omega) ht hP
  refine ⟨_, rfl, _, _, rfl, rfl, _, rfl, iteDT (by omega) ?_⟩
  refine ⟨_, rfl, _, _, rfl, rfl, _, rfl, iteDT (by omega) ?_⟩
  refine ⟨_, rfl, _, _, rfl, rfl, _, _, rfl, rfl, _, rfl, iteNF (by omega) ?_⟩
  -- the first width of a row is one of them
  refine ⟨_, rfl, _, rfl, _, rfl, g, m, n, t, rfl, hG.same s1, by omega, hm, hm2, ht, t100, fun H2 p2 ns n2 b2 g2 h2 hR => ?_⟩
  obtain ⟨f, f95, hf⟩ := fst_ex hR ht2
  have hff := (hin f).mpr (fst_in hR ht hf)
  refine ⟨p2, ns, m, f, t, rfl, .inl (.inl h2), hR, hf, by omega, fun H3 s3 => ?_⟩
  refine ⟨_, rfl, _, rfl, _, _, rfl, rfl, _, _, rfl, fun p4 n4 => ?_⟩
  obtain ⟨H4, e4, s4, h4⟩ := fresh (.rng (F : Int) ((L : Int) + 1)) n4
  rw [e4]
  refine ⟨_, p4, _, _, rfl, rfl, h4, _, rfl, iteNF ⟨by omega, by omega⟩ ?_⟩
  have b14 : But g H H4 := (((But.of s1).trans b2).same s3).same s4
  have g4 : GenAt H4 g (n + 20000) := (g2.same s3).same s4
  -- widths near them
  refine ⟨_, rfl, _, _, rfl, rfl, _, _, rfl, ?_⟩
  have em : (if (F : Int) - 1 > 0 then (F : Int) - 1 else 0) = ((F - 1 : Nat) : Int) := by omega
  walk_at "b"
  rw [em]
  refine ⟨_, rfl, _, _, rfl, rfl, _, _, rfl, ⟨by omega, by omega, by omega, by omega⟩, ?_⟩
  walk_at "b"
  have en : ((L : Int) + 2 - ((F - 1 : Nat) : Int)).toNat = L + 2 - (F - 1) := by omega
  rw [en]
  refine for_range (lo := ((F - 1 : Nat) : Int)) (n := L + 2 - (F - 1)) (fun i σ H5 => ∃ (v3 v6 : Option V), σ = [some (.ref g), some (.int m), some (.int t), v3, some (.int F), some (.int L), v6, none, none] ∧ Same H4 H5) ⟨none, none, rfl, Same.refl _⟩ ?_ ?_
  · rintro i σ H5 hi ⟨v3, v6, rfl, s5⟩
    rw [show ((F - 1 : Nat) : Int) + (i : Int) = ((F - 1 + i : Nat) : Int) by omega]
    generalize ew : F - 1 + i = w
    have hw : w ≤ 110 := by omega
    refine ⟨_, rfl, _, rfl, _, rfl, m, t, w, rfl, hm, by omega, ht, by omega, fun H6 v s6 hv => ?_⟩
    refine ⟨_, rfl, rfl, _, rfl, _, rfl, _, rfl, _, _, rfl, rfl, _, _, rfl, fun p7 n7 => ?_⟩
    obtain ⟨H7, e7, s7, h7⟩ := fresh (.rng (F : Int) ((L : Int) + 1)) n7
    rw [e7]
    have hw2 := hin w
    have ed : decide (v = V.non) = !decide ((F : Int) ≤ (w : Int) ∧ (w : Int) < (L : Int) + 1) := by
      have e : decide ((F : Int) ≤ (w : Int) ∧ (w : Int) < (L : Int) + 1) = decide (F ≤ w ∧ w ≤ L) := decide_eq_decide.mpr (by omega)
      rw [e]
      rcases hv with ⟨z, rfl⟩ | ⟨z, p, rfl, _⟩
      · rw [decide_eq_true rfl, decide_eq_false (fun y => z (hw2.mp y))]
        rfl
      · rw [decide_eq_false (by intro y; cases y), decide_eq_true (hw2.mpr z)]
        rfl
    refine ⟨_, p7, _, _, rfl, rfl, h7, rfl, _, rfl, iteDF (fun y => ?_) ?_⟩
    · have y2 := V.bl.inj y
      rw [ed] at y2
      cases hb : decide ((F : Int) ≤ (w : Int) ∧ (w : Int) < (L : Int) + 1) <;> rw [hb] at y2 <;> cases y2
    have s47 := s5.trans (s6.trans s7)
    rcases hv with ⟨z, rfl⟩ | ⟨z, p, rfl, np, hp⟩
    · refine ⟨_, rfl, rfl, _, rfl, iteNF rfl ?_⟩
      exact iteF ⟨_, _, rfl, s47⟩
    · obtain ⟨hRow, hFst⟩ := wrow_ok hm z.1 z.2
      have hp7 := s7 _ _ hp
      have hS : SqL K H7 p ((wrow m t w).map V.int) := .inl (.inl hp7)
      refine ⟨_, rfl, rfl, _, rfl, iteNT (by intro y; cases y) ?_⟩
      refine ⟨_, rfl, p, _, rfl, .inl hS, _, rfl, rfl, _, rfl, iteNF (by rw [List.length_map, hRow.1]) ?_⟩
      refine ⟨_, rfl, p, _, rfl, hS, _, rfl, rfl, _, rfl, iteNF (by rw [hRow.2.1]) ?_⟩
      refine ⟨_, rfl, p, _, rfl, hS, by rw [hRow.1]; omega, fun M hM hle => ?_⟩
      have hM0 := hRow.2.2 M hM
      refine ⟨_, _, rfl, rfl, _, rfl, iteDF (by omega) ?_⟩
      refine ⟨_, rfl, p, _, m, w, t, rfl, hS, hRow, hFst, by omega, fun H8 s8 => ?_⟩
      refine ⟨_, rfl, rfl, _, rfl, iteNF rfl ?_⟩
      exact ⟨_, _, rfl, s47.trans s8⟩
  · rintro σ H5 ⟨v3, v6, rfl, s5⟩
    have b5 := b14.same s5
    have g5 := g4.same s5
    refine ⟨_, rfl, _, rfl, _, _, rfl, rfl, _, rfl, g, 90, _, rfl, g5, by omega, by decide, by decide, fun d' H6 d0 d1 g6 b6 => ?_⟩
    obtain ⟨d, rfl⟩ : ∃ d : Nat, d' = (d : Int) := ⟨d'.toNat, by omega⟩
    refine ⟨(show 3 ≤ sizeLine by decide), fun ql nq => ?_⟩
    have qg : ql ≠ g := g6.ne nq
    obtain ⟨H7, e7, s7, h7⟩ := fresh (.lst [V.int (F : Int), V.int ((L : Int) + 1), V.int (d : Int)]) nq
    rw [e7]
    refine ⟨ql, rfl, ⟨_, .inl (.inl h7)⟩, for_list (K := K) (a := ql) (xs := [V.int (F : Int), V.int ((L : Int) + 1), V.int (d : Int)]) (fun i σ H8 => ∃ (v3 v6 v7 v8 : Option V), σ = [some (.ref g), some (.int m), some (.int t), v3, some (.int F), some (.int L), v6, v7, v8] ∧ But g H H8 ∧ GenAt H8 g (n + 20100 + 20000 * i) ∧ H8 ql = some (.lst [V.int (F : Int), V.int ((L : Int) + 1), V.int (d : Int)])) ⟨v3, v6, none, none, rfl, (b5.trans b6).same s7, (g6.same s7).mono (by omega), h7⟩ (fun i σ H8 _ ⟨_, _, _, _, _, _, _, h⟩ => .inl (.inl h)) ?_ ?_⟩
    · rintro i x σ H8 hx ⟨v3, v6, v7, v8, rfl, b8, g8, h8⟩
      obtain ⟨w, rfl, hw⟩ : ∃ w : Nat, x = .int (w : Int) ∧ w ≤ 110 := by
        match i, hx with
        | 0, hx => cases hx; exact ⟨F, rfl, by omega⟩
        | 1, hx => cases hx; exact ⟨L + 1, rfl, by omega⟩
        | 2, hx => cases hx; exact ⟨d, rfl, by omega⟩
      have hi3 : i < 3 := (List.getElem?_eq_some_iff.mp hx).1
      refine ⟨_, rfl, _, rfl, _, rfl, (m : Int), t, w, rfl, by omega, by omega, ht, by omega, fun H9 p9 s9 n9 h9 => ⟨p9, _, rfl, .inl (.inl h9), rfl, _, _, rfl, _, _, rfl, rfl, ?_⟩⟩
      refine restate [some (.ref g), some (.int m), some (.int t), some (.int w), some (.int F), some (.int L), v6, some (.int ((m : Int) * ((w : Int) + 1) + rup (t - (m : Int) * (2 ^ w - 1)) (2 ^ w))), some (.int ((m : Int) * ((w : Int) + 1) + t / 2 ^ w))] rfl ?_
      -- a cheap row
      refine ⟨_, rfl, _, rfl, _, rfl, m, w, t, rfl, hm, by omega, ht, by omega, fun H10 p10 s10 n10 h10 => ?_⟩
      refine ⟨_, rfl, p10, _, w, rfl, .inl (.inl h10), by omega, _, rfl, rfl, _, rfl, iteNF (by rw [cheap_price hm ht]) ?_⟩
      -- a dear one
      refine ⟨_, rfl, (show 1 ≤ sizeLine by decide), fun p11 n11 => ?_⟩
      obtain ⟨H11, e11, s11, h11⟩ := fresh (.lst [V.int t]) n11
      rw [e11]
      refine ⟨(show 1 ≤ sizeLine by decide), fun p12 n12 => ?_⟩
      obtain ⟨H12, e12, s12, h12⟩ := fresh (.lst [V.int 0]) n12
      rw [e12]
      have em1 : ((m : Int) - 1).toNat = m - 1 := by omega
      refine ⟨_, rfl, _, _, rfl, rfl, p12, _, _, rfl, rfl, h12, by omega, by omega, by rw [em1]; show 1 * (m - 1) ≤ _; rw [Nat.one_mul]; exact Nat.le_of_lt (small1000 (by omega)), fun p13 n13 => ?_⟩
      rw [em1, rep_one]
      obtain ⟨H13, e13, s13, h13⟩ := fresh (.lst ((List.replicate (m - 1) (0 : Int)).map V.int)) n13
      rw [e13]
      refine ⟨_, _, _, _, rfl, rfl, s13 _ _ (s12 _ _ h11), h13, by rw [List.length_map, List.length_replicate]; exact Nat.le_of_lt (small1000 (show 1 + (m - 1) ≤ 1000 by omega)), fun p14 n14 => ?_⟩
      obtain ⟨H14, e14, s14, h14⟩ := fresh (.lst ([V.int t] ++ (List.replicate (m - 1) (0 : Int)).map V.int)) n14
      rw [e14]
      refine ⟨_, rfl, p14, t :: List.replicate (m - 1) 0, w, rfl, .inl (.inl h14), by omega, _, rfl, rfl, _, rfl, iteNF (by rw [dear_price hm]) ?_⟩
      have s814 : Same H8 H14 := s9.trans (s10.trans (s11.trans (s12.trans (s13.trans s14))))
      -- any row
      refine ⟨_, rfl, _, rfl, _, rfl, _, rfl, g, m, _, t, rfl, g8.same s814, by omega, hm, hm2, ht, t100, fun H15 p15 ns n15 b15 g15 h15 hR => ?_⟩
      have hbt := between hR w
      refine ⟨_, rfl, p15, ns, w, rfl, .inl (.inl h15), by omega, _, _, rfl, rfl, _, rfl, iteDT hbt.1 ?_⟩
      refine ⟨_, rfl, _, _, rfl, rfl, _, rfl, iteNF hbt.2 ?_⟩
      exact ⟨_, _, _, _, rfl, (b8.same s814).trans b15, g15.mono (by omega), b15 _ _ qg (s814 _ _ h8)⟩
    · rintro σ H8 ⟨v3, v6, v7, v8, rfl, b8, g8, h8⟩
      exact q _ b8 (g8.mono (by show n + 20100 + 20000 * 3 ≤ _; omega))
end
end My

namespace My
open PySem PySem.Spec PyProof.Rows L2 Pre
theorem rup_due {x u : Int} (hu : 0 < u) : (if x ≤ 0 then 0 else (x + u - 1) / u) = rup x u := by
  split
  · rename_i h
    have h1 := rup_le (t := x) hu (Int.le_refl 0) (by omega)
    have h2 := rup_nn x u
    omega
  · rename_i h
    rw [← rup_div hu (by omega)]
    congr 1
    omega
theorem poss_2_4 : Poss 2 4 0 1 := by
  refine ⟨by decide, fun w h => absurd h (by omega), by decide, fun w h1 h2 => ?_, by decide⟩
  have : w = 1 := by omega
  subst this
  decide
theorem poss_uniq {m t : Int} (hm : 1 ≤ m) (ht : 0 ≤ t) {F L F' L' : Nat} (a : Poss m t F L) (b : Poss m t F' L') : F = F' ∧ L = L' := by
  have h1 := fun w => (poss_iff hm ht a w).trans (poss_iff hm ht b w).symm
  have a1 := (h1 F).mp ⟨Nat.le_refl _, a.le⟩
  have a2 := (h1 L).mp ⟨a.le, Nat.le_refl _⟩
  have b1 := (h1 F').mpr ⟨Nat.le_refl _, b.le⟩
  have b2 := (h1 L').mpr ⟨b.le, Nat.le_refl _⟩
  omega
local macro_rules | `(tactic| walk_at "go") => `(tactic| repeat (first | (with_reducible first | refine iteT ?_ | refine iteF ?_ | refine iteNtt ?_ | refine iteNff ?_ | refine iteET (by omega) ?_ | refine iteEF (by omega) ?_ | refine iteENT (by omega) ?_ | refine iteENF (by omega) ?_ | refine iteDT (by omega) ?_ | refine iteDF (by omega) ?_ | refine iteNT (by omega) ?_ | refine iteNF (by omega) ?_) | refine ⟨_, rfl, ?_⟩ | refine ⟨_, _, rfl, rfl, ?_⟩ | refine ⟨_, _, rfl, ?_⟩ | refine ⟨rfl, ?_⟩ | refine .inl ⟨_, rfl, ?_⟩ | refine .inr ⟨_, rfl, ?_⟩))
local macro_rules | `(tactic| walk_at "b") => `(tactic| try dsimp (config := { proj := false, iota := false, eta := false, zeta := false }) only)
section
variable {P : Program} {w : World} {K : PySem.W.Frag} {mg : Str → Option Value} {base : Heap}
def sp_law (K : PySem.W.Frag) : Sp := fun vs H Q _ => ∃ (a : Addr) (ns : List Int), vs = [.ref a] ∧ SqL K H a (ns.map V.int) ∧ ns.length ≤ 63 ∧ ∀ H', Q (.bl true) H'
theorem G_law (T : Top K mg) : FnOk P w K mg base CX0 7 T.f_law T.fd_law ["_law_script"] (sp_law K) := by
  refine T.F_law.ok sc_law (fun vs H Q E h => by obtain ⟨a, ns, rfl, _⟩ := h; rfl) (fun cdv A outer s H vs Q E hr h => ?_)
  obtain ⟨a, ns, rfl, hS, hn, q⟩ := h
  refine ⟨_, PSs.nox (pss_cons (ps_set (i := 1) sc_law.nd rfl (by first | exact Or.inl rfl | exact Or.inr rfl) (pe_call (G_law_generator T) (hr.mono (by decide)) (by rfl) T.g_law_generator T.F_law_generator.kp T.b_law_generator .nil pass0 (pa_cons (pv 0) (pa_cons pe_int pa_nil))))
  (pss_cons (ps_set (i := 2) sc_law.nd rfl (by first | exact Or.inl rfl | exact Or.inr rfl) (pe_op op_add pe_int (pe_call (G_law_random T) (hr.mono (by decide)) (by rfl) T.g_law_random T.F_law_random.kp T.b_law_random .nil pass0 (pa_cons (pv 1) (pa_cons pe_int pa_nil)))))
  (pss_cons (ps_if (pt_not (pt_val (pe_call (G_law_small_right T) (hr.mono (by decide)) (by rfl) T.g_law_small_right T.F_law_small_right.kp T.b_law_small_right .nil pass0 (pa_cons (pv 2) (pa_cons (pe_call (G_law_random T) (hr.mono (by decide)) (by rfl) T.g_law_random T.F_law_random.kp T.b_law_random .nil pass0 (pa_cons (pv 1) (pa_cons (pe_op op_sub pe_int (pe_op op_mul pe_int (pv 2))) pa_nil))) pa_nil)))))
    (pss_one (ps_ret pe_bl))
    pss_nil)
  (pss_cons (ps_if (pt_not (pt_val (pe_call (G_law_small_right T) (hr.mono (by decide)) (by rfl) T.g_law_small_right T.F_law_small_right.kp T.b_law_small_right .nil pass0 (pa_cons pe_int (pa_cons (pe_call (G_law_random T) (hr.mono (by decide)) (by rfl) T.g_law_random T.F_law_random.kp T.b_law_random .nil pass0 (pa_cons (pv 1) (pa_cons pe_int pa_nil))) pa_nil)))))
    (pss_one (ps_ret pe_bl))
    pss_nil)
  (pss_cons (ps_par (by rfl) sc_law.nd (i := 2) (j := 7) rfl rfl (by decide) rfl rfl (pa_cons (pe_op op_add pe_int (pe_call (G_law_random T) (hr.mono (by decide)) (by rfl) T.g_law_random T.F_law_random.kp T.b_law_random .nil pass0 (pa_cons (pv 1) (pa_cons (pe_ix (k_ixL K rfl) (pe_lst (pa_cons pe_int (pa_cons pe_int (pa_cons pe_int pa_nil)))) (pe_call (G_law_random T) (hr.mono (by decide)) (by rfl) T.g_law_random T.F_law_random.kp T.b_law_random .nil pass0 (pa_cons (pv 1) (pa_cons pe_int pa_nil))) (fun _ _ => rfl)) pa_nil)))) (pa_cons (pe_call (G_law_random T) (hr.mono (by decide)) (by rfl) T.g_law_random T.F_law_random.kp T.b_law_random .nil pass0 (pa_cons (pv 1) (pa_cons pe_int pa_nil))) pa_nil)) (by rfl))
  (pss_cons (ps_if (pt_not (pt_val (pe_call (G_law_great_right T) (hr.mono (by decide)) (by rfl) T.g_law_great_right T.F_law_great_right.kp T.b_law_great_right .nil pass0 (pa_cons (pv 1) (pa_cons (pv 2) (pa_cons (pe_call (G_law_random T) (hr.mono (by decide)) (by rfl) T.g_law_random T.F_law_random.kp T.b_law_random .nil pass0 (pa_cons (pv 1) (pa_cons (pe_op op_shl pe_int (pv 7)) pa_nil))) pa_nil))))))
    (pss_one (ps_ret pe_bl))
    pss_nil)
  (pss_cons (ps_par (by rfl) sc_law.nd (i := 2) (j := 8) rfl rfl (by decide) rfl rfl (pa_cons (pe_op op_add pe_int (pe_call (G_law_random T) (hr.mono (by decide)) (by rfl) T.g_law_random T.F_law_random.kp T.b_law_random .nil pass0 (pa_cons (pv 1) (pa_cons (pe_op op_powW pe_int pe_int) pa_nil)))) (pa_cons (pe_call (G_law_random T) (hr.mono (by decide)) (by rfl) T.g_law_random T.F_law_random.kp T.b_law_random .nil pass0 (pa_cons (pv 1) (pa_cons pe_int pa_nil))) pa_nil)) (by rfl))
  (pss_cons (ps_set (i := 3) sc_law.nd rfl (by first | exact Or.inl rfl | exact Or.inr rfl) (pe_call (G_law_random T) (hr.mono (by decide)) (by rfl) T.g_law_random T.F_law_random.kp T.b_law_random .nil pass0 (pa_cons (pv 1) (pa_cons (pe_op op_powW pe_int pe_int) pa_nil))))
  (pss_cons (ps_set (i := 4) sc_law.nd rfl (by first | exact Or.inl rfl | exact Or.inr rfl) (pe_op op_sub (pv 3) (pe_op op_mul (pv 2) (pe_op op_sub (pe_op op_shl pe_int (pv 8)) pe_int))))
  (pss_cons (ps_set (i := 5) sc_law.nd rfl (by first | exact Or.inl rfl | exact Or.inr rfl) (pe_ifExp (pt_cmpR op_le (pv 4) pe_int (nomark _)) pe_int (pe_op op_fdivW (pe_op op_sub (pe_op op_add (pv 4) (pe_op op_shl pe_int (pv 8))) pe_int) (pe_op op_shl pe_int (pv 8)))))
  (pss_cons (ps_set (i := 6) sc_law.nd rfl (by first | exact Or.inl rfl | exact Or.inr rfl) (pe_tup (pa_cons (pe_op op_add (pe_op op_mul (pv 2) (pe_op op_add (pv 8) pe_int)) (pv 5)) (pa_cons (pe_op op_add (pe_op op_mul (pv 2) (pe_op op_add (pv 8) pe_int)) (pe_op op_fdivW (pv 3) (pe_op op_shl pe_int (pv 8)))) pa_nil))))
  (pss_cons (ps_if (pt_cmpR (k_neD K rfl hr.units) (pe_call (G_price_bounds T) (hr.mono (by decide)) (by rfl) T.g_price_bounds T.F_price_bounds.kp T.b_price_bounds .nil pass0 (pa_cons (pv 2) (pa_cons (pv 3) (pa_cons (pv 8) pa_nil)))) (pv 6) (nomark _))
    (pss_one (ps_ret pe_bl))
    pss_nil)
  (pss_one (ps_ret (pe_cmpR (k_eqD K rfl hr.units) (pe_lst (pa_cons (pe_call (G_possible_widths T) (hr.mono (by decide)) (by rfl) T.g_possible_widths T.F_possible_widths.kp T.b_possible_widths .nil pass0 (pa_cons pe_int (pa_cons pe_int pa_nil))) (pa_cons (pe_call (G_width_row T) (hr.mono (by decide)) (by rfl) T.g_width_row T.F_width_row.kp T.b_width_row .nil pass0 (pa_cons pe_int (pa_cons pe_int (pa_cons pe_int pa_nil)))) (pa_cons (pe_call (G_price_bounds T) (hr.mono (by decide)) (by rfl) T.g_price_bounds T.F_price_bounds.kp T.b_price_bounds .nil pass0 (pa_cons pe_int (pa_cons pe_int (pa_cons pe_int pa_nil)))) pa_nil)))) (pe_lst (pa_cons (pe_tup (pa_cons pe_int (pa_cons pe_int pa_nil))) (pa_cons pe_non (pa_cons (pe_tup (pa_cons pe_int (pa_cons pe_int pa_nil))) pa_nil)))) (nomark _)))))))))))))))), ?_⟩
  refine ⟨_, rfl, a, ns, 0, rfl, hS, fun H1 g s1 ng g1 => ?_⟩
  refine ⟨_, rfl, g, 4, _, rfl, g1, by omega, by decide, by decide, fun r1 H2 r10 r11 g2 b2 => ⟨_, _, rfl, rfl, ?_⟩⟩
  obtain ⟨j, hj, j3⟩ : ∃ j : Nat, 1 + r1 = ((j + 1 : Nat) : Int) ∧ j ≤ 3 := ⟨r1.toNat, by omega, by omega⟩
  walk_at "b"
  rw [hj]
  refine ⟨_, rfl, _, rfl, _, rfl, _, _, rfl, rfl, .inl ⟨by omega, by omega⟩, _, _, rfl, rfl, g, _, _, rfl, g2, by omega, by omega, small_2900 (by omega), fun r2 H3 r20 r21 g3 b3 => ?_⟩
  obtain ⟨t, rfl⟩ : ∃ t : Nat, r2 = (t : Int) := ⟨r2.toNat, by omega⟩
  have ht : t < 11 - 2 * j := by omega
  refine ⟨j, t, rfl, j3, by omega, by omega, cont_ok ⟨j, by omega⟩ ⟨t, by omega⟩ (.inl ht), fun H4 s4 => ⟨_, rfl, iteF ?_⟩⟩
  refine ⟨_, rfl, g, 40, _, rfl, g3.same s4, by omega, by decide, by decide, fun r5 H5 r50 r51 g5 b5 => ?_⟩
  obtain ⟨t2, rfl⟩ : ∃ t : Nat, r5 = (t : Int) := ⟨r5.toNat, by omega⟩
  refine ⟨0, t2, rfl, by decide, .inr rfl, by omega, cont_ok ⟨0, by omega⟩ ⟨t2, by omega⟩ (.inr rfl), fun H6 s6 => ⟨_, rfl, iteF ?_⟩⟩
  -- great ones
  refine ⟨_, rfl, (show 3 ≤ sizeLine by decide), fun q1 nq1 => ?_⟩
  have g6 := g5.same s6
  have qg : q1 ≠ g := g6.ne nq1
  obtain ⟨H7, e7, s7, h7⟩ := fresh (.lst [V.int 3, V.int 12, V.int 40]) nq1
  rw [e7]
  refine ⟨_, rfl, g, 3, _, rfl, g6.same s7, by omega, by decide, by decide, fun r8 H8 r80 r81 g8 b8 => ?_⟩
  obtain ⟨bd, hbd, bd1, bd2⟩ : ∃ bd : Int, atI [V.int 3, V.int 12, V.int 40] r8 = some (.int bd) ∧ 1 ≤ bd ∧ bd ≤ 40 := by
    have c : r8 = 0 ∨ r8 = 1 ∨ r8 = 2 := by omega
    rcases c with rfl | rfl | rfl
    · exact ⟨3, rfl, by decide, by decide⟩
    · exact ⟨12, rfl, by decide, by decide⟩
    · exact ⟨40, rfl, by decide, by decide⟩
  refine ⟨q1, _, _, .int bd, rfl, rfl, .inl (.inl (b8 _ _ qg h7)), hbd, g, bd, _, rfl, g8, by omega, by omega, small_2900 (by omega), fun r9 H9 r90 r91 g9 b9 => ⟨_, _, rfl, rfl, ?_⟩⟩
  obtain ⟨m, hm, m1, m2⟩ : ∃ m : Nat, 1 + r9 = (m : Int) ∧ 1 ≤ m ∧ m ≤ 40 := ⟨(1 + r9).toNat, by omega, by omega, by omega⟩
  walk_at "b"
  rw [hm]
  refine ⟨_, rfl, g, 95, _, rfl, g9, by omega, by decide, by decide, fun dp' H10 d0 d1 g10 b10 => ?_⟩
  obtain ⟨dp, rfl⟩ : ∃ d : Nat, dp' = (d : Int) := ⟨dp'.toNat, by omega⟩
  refine ⟨_, _, rfl, ?_⟩
  have hpd := p2 dp
  have hpd2 := p2_le (show dp ≤ 94 by omega)
  refine ⟨_, rfl, _, rfl, _, rfl, _, rfl, _, _, rfl, rfl, ⟨by omega, by omega, by decide⟩, ?_⟩
  walk_at "b"
  rw [leftShl]
  refine ⟨g, 2 ^ dp, _, rfl, g10, by omega, hpd, small_101 (by omega), fun T1 H11 t0 t1 g11 b11 => ?_⟩
  refine ⟨g, m, _, T1, rfl, g11, by omega, m1, by omega, t0, by omega, fun H12 b12 g12 => ⟨_, rfl, iteF ?_⟩⟩
  -- the bounds of great ones
  have p12 : (10 : Int) ^ ((12 : Int)).toNat = 1000000000000 := by decide
  have p25 : (10 : Int) ^ ((25 : Int)).toNat = 10000000000000000000000000 := by decide
  refine ⟨_, rfl, _, _, rfl, rfl, ⟨by decide, by decide +kernel⟩, ?_⟩
  walk_at "b"
  rw [p12]
  refine ⟨g, _, _, rfl, g12, by omega, by decide, by decide +kernel, fun r13 H13 r130 r131 g13 b13 => ⟨_, _, rfl, rfl, ?_⟩⟩
  obtain ⟨m', hm', m1', m2'⟩ : ∃ m : Int, 1 + r13 = m ∧ 1 ≤ m ∧ m ≤ 10 ^ 12 := ⟨_, rfl, by omega, by omega⟩
  walk_at "b"
  rw [hm']
  refine ⟨_, rfl, g, 40, _, rfl, g13, by omega, by decide, by decide, fun w' H14 w0 w1 g14 b14 => ?_⟩
  obtain ⟨wd, rfl⟩ : ∃ d : Nat, w' = (d : Int) := ⟨w'.toNat, by omega⟩
  refine ⟨_, _, rfl, ?_⟩
  refine ⟨_, rfl, _, _, rfl, rfl, ⟨by decide, by decide +kernel⟩, ?_⟩
  walk_at "b"
  rw [p25]
  refine ⟨g, _, _, rfl, g14, by omega, by decide, by decide +kernel, fun t' H15 t0' t1' g15 b15 => ?_⟩
  have hpw := p2 wd
  have hpw2 := p2_le (show wd ≤ 40 by omega)
  refine ⟨_, rfl, _, rfl, _, rfl, _, _, rfl, rfl, ⟨by omega, by omega, by decide⟩, _, _, rfl, rfl, _, _, rfl, rfl, .inl ⟨by omega, by omega⟩, _, _, rfl, rfl, ?_⟩
  walk_at "b"
  rw [leftShl]
  have hdue := rup_due (x := t' - m' * (2 ^ wd - 1)) hpw
  refine ⟨_, rfl, _, _, rfl, rfl, _, rfl, ?_⟩
  by_cases c : t' - m' * (2 ^ wd - 1) ≤ 0
  · refine iteDT c ?_
    rw [if_pos c] at hdue
    refine restate [some (.ref a), some (.ref g), some (.int m'), some (.int t'), some (.int (t' - m' * (2 ^ wd - 1))), some (.int (rup (t' - m' * (2 ^ wd - 1)) (2 ^ wd))), none, some (.int dp), some (.int wd)] (by rw [← hdue]; rfl) ?_
    refine ⟨_, rfl, _, rfl, _, _, rfl, rfl, _, _, rfl, rfl, .inl ⟨by omega, by omega⟩, _, rfl, _, _, rfl, rfl, _, rfl, _, rfl, _, _, rfl, rfl, _, _, rfl, rfl, .inl ⟨by omega, by omega⟩, _, rfl, _, rfl, _, _, rfl, rfl, ⟨by omega, by omega, by decide⟩, _, _, rfl, rfl, ?_, _, _, rfl, rfl, (show 2 ≤ sizeLine by decide), fun p16 n16 => ?_⟩
    · rw [leftShl]
      exact wide_div (b := 50) hpw (by omega) (by decide) (by decide)
    walk_at "b"
    rw [leftShl]
    obtain ⟨H16, e16, s16, h16⟩ := fresh (.tup [V.int (m' * ((wd : Int) + 1) + rup (t' - m' * (2 ^ wd - 1)) (2 ^ wd)), V.int (m' * ((wd : Int) + 1) + t' / 2 ^ wd)]) n16
    rw [e16]
    refine ⟨_, rfl, _, rfl, _, rfl, m', t', wd, rfl, by omega, by omega, t0', by omega, fun H17 p17 s17 n17 h17 => ?_⟩
    refine ⟨_, rfl, ?_⟩
    refine ne_tup (ns := [m' * ((wd : Int) + 1) + rup (t' - m' * (2 ^ wd - 1)) (2 ^ wd), m' * ((wd : Int) + 1) + t' / 2 ^ wd]) (.inl (.inl h17)) (.inl (.inl (s17 _ _ h16))) ⟨_, rfl, iteF ?_⟩
    refine ⟨2, 4, rfl, by decide, by decide, by decide, by decide, fun F L H18 p18 s18 n18 h18 _ hP => ?_⟩
    obtain ⟨rfl, rfl⟩ := poss_uniq (by decide) (by decide) poss_2_4 hP
    refine ⟨2, 4, 2, rfl, by decide, by decide, by decide, by decide, fun H19 v19 s19 hv => ?_⟩
    have ev : v19 = .non := by
      rcases hv with ⟨_, z⟩ | ⟨z, _⟩
      · exact z
      · exact absurd z.1 (by decide)
    subst ev
    refine ⟨2, 4, 1, rfl, by decide, by decide, by decide, by decide, fun H20 p20 s20 n20 h20 => ?_⟩
    refine ⟨(show 3 ≤ sizeLine by decide), fun p21 n21 => ?_⟩
    obtain ⟨H21, e21, s21, h21⟩ := fresh (.lst [V.ref p18, V.non, V.ref p20]) n21
    rw [e21]
    refine ⟨(show 2 ≤ sizeLine by decide), fun p22 n22 => ?_⟩
    obtain ⟨H22, e22, s22, h22⟩ := fresh (.tup [V.int 0, V.int 1]) n22
    rw [e22]
    refine ⟨(show 2 ≤ sizeLine by decide), fun p23 n23 => ?_⟩
    obtain ⟨H23, e23, s23, h23⟩ := fresh (.tup [V.int 5, V.int 6]) n23
    rw [e23]
    refine ⟨(show 3 ≤ sizeLine by decide), fun p24 n24 => ?_⟩
    obtain ⟨H24, e24, s24, h24⟩ := fresh (.lst [V.ref p22, V.non, V.ref p23]) n24
    rw [e24]
    have s2124 := s22.trans (s23.trans s24)
    have k18 : H24 p18 = some (.tup [V.int 0, V.int 1]) := s2124 _ _ (s21 _ _ (s20 _ _ (s19 _ _ h18)))
    have k20 : H24 p20 = some (.tup [V.int 5, V.int 6]) := s2124 _ _ (s21 _ _ h20)
    refine ⟨.list [.tuple [.int 0, .int 1], .none, .tuple [.int 5, .int 6]], .list [.tuple [.int 0, .int 1], .none, .tuple [.int 5, .int 6]], .lst (.inl (.inl (s2124 _ _ h21))) (.cons (.tup (.inl (.inl k18)) (.cons (.int _) (.cons (.int _) .nil))) (.cons .non (.cons (.tup (.inl (.inl k20)) (.cons (.int _) (.cons (.int _) .nil))) .nil))), .lst (.inl (.inl h24)) (.cons (.tup (.inl (.inl (s24 _ _ (s23 _ _ h22)))) (.cons (.int _) (.cons (.int _) .nil))) (.cons .non (.cons (.tup (.inl (.inl (s24 _ _ h23))) (.cons (.int _) (.cons (.int _) .nil))) .nil))), by decide +kernel, by decide +kernel, ?_⟩
    rw [SeqAt.eqv_refl _ (by decide +kernel)]
    exact q _
  · refine iteDF c ?_
    rw [if_neg c] at hdue
    refine ⟨_, rfl, _, rfl, _, _, rfl, rfl, ⟨by omega, by omega, by decide⟩, _, _, rfl, rfl, _, _, rfl, rfl, _, rfl, _, _, rfl, rfl, ⟨by omega, by omega, by decide⟩, _, _, rfl, rfl, ?_, ?_⟩
    · rw [leftShl]
      exact wide_div (b := 50) hpw (by omega) (by decide) (by decide)
    walk_at "b"
    rw [leftShl, hdue]
    refine ⟨_, rfl, _, rfl, _, _, rfl, rfl, _, _, rfl, rfl, .inl ⟨by omega, by omega⟩, _, rfl, _, _, rfl, rfl, _, rfl, _, rfl, _, _, rfl, rfl, _, _, rfl, rfl, .inl ⟨by omega, by omega⟩, _, rfl, _, rfl, _, _, rfl, rfl, ⟨by omega, by omega, by decide⟩, _, _, rfl, rfl, ?_, _, _, rfl, rfl, (show 2 ≤ sizeLine by decide), fun p16 n16 => ?_⟩
    · rw [leftShl]
      exact wide_div (b := 50) hpw (by omega) (by decide) (by decide)
    walk_at "b"
    rw [leftShl]
    obtain ⟨H16, e16, s16, h16⟩ := fresh (.tup [V.int (m' * ((wd : Int) + 1) + rup (t' - m' * (2 ^ wd - 1)) (2 ^ wd)), V.int (m' * ((wd : Int) + 1) + t' / 2 ^ wd)]) n16
    rw [e16]
    refine ⟨_, rfl, _, rfl, _, rfl, m', t', wd, rfl, by omega, by omega, t0', by omega, fun H17 p17 s17 n17 h17 => ?_⟩
    refine ⟨_, rfl, ?_⟩
    refine ne_tup (ns := [m' * ((wd : Int) + 1) + rup (t' - m' * (2 ^ wd - 1)) (2 ^ wd), m' * ((wd : Int) + 1) + t' / 2 ^ wd]) (.inl (.inl h17)) (.inl (.inl (s17 _ _ h16))) ⟨_, rfl, iteF ?_⟩
    refine ⟨2, 4, rfl, by decide, by decide, by decide, by decide, fun F L H18 p18 s18 n18 h18 _ hP => ?_⟩
    obtain ⟨rfl, rfl⟩ := poss_uniq (by decide) (by decide) poss_2_4 hP
    refine ⟨2, 4, 2, rfl, by decide, by decide, by decide, by decide, fun H19 v19 s19 hv => ?_⟩
    have ev : v19 = .non := by
      rcases hv with ⟨_, z⟩ | ⟨z, _⟩
      · exact z
      · exact absurd z.1 (by decide)
    subst ev
    refine ⟨2, 4, 1, rfl, by decide, by decide, by decide, by decide, fun H20 p20 s20 n20 h20 => ?_⟩
    refine ⟨(show 3 ≤ sizeLine by decide), fun p21 n21 => ?_⟩
    obtain ⟨H21, e21, s21, h21⟩ := fresh (.lst [V.ref p18, V.non, V.ref p20]) n21
    rw [e21]
    refine ⟨(show 2 ≤ sizeLine by decide), fun p22 n22 => ?_⟩
    obtain ⟨H22, e22, s22, h22⟩ := fresh (.tup [V.int 0, V.int 1]) n22
    rw [e22]
    refine ⟨(show 2 ≤ sizeLine by decide), fun p23 n23 => ?_⟩
    obtain ⟨H23, e23, s23, h23⟩ := fresh (.tup [V.int 5, V.int 6]) n23
    rw [e23]
    refine ⟨(show 3 ≤ sizeLine by decide), fun p24 n24 => ?_⟩
    obtain ⟨H24, e24, s24, h24⟩ := fresh (.lst [V.ref p22, V.non, V.ref p23]) n24
    rw [e24]
    have s2124 := s22.trans (s23.trans s24)
    have k18 : H24 p18 = some (.tup [V.int 0, V.int 1]) := s2124 _ _ (s21 _ _ (s20 _ _ (s19 _ _ h18)))
    have k20 : H24 p20 = some (.tup [V.int 5, V.int 6]) := s2124 _ _ (s21 _ _ h20)
    refine ⟨.list [.tuple [.int 0, .int 1], .none, .tuple [.int 5, .int 6]], .list [.tuple [.int 0, .int 1], .none, .tuple [.int 5, .int 6]], .lst (.inl (.inl (s2124 _ _ h21))) (.cons (.tup (.inl (.inl k18)) (.cons (.int _) (.cons (.int _) .nil))) (.cons .non (.cons (.tup (.inl (.inl k20)) (.cons (.int _) (.cons (.int _) .nil))) .nil))), .lst (.inl (.inl h24)) (.cons (.tup (.inl (.inl (s24 _ _ (s23 _ _ h22)))) (.cons (.int _) (.cons (.int _) .nil))) (.cons .non (.cons (.tup (.inl (.inl (s24 _ _ h23))) (.cons (.int _) (.cons (.int _) .nil))) .nil))), by decide +kernel, by decide +kernel, ?_⟩
    rw [SeqAt.eqv_refl _ (by decide +kernel)]
    exact q _
end
end My

open PySem PySem.W PySem.Calls PyProof.Rows
set_option maxRecDepth 100000 in
set_option maxHeartbeats 0 in
theorem PySem.Challenge.cw_wholesound_k42_widths_by_number_and_sum_holds : PySem.Challenge.rw_wholesound_k42_widths_by_number_and_sum.Holds := by
  w_on; o_law
  refine HandSHeadRun.head_any (r := OpenLaw.row PySem.Challenge.rw_wholesound_k42_widths_by_number_and_sum) (q := view (OpenLaw.row PySem.Challenge.rw_wholesound_k42_widths_by_number_and_sum).prog [32]) (H := My.hk) (ob := My.ob) (M := 8000) (loose := My.loose) (d := HandSHeadRun.topDef (OpenLaw.row PySem.Challenge.rw_wholesound_k42_widths_by_number_and_sum).prog 32) (kwd := []) My.ob_eq
    (by kernel_rfl) (fun s => by kernel_rfl) My.run (by kernel_rfl) (by kernel_rfl) (by kernel_rfl) (by rfl) (by first | assumption | decide +kernel) (by decide +kernel) ⟨rfl, rfl, rfl, rfl, rfl, by decide +kernel⟩ ?hw ?hc
  case hw => w_witness2
  case hc =>
    refine L2.walk_ofE (l := PySem.Challenge.rw_wholesound_k42_widths_by_number_and_sum) (n := 63) (k := 7) (x := "_law_script") (CX := L2.CX0) rfl (by decide) (by kernel_rfl) ⟨rfl, by decide, by decide⟩ ?F (fun _ _ _ _ z => z)
    intro w mg fa h Y G hmg0
    obtain ⟨K, KX, c⟩ := Y
    have hmg : mg ("law" : PySem.Str) = some (.ref fa) := by
      have e : (HandSHeadRun.topDef (OpenLaw.row PySem.Challenge.rw_wholesound_k42_widths_by_number_and_sum).prog 32).name = ("law" : PySem.Str) := by kernel_rfl
      rw [← e]
      exact hmg0
    have T : My.Top K mg := My.top_mk KX G c
    have e := hmg.symm.trans T.g_law
    cases e
    have b := L2.FunD.bindsA (ps := ["_law_script"]) T.F_law fun _ _ _ _ _ _ us hl => match us, hl with | [_], _ => rfl
    exact ⟨K, T.fd_law, My.sp_law K, KX, fun s v => b s [v] rfl, fun H a ns hl _ hS => ⟨a, ns, rfl, hS, hl, fun _ => rfl⟩, fun base _ _ => My.G_law T⟩


