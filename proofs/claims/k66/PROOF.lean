import PyProof.Rows.All
import Wide.All
import OpenK.AllK
import Wide.FinOn
import KE.KStateDown
import Lean
import HandS.ForMost
import HandS.Exc
import HandS.Flow
import HandS.DictComp
import HandS.Style
import HandS.Wide
import HandS.WideBits
import HandS.IsInst
import HandS.Codes
import HandS.Walk
import HandS.Words
import HandS.WordsExc
import HandS.Defaults
import HandS.Head0
import HandS.Head1
import HandS.Head2
import HandS.HeadEnd
import HandS.HeadHook1
import HandS.HeadHook2
import HandS.SortInts
import PyProof.Rows.SortShellAny
import PyProof.InstNe
import KE.DataMinMax
import KE.SortData
import KE.IntBitsLaws
import KE.BitLaws
import HandS.Deep
import HandS.SetKeys
import PyProof.Rows.StrMul
import HandS.TupLe
import HandS.Property
import HandS.Conv
import HandS.NoneIn
import HandS.SetFor
import HandS.Strs
import HandS.Sort
import PySem.Challenge.RW_wholesound_k66_whole_counts_of_the_unsee
set_option Elab.async false
set_option linter.all false
set_option maxRecDepth 100000
set_option maxHeartbeats 4000000
set_option exponentiation.threshold 100000
namespace Pre
open PySem PySem.Spec PyProof.Rows L2
/-! ### heaps -/
theorem same_upd {H : Hp} {p : Addr} {o : HO} (h : H p = none) : Same H (upd H p o) := fun b x e => by
  rw [upd_ne (ne_of_none e h)]
  exact e
/-- a fresh thing that is then changed is no change of what was -/
theorem same_over {H H' : Hp} {p : Addr} {o : HO} (n : H p = none) (s : Same H H') : Same H (upd H' p o) := fun b x e => by
  rw [upd_ne (ne_of_none e n)]
  exact s b x e
theorem Same.tup {K : PySem.W.Frag} {H H' : Hp} {a : Addr} {xs : List V} (e : Same H H') (h : SqT K H a xs) : SqT K H' a xs := by
  rcases h with (h | ⟨o, h⟩) | h
  · exact .inl (.inl (e _ _ h))
  · exact .inl (.inr ⟨o, e _ _ h⟩)
  · exact .inr h
mutual
theorem dp_same {K : PySem.W.Frag} {H H' : Hp} (s : Same H H') : ∀ (d : PyData) (v : V), Dp K H v d → Dp K H' v d
  | .none, _, h => by cases h; exact .non
  | .bool _, _, h => by cases h; exact .bl _
  | .int _, _, h => by cases h; exact .int _
  | .str _, _, h => by cases h; exact .str _
  | .list ds, _, h => by cases h with | lst a b => exact .lst (s.seq a) (dps_same s ds _ b)
  | .tuple ds, _, h => by cases h with | tup a b => exact .tup (Same.tup s a) (dps_same s ds _ b)
  | .dict _, _, h => nomatch h
theorem dps_same {K : PySem.W.Frag} {H H' : Hp} (s : Same H H') : ∀ (ds : List PyData) (vs : List V), DpAll K H vs ds → DpAll K H' vs ds
  | [], _, h => by cases h; exact .nil
  | d :: ds, _, h => by cases h with | cons a b => exact .cons (dp_same s d _ a) (dps_same s ds _ b)
end
theorem dp_ints {K : PySem.W.Frag} {H : Hp} : ∀ ns : List Int, DpAll K H (ns.map V.int) (ns.map PyData.int)
  | [] => .nil
  | n :: r => .cons (.int n) (dp_ints r)
theorem eqv_ints : ∀ ns ms : List Int, PyData.eqvAll (ns.map PyData.int) (ms.map PyData.int) = decide (ns = ms)
  | [], [] => rfl
  | [], _ :: _ => rfl
  | _ :: _, [] => rfl
  | n :: r, m :: q => by
    show (PyData.eqv (.int n) (.int m) && PyData.eqvAll (r.map PyData.int) (q.map PyData.int)) = decide (n :: r = m :: q)
    rw [eqv_ints r q]
    show ((n == m) && decide (r = q)) = decide (n :: r = m :: q)
    by_cases h : n = m
    · subst h; simp
    · simp [h]
theorem lay_ints : ∀ ns : List Int, PyData.canLayAll0 (ns.map PyData.int) = true
  | [] => rfl
  | n :: r => by
    show (PyData.canLay0 (.int n) && PyData.canLayAll0 (r.map PyData.int)) = true
    rw [lay_ints r]
    rfl
theorem depth_ints : ∀ ns : List Int, PyData.depthAll (ns.map PyData.int) = 0
  | [] => by simp [PyData.depthAll]
  | n :: r => by
    show PyData.depthAll (.int n :: r.map PyData.int) = 0
    rw [PyData.depthAll, depth_ints r]
    simp [PyData.depth]
theorem shaped_ints (ns : List Int) : SeqAt.shaped (.list (ns.map PyData.int)) = true := by
  unfold SeqAt.shaped
  rw [PyData.canLay0, lay_ints, PyData.depth, depth_ints]
  rfl
theorem shaped_tup (ns : List Int) : SeqAt.shaped (.tuple (ns.map PyData.int)) = true := by
  unfold SeqAt.shaped
  rw [PyData.canLay0, lay_ints, PyData.depth, depth_ints]
  rfl
/-! ### comparisons of lists and tuples of whole numbers that are told alike -/
theorem ne_tup {K : PySem.W.Frag} {H : Hp} {a b : Addr} {ns : List Int} {Q : V → Hp → Prop} (ha : SqT K H a (ns.map V.int)) (hb : SqT K H b (ns.map V.int)) (q : Q (.bl false) H) : rNeD K (.ref a) (.ref b) H Q := by
  refine ⟨.tuple (ns.map PyData.int), .tuple (ns.map PyData.int), .tup ha (dp_ints ns), .tup hb (dp_ints ns), shaped_tup ns, shaped_tup ns, ?_⟩
  rw [PyData.eqv, eqv_ints, decide_eq_true rfl]
  exact q
theorem eq_tup {K : PySem.W.Frag} {H : Hp} {a b : Addr} {ns : List Int} {Q : V → Hp → Prop} (ha : SqT K H a (ns.map V.int)) (hb : SqT K H b (ns.map V.int)) (q : Q (.bl true) H) : rEqD K (.ref a) (.ref b) H Q := by
  refine ⟨.tuple (ns.map PyData.int), .tuple (ns.map PyData.int), .tup ha (dp_ints ns), .tup hb (dp_ints ns), shaped_tup ns, shaped_tup ns, ?_⟩
  rw [PyData.eqv, eqv_ints, decide_eq_true rfl]
  exact q
/-- lists of whole numbers, compared -/
theorem eqD_lst {K : PySem.W.Frag} {H : Hp} {a b : Addr} {ns ms : List Int} {Q : V → Hp → Prop} (ha : SqL K H a (ns.map V.int)) (hb : SqL K H b (ms.map V.int)) (q : Q (.bl (decide (ns = ms))) H) : rEqD K (.ref a) (.ref b) H Q := by
  refine ⟨.list (ns.map PyData.int), .list (ms.map PyData.int), .lst ha (dp_ints ns), .lst hb (dp_ints ms), shaped_ints ns, shaped_ints ms, ?_⟩
  rw [PyData.eqv, eqv_ints]
  exact q
theorem neD_lst {K : PySem.W.Frag} {H : Hp} {a b : Addr} {ns ms : List Int} {Q : V → Hp → Prop} (ha : SqL K H a (ns.map V.int)) (hb : SqL K H b (ms.map V.int)) (q : Q (.bl (!decide (ns = ms))) H) : rNeD K (.ref a) (.ref b) H Q := by
  refine ⟨.list (ns.map PyData.int), .list (ms.map PyData.int), .lst ha (dp_ints ns), .lst hb (dp_ints ms), shaped_ints ns, shaped_ints ms, ?_⟩
  rw [PyData.eqv, eqv_ints]
  exact q
theorem ne_lst {K : PySem.W.Frag} {H : Hp} {a b : Addr} {ns : List Int} {Q : V → Hp → Prop} (ha : SqL K H a (ns.map V.int)) (hb : SqL K H b (ns.map V.int)) (q : Q (.bl false) H) : rNeD K (.ref a) (.ref b) H Q :=
  neD_lst ha hb (by rw [decide_eq_true rfl]; exact q)
theorem eq_lst {K : PySem.W.Frag} {H : Hp} {a b : Addr} {ns : List Int} {Q : V → Hp → Prop} (ha : SqL K H a (ns.map V.int)) (hb : SqL K H b (ns.map V.int)) (q : Q (.bl true) H) : rEqD K (.ref a) (.ref b) H Q :=
  eqD_lst ha hb (by rw [decide_eq_true rfl]; exact q)
/-! ### powers -/
def CPowW (i j : Int) : Prop := 0 ≤ j ∧ (Builtin.Int.intBits i : Int) * j ≤ 2 ^ 27
theorem op_powW {X : Cx} : OpR X (binaryOp .Pow) (rI CPowW fun i j => .int (i ^ j.toNat)) := opI fun _ _ _ _ _ _ _ hc q => pow_int hc.1 hc.2 q
/-! ### comprehensions whose parts leave what is tracked as it is: sel tells of each item what comes of it -/
theorem take_fm {α : Type} {l : List (Option α)} {i : Nat} {o : Option α} (h : l[i]? = some o) : (l.take (i + 1)).filterMap id = (l.take i).filterMap id ++ o.toList := by
  rw [List.take_add_one, h, List.filterMap_append]
  cases o <;> rfl
theorem fm_len {α : Type} (l : List (Option α)) (i : Nat) : ((l.take i).filterMap id).length ≤ l.length :=
  Nat.le_trans (List.length_filterMap_le _ _) (by rw [List.length_take]; omega)
theorem lc_selL {K : PySem.W.Frag} {a : Addr} {xs : List V} {j : Nat} {tt : TT} {te : TE} {vs : List Nat} {σ : L2.St} {H1 : Hp} {D : Addr} {Qd : Hp → Prop} (sel : List (Option V)) (nD : H1 D = none) (hS : SqL K H1 a xs) (hlen : sel.length = xs.length) (hz : xs.length < sizeLine)
    (hw : ∀ x, wipe ((wipe σ vs).set j (some x)) vs = wipe σ vs)
    (hs : ∀ (i : Nat) (x : V) (o : Option V) (H' : Hp), xs[i]? = some x → sel[i]? = some o → Same H1 H' → ∀ Qt : Option V → Hp → Prop, (∀ H'', Same H' H'' → Qt o H'') →
      tt ((wipe σ vs).set j (some x)) H' fun b H3 => if b = true then te ((wipe σ vs).set j (some x)) H3 fun y H4 => Qt (some y) H4 else Qt none H3)
    (hd : ∀ H', Same H1 H' → H' D = some (.lst (sel.filterMap id)) → Qd H') :
    ∃ W : Nat → Nat → Hp → Prop, (∃ m, W 0 m (upd H1 D (.lst []))) ∧ ∀ i m H, W i m H →
      ((Itl K a).stop i H ∧ Qd H) ∨ ((Itl K a).go i H ∧ ∃ Nx : Hp → Prop, (∀ H', Nx H' → ∃ m', m' < m ∧ W (i + 1) m' H') ∧ ∀ x H', (Itl K a).yld i H x H' → gName j x (wipe σ vs) H' fun σ2 H2 => wipe σ2 vs = wipe σ vs ∧ tt σ2 H2 fun b H3 =>
        if b = true then te σ2 H3 fun y H4 => ∃ acc, H4 D = some (.lst acc) ∧ acc.length < sizeLine ∧ Nx (upd H4 D (.lst (acc ++ [y]))) else Nx H3) := by
  refine lc_list (K := K) (a := a) (xs := xs) (fun i H => Same H1 H ∧ H D = some (.lst ((sel.take i).filterMap id))) ⟨same_upd nD, upd_same⟩ (fun i H _ p => p.1.seq hS) ?_ ?_
  · rintro i x H hx ⟨s, hD⟩
    refine ⟨hw x, ?_⟩
    have hi : i < sel.length := by rw [hlen]; exact (List.getElem?_eq_some_iff.mp hx).1
    have ho : sel[i]? = some sel[i] := List.getElem?_eq_getElem hi
    have hl : ((sel.take i).filterMap id).length < sizeLine := Nat.lt_of_le_of_lt (fm_len sel i) (by omega)
    refine hs i x sel[i] H hx ho s (fun o H4 => match o with
      | some y => ∃ acc, H4 D = some (.lst acc) ∧ acc.length < sizeLine ∧ (Same H1 (upd H4 D (.lst (acc ++ [y]))) ∧ (upd H4 D (.lst (acc ++ [y]))) D = some (.lst ((sel.take (i + 1)).filterMap id)))
      | none => Same H1 H4 ∧ H4 D = some (.lst ((sel.take (i + 1)).filterMap id))) fun H4 s4 => ?_
    generalize sel[i] = o at ho ⊢
    cases o with
    | some y =>
      refine ⟨_, s4 _ _ hD, hl, same_over nD (s.trans s4), ?_⟩
      rw [upd_same, take_fm ho]
      rfl
    | none =>
      refine ⟨s.trans s4, ?_⟩
      rw [take_fm ho, s4 _ _ hD]
      simp
  · rintro H ⟨s, hD⟩
    refine hd H s ?_
    rw [hD, ← hlen, List.take_length]
theorem lc_selR {lo : Int} {n : Nat} {j : Nat} {tt : TT} {te : TE} {vs : List Nat} {σ : L2.St} {H1 : Hp} {D : Addr} {Qd : Hp → Prop} (sel : List (Option V)) (nD : H1 D = none) (hlen : sel.length = n) (hz : n < sizeLine)
    (hw : ∀ x, wipe ((wipe σ vs).set j (some x)) vs = wipe σ vs)
    (hs : ∀ (i : Nat) (o : Option V) (H' : Hp), i < n → sel[i]? = some o → Same H1 H' → ∀ Qt : Option V → Hp → Prop, (∀ H'', Same H' H'' → Qt o H'') →
      tt ((wipe σ vs).set j (some (.int (lo + (i : Int))))) H' fun b H3 => if b = true then te ((wipe σ vs).set j (some (.int (lo + (i : Int))))) H3 fun y H4 => Qt (some y) H4 else Qt none H3)
    (hd : ∀ H', Same H1 H' → H' D = some (.lst (sel.filterMap id)) → Qd H') :
    ∃ W : Nat → Nat → Hp → Prop, (∃ m, W 0 m (upd H1 D (.lst []))) ∧ ∀ i m H, W i m H →
      ((Itr lo n).stop i H ∧ Qd H) ∨ ((Itr lo n).go i H ∧ ∃ Nx : Hp → Prop, (∀ H', Nx H' → ∃ m', m' < m ∧ W (i + 1) m' H') ∧ ∀ x H', (Itr lo n).yld i H x H' → gName j x (wipe σ vs) H' fun σ2 H2 => wipe σ2 vs = wipe σ vs ∧ tt σ2 H2 fun b H3 =>
        if b = true then te σ2 H3 fun y H4 => ∃ acc, H4 D = some (.lst acc) ∧ acc.length < sizeLine ∧ Nx (upd H4 D (.lst (acc ++ [y]))) else Nx H3) := by
  refine lc_range (lo := lo) (n := n) (fun i H => Same H1 H ∧ H D = some (.lst ((sel.take i).filterMap id))) ⟨same_upd nD, upd_same⟩ ?_ ?_
  · rintro i H hi' ⟨s, hD⟩
    refine ⟨hw _, ?_⟩
    have hi : i < sel.length := by rw [hlen]; exact hi'
    have ho : sel[i]? = some sel[i] := List.getElem?_eq_getElem hi
    have hl : ((sel.take i).filterMap id).length < sizeLine := Nat.lt_of_le_of_lt (fm_len sel i) (by omega)
    refine hs i sel[i] H hi' ho s (fun o H4 => match o with
      | some y => ∃ acc, H4 D = some (.lst acc) ∧ acc.length < sizeLine ∧ (Same H1 (upd H4 D (.lst (acc ++ [y]))) ∧ (upd H4 D (.lst (acc ++ [y]))) D = some (.lst ((sel.take (i + 1)).filterMap id)))
      | none => Same H1 H4 ∧ H4 D = some (.lst ((sel.take (i + 1)).filterMap id))) fun H4 s4 => ?_
    generalize sel[i] = o at ho ⊢
    cases o with
    | some y =>
      refine ⟨_, s4 _ _ hD, hl, same_over nD (s.trans s4), ?_⟩
      rw [upd_same, take_fm ho]
      rfl
    | none =>
      refine ⟨s.trans s4, ?_⟩
      rw [take_fm ho, s4 _ _ hD]
      simp
  · rintro H ⟨s, hD⟩
    refine hd H s ?_
    rw [hD, ← hlen, List.take_length]
theorem fm_some {α : Type} (ys : List α) : (ys.map some).filterMap id = ys := by
  rw [List.filterMap_map]
  show List.filterMap (fun y => some y) ys = ys
  exact List.filterMap_some
/-- no test: ys tells what comes of each item -/
theorem lc_mapL {K : PySem.W.Frag} {a : Addr} {xs : List V} {j : Nat} {te : TE} {vs : List Nat} {σ : L2.St} {H1 : Hp} {D : Addr} {Qd : Hp → Prop} (ys : List V) (nD : H1 D = none) (hS : SqL K H1 a xs) (hlen : ys.length = xs.length) (hz : xs.length < sizeLine)
    (hw : ∀ x, wipe ((wipe σ vs).set j (some x)) vs = wipe σ vs)
    (hs : ∀ (i : Nat) (x y : V) (H' : Hp), xs[i]? = some x → ys[i]? = some y → Same H1 H' → ∀ Qt : V → Hp → Prop, (∀ H'', Same H' H'' → Qt y H'') → te ((wipe σ vs).set j (some x)) H' Qt)
    (hd : ∀ H', Same H1 H' → H' D = some (.lst ys) → Qd H') :
    ∃ W : Nat → Nat → Hp → Prop, (∃ m, W 0 m (upd H1 D (.lst []))) ∧ ∀ i m H, W i m H →
      ((Itl K a).stop i H ∧ Qd H) ∨ ((Itl K a).go i H ∧ ∃ Nx : Hp → Prop, (∀ H', Nx H' → ∃ m', m' < m ∧ W (i + 1) m' H') ∧ ∀ x H', (Itl K a).yld i H x H' → gName j x (wipe σ vs) H' fun σ2 H2 => wipe σ2 vs = wipe σ vs ∧ tYes σ2 H2 fun b H3 =>
        if b = true then te σ2 H3 fun y H4 => ∃ acc, H4 D = some (.lst acc) ∧ acc.length < sizeLine ∧ Nx (upd H4 D (.lst (acc ++ [y]))) else Nx H3) := by
  refine lc_selL (K := K) (a := a) (xs := xs) (tt := tYes) (ys.map some) nD hS (by rw [List.length_map]; exact hlen) hz hw ?_ ?_
  · intro i x o H' hx ho s Qt qt
    rw [List.getElem?_map] at ho
    obtain ⟨y, hy, rfl⟩ := Option.map_eq_some_iff.mp ho
    show if true = true then te ((wipe σ vs).set j (some x)) H' (fun y H4 => Qt (some y) H4) else Qt none H'
    exact iteT (hs i x y H' hx hy s (fun y H4 => Qt (some y) H4) qt)
  · intro H' s hD
    rw [fm_some] at hD
    exact hd H' s hD
theorem lc_mapR {lo : Int} {n : Nat} {j : Nat} {te : TE} {vs : List Nat} {σ : L2.St} {H1 : Hp} {D : Addr} {Qd : Hp → Prop} (ys : List V) (nD : H1 D = none) (hlen : ys.length = n) (hz : n < sizeLine)
    (hw : ∀ x, wipe ((wipe σ vs).set j (some x)) vs = wipe σ vs)
    (hs : ∀ (i : Nat) (y : V) (H' : Hp), i < n → ys[i]? = some y → Same H1 H' → ∀ Qt : V → Hp → Prop, (∀ H'', Same H' H'' → Qt y H'') → te ((wipe σ vs).set j (some (.int (lo + (i : Int))))) H' Qt)
    (hd : ∀ H', Same H1 H' → H' D = some (.lst ys) → Qd H') :
    ∃ W : Nat → Nat → Hp → Prop, (∃ m, W 0 m (upd H1 D (.lst []))) ∧ ∀ i m H, W i m H →
      ((Itr lo n).stop i H ∧ Qd H) ∨ ((Itr lo n).go i H ∧ ∃ Nx : Hp → Prop, (∀ H', Nx H' → ∃ m', m' < m ∧ W (i + 1) m' H') ∧ ∀ x H', (Itr lo n).yld i H x H' → gName j x (wipe σ vs) H' fun σ2 H2 => wipe σ2 vs = wipe σ vs ∧ tYes σ2 H2 fun b H3 =>
        if b = true then te σ2 H3 fun y H4 => ∃ acc, H4 D = some (.lst acc) ∧ acc.length < sizeLine ∧ Nx (upd H4 D (.lst (acc ++ [y]))) else Nx H3) := by
  refine lc_selR (lo := lo) (n := n) (tt := tYes) (ys.map some) nD (by rw [List.length_map]; exact hlen) hz hw ?_ ?_
  · intro i o H' hi ho s Qt qt
    rw [List.getElem?_map] at ho
    obtain ⟨y, hy, rfl⟩ := Option.map_eq_some_iff.mp ho
    show if true = true then te ((wipe σ vs).set j (some (.int (lo + (i : Int))))) H' (fun y H4 => Qt (some y) H4) else Qt none H'
    exact iteT (hs i y H' hi hy s (fun y H4 => Qt (some y) H4) qt)
  · intro H' s hD
    rw [fm_some] at hD
    exact hd H' s hD
/-- an item of a list of whole numbers -/
theorem int_at {ns : List Int} {i : Nat} {x : V} (h : (ns.map V.int)[i]? = some x) : ∃ n, ns[i]? = some n ∧ x = .int n := by
  rw [List.getElem?_map] at h
  obtain ⟨n, hn, e⟩ := Option.map_eq_some_iff.mp h
  exact ⟨n, hn, e.symm⟩
/-! ### rules with the written part named (within a comprehension Lean doesn't find it) -/
section
variable {X : Cx}
theorem k_len (K : PySem.W.Frag) (h : X.K = K) : CallR X (.builtin "len") (fun xs H Q => ∃ p ys, xs = [.ref p] ∧ (SqL K H p ys ∨ SqT K H p ys) ∧ Q (.int ys.length) H) := by subst h; exact call_len_seq
theorem k_sum (K : PySem.W.Frag) (h : X.K = K) (hc : X.calm = true) : CallR X (.builtin "sum") (rSum K) := by subst h; exact cr_sum hc
theorem k_max (K : PySem.W.Frag) (h : X.K = K) (hc : X.calm = true) : CallR X (.builtin "max") (rMax K) := by subst h; exact cr_max hc
theorem k_min (K : PySem.W.Frag) (h : X.K = K) (hc : X.calm = true) : CallR X (.builtin "min") (rMin K) := by subst h; exact cr_min hc
theorem k_isi (K : PySem.W.Frag) (h : X.K = K) : CallR X (.builtin "isinstance") (rIsi K) := by subst h; exact call_isi
theorem k_listOf (K : PySem.W.Frag) (h : X.K = K) : CallR X (.type "list") (fun xs H Q => ∃ p ys, xs = [.ref p] ∧ (SqL K H p ys ∨ SqT K H p ys) ∧ ∀ l, H l = none → Q (.ref l) (upd H l (.lst ys))) := by subst h; exact call_list_of
theorem k_tupleOf (K : PySem.W.Frag) (h : X.K = K) : CallR X (.type "tuple") (fun xs H Q => ∃ p ys, xs = [.ref p] ∧ ((SqL K H p ys ∧ ∀ l, H l = none → Q (.ref l) (upd H l (.tup ys))) ∨ (SqT K H p ys ∧ Q (.ref p) H))) := by subst h; exact call_tuple_of
theorem k_ixL (K : PySem.W.Frag) (h : X.K = K) : IxR X (rIxL K) := by subst h; exact ix_list
theorem k_ixT (K : PySem.W.Frag) (h : X.K = K) : IxR X (rIxT K) := by subst h; exact ix_tup
theorem k_slL (K : PySem.W.Frag) (h : X.K = K) : SlR X (rSlL K) := by subst h; exact sl_list
theorem k_slT (K : PySem.W.Frag) (h : X.K = K) : SlR X (rSlT K) := by subst h; exact sl_tup
theorem k_eqD (K : PySem.W.Frag) (h : X.K = K) (hu : X.A.units + 64 < cLine) : OpR X (compareOp .Eq) (rEqD K) := by subst h; exact op_eqD hu
theorem k_neD (K : PySem.W.Frag) (h : X.K = K) (hu : X.A.units + 64 < cLine) : OpR X (compareOp .NotEq) (rNeD K) := by subst h; exact op_neD hu
theorem k_in (K : PySem.W.Frag) (h : X.K = K) : OpR X (compareOp .In) (rIn K false) := by subst h; exact op_in_seq
theorem k_notIn (K : PySem.W.Frag) (h : X.K = K) : OpR X (compareOp .NotIn) (rIn K true) := by subst h; exact op_notIn_seq
theorem k_piL (K : PySem.W.Frag) (h : X.K = K) {tg l : Expr} {tl : TE} (hl : PE X l tl) : PI X tg l (iList K tl) := by subst h; exact pi_list hl
theorem k_piT (K : PySem.W.Frag) (h : X.K = K) {tg l : Expr} {tl : TE} (hl : PE X l tl) : PI X tg l (iTup K tl) := by subst h; exact pi_tup hl
theorem k_piE (K : PySem.W.Frag) (h : X.K = K) {e : Expr} {ta : TA} {p pos tpos : Pos} {elts : List Expr} {kk : Nat} (hg : Gl X "enumerate") (hm : X.mg "enumerate" = none) (ha : PA X [e] ta) (hs : starEach [e] X.env = [(false, eval e X.env)] := by rfl) : PI X (.Tuple elts kk tpos) (.Call (.Name "enumerate" p) [e] [] pos) (iEnum K ta) := by subst h; exact pi_enum hg hm ha hs
theorem k_pgT (K : PySem.W.Frag) (h : X.K = K) {es : List Expr} {k : Nat} {t : TGs} {n : Nat} {pos : Pos} (hc : X.calm = true) (hp : PGs X es t) (hn : (assignEach es X.env).length = n := by rfl) (hst : (assignEach es X.env).findIdx? (·.1) = none := by rfl) : PG X (.Tuple es k pos) (gTup K n t) := by subst h; exact pg_tup hc hp hn hst
theorem k_pgL (K : PySem.W.Frag) (h : X.K = K) {es : List Expr} {k : Nat} {t : TGs} {n : Nat} {pos : Pos} (hc : X.calm = true) (hp : PGs X es t) (hn : (assignEach es X.env).length = n := by rfl) (hst : (assignEach es X.env).findIdx? (·.1) = none := by rfl) : PG X (.Tuple es k pos) (gUnl K n t) := by subst h; exact pg_unl hc hp hn hst
theorem k_fld (K : PySem.W.Frag) (h : X.K = K) {e : Expr} {f : Str} {pos : Pos} {ta : TE} (he : PE X e ta) (hb : attributeBase e f X.env (eval e X.env) = eval e X.env) : PE X (.Attribute e f pos) (tFld K ta f) := by subst h; exact pe_fld he hb
theorem k_index (K : PySem.W.Frag) (h : X.K = K) : MtR X "list.index" (rIndex K) := by subst h; exact mt_index
end
/-! ### small things -/
theorem fresh {H : Hp} {p : Addr} (o : HO) (np : H p = none) : ∃ H', upd H p o = H' ∧ Same H H' ∧ H' p = some o := ⟨_, rfl, same_upd np, upd_same⟩
theorem cut_take (xs : List V) (k : Nat) : cutV xs none (some (k : Int)) = xs.take k := by
  unfold cutV
  rw [HT.sIx_nat, HT.sIx_none, List.drop_zero, Nat.sub_zero]
  rcases Nat.le_total k xs.length with h | h
  · rw [Nat.min_eq_left h]
  · rw [Nat.min_eq_right h, List.take_of_length_le h, List.take_length]
theorem cut_drop (xs : List V) (k : Nat) : cutV xs (some (k : Int)) none = xs.drop k := by
  unfold cutV
  rw [HT.sIx_nat, HT.sIx_none]
  rcases Nat.le_total k xs.length with h | h
  · rw [Nat.min_eq_left h, List.take_of_length_le (by rw [List.length_drop]; exact Nat.le_refl _)]
  · rw [Nat.min_eq_right h, List.drop_length, List.drop_of_length_le h, List.take_nil]
theorem rep_ints (k : Nat) (ks : List Int) : (List.replicate k (ks.map V.int)).flatten = ((List.replicate k ks).flatten).map V.int := by
  rw [List.map_flatten, List.map_replicate]
theorem rep_len {α : Type} (k : Nat) (ks : List α) : ((List.replicate k ks).flatten).length = k * ks.length := by
  induction k with
  | zero => simp
  | succ k ih => rw [List.replicate_succ, List.flatten_cons, List.length_append, ih, Nat.succ_mul]; omega
theorem rep_mem {α : Type} {k : Nat} {ks : List α} {x : α} (h : x ∈ (List.replicate k ks).flatten) : x ∈ ks := by
  obtain ⟨l, hl, hx⟩ := List.mem_flatten.mp h
  rw [(List.mem_replicate.mp hl).2] at hx
  exact hx
/-! ### comprehensions that make new things: R tells what is known of the i-th; D is no part of it -/
def Off (D : Addr) (H H' : Hp) : Prop := ∀ b o, b ≠ D → H b = some o → H' b = some o
def RelPv (R : Nat → V → Hp → Prop) (H1 : Hp) (D : Addr) (i : Nat) (H : Hp) : Prop := ∃ ys : List V, Same H1 H ∧ H D = some (.lst ys) ∧ ys.length = i ∧ ∀ (k : Nat) (y : V), ys[k]? = some y → R k y H
theorem lc_relR {lo : Int} {n : Nat} {j : Nat} {te : TE} {vs : List Nat} {σ : L2.St} {H1 : Hp} {D : Addr} {Qd : Hp → Prop} (R : Nat → V → Hp → Prop) (nD : H1 D = none) (hz : n < sizeLine)
    (mono : ∀ i y H H', Off D H H' → R i y H → R i y H')
    (hw : ∀ x, wipe ((wipe σ vs).set j (some x)) vs = wipe σ vs)
    (hs : ∀ (i : Nat) (H' : Hp) (xs : List V), i < n → Same H1 H' → H' D = some (.lst xs) → ∀ Qt : V → Hp → Prop, (∀ y H'', Same H' H'' → R i y H'' → Qt y H'') → te ((wipe σ vs).set j (some (.int (lo + (i : Int))))) H' Qt)
    (hd : ∀ H' ys, Same H1 H' → H' D = some (.lst ys) → ys.length = n → (∀ (i : Nat) (y : V), ys[i]? = some y → R i y H') → Qd H') :
    ∃ W : Nat → Nat → Hp → Prop, (∃ m, W 0 m (upd H1 D (.lst []))) ∧ ∀ i m H, W i m H →
      ((Itr lo n).stop i H ∧ Qd H) ∨ ((Itr lo n).go i H ∧ ∃ Nx : Hp → Prop, (∀ H', Nx H' → ∃ m', m' < m ∧ W (i + 1) m' H') ∧ ∀ x H', (Itr lo n).yld i H x H' → gName j x (wipe σ vs) H' fun σ2 H2 => wipe σ2 vs = wipe σ vs ∧ tYes σ2 H2 fun b H3 =>
        if b = true then te σ2 H3 fun y H4 => ∃ acc, H4 D = some (.lst acc) ∧ acc.length < sizeLine ∧ Nx (upd H4 D (.lst (acc ++ [y]))) else Nx H3) := by
  refine lc_range (lo := lo) (n := n) (RelPv R H1 D) ⟨[], same_upd nD, upd_same, rfl, fun k y h => by simp at h⟩ ?_ ?_
  · rintro i H hi ⟨ys, s, hD, hl, hR⟩
    refine ⟨hw _, ?_⟩
    show if true = true then te ((wipe σ vs).set j (some (.int (lo + (i : Int))))) H (fun y H4 => ∃ acc, H4 D = some (.lst acc) ∧ acc.length < sizeLine ∧ RelPv R H1 D (i + 1) (upd H4 D (.lst (acc ++ [y])))) else RelPv R H1 D (i + 1) H
    refine iteT (hs i H ys hi s hD _ fun y H4 s4 r4 => ?_)
    refine ⟨ys, s4 _ _ hD, by omega, ys ++ [y], same_over nD (s.trans s4), upd_same, by rw [List.length_append, hl]; rfl, fun k z hz => ?_⟩
    have off : Off D H4 (upd H4 D (.lst (ys ++ [y]))) := fun b o nb h => by rw [upd_ne nb]; exact h
    by_cases hk : k < ys.length
    · rw [List.getElem?_append_left hk] at hz
      exact mono k z H _ (fun b o nb h => off b o nb (s4 b o h)) (hR k z hz)
    · rw [List.getElem?_append_right (by omega)] at hz
      have hk2 : k - ys.length = 0 := by
        have h2 := (List.getElem?_eq_some_iff.mp hz).1
        rw [List.length_singleton] at h2
        omega
      rw [hk2] at hz
      cases hz
      have ek : k = i := by omega
      rw [ek]
      exact mono i y H4 _ off r4
  · rintro H ⟨ys, s, hD, hl, hR⟩
    exact hd H ys s hD hl hR
/-! ### ways that are told by whole numbers -/
theorem iteDT {p A B : Prop} [Decidable p] (hp : p) (h : A) : if decide p = true then A else B := by rw [decide_eq_true hp]; exact iteT h
theorem iteDF {p A B : Prop} [Decidable p] (hp : ¬ p) (h : B) : if decide p = true then A else B := by rw [decide_eq_false hp]; exact iteF h
theorem iteNT {p A B : Prop} [Decidable p] (hp : ¬ p) (h : A) : if (!decide p) = true then A else B := by rw [decide_eq_false hp]; exact iteT h
theorem iteNF {p A B : Prop} [Decidable p] (hp : p) (h : B) : if (!decide p) = true then A else B := by rw [decide_eq_true hp]; exact iteF h
theorem iteET {a b : Int} {A B : Prop} [Decidable (V.int a = V.int b)] (hp : a = b) (h : A) : if decide (V.int a = V.int b) = true then A else B := iteDT (congrArg V.int hp) h
theorem iteEF {a b : Int} {A B : Prop} [Decidable (V.int a = V.int b)] (hp : ¬ a = b) (h : B) : if decide (V.int a = V.int b) = true then A else B := iteDF (fun z => hp (V.int.inj z)) h
theorem iteENT {a b : Int} {A B : Prop} [Decidable (V.int a = V.int b)] (hp : ¬ a = b) (h : A) : if (!decide (V.int a = V.int b)) = true then A else B := iteNT (fun z => hp (V.int.inj z)) h
theorem iteENF {a b : Int} {A B : Prop} [Decidable (V.int a = V.int b)] (hp : a = b) (h : B) : if (!decide (V.int a = V.int b)) = true then A else B := iteNF (congrArg V.int hp) h
theorem iteNtt {A B : Prop} (h : B) : if (!true) = true then A else B := h
theorem iteNff {A B : Prop} (h : A) : if (!false) = true then A else B := h
/-- 1 or 0 of a comparison -/
theorem int_if {p : Prop} [Decidable p] : (if decide p = true then (1 : Int) else 0) = if p then 1 else 0 := by by_cases h : p <;> simp [h]
end Pre

namespace My
open PySem PySem.Spec PyProof.Rows L2
theorem nil_binds {K : PySem.W.Frag} {fd : FuncData} {ps : List Str} (h : ∃ ds, Vals [] ds ∧ Binds K fd ps ds) : Binds K fd ps [] := by
  obtain ⟨ds, v, b⟩ := h
  cases v
  exact b
def top (i : Nat) : Stmt := PySem.Challenge.pw_wholesound_k66_whole_counts_of_the_unsee.main.body.getD i (.Pass ⟨0, 0, 0, 0⟩)
abbrev s_is_whole : Stmt := top 5
abbrev N_is_whole : List Str := ["value"]
theorem sc_is_whole : FnScope N_is_whole ["value"] (defScope s_is_whole) := ⟨rfl, rfl, rfl, by decide +kernel, rfl, by decide +kernel, by decide +kernel⟩
abbrev s_is_between : Stmt := top 6
abbrev N_is_between : List Str := ["value", "low", "high"]
theorem sc_is_between : FnScope N_is_between ["value", "low", "high"] (defScope s_is_between) := ⟨rfl, rfl, rfl, by decide +kernel, rfl, by decide +kernel, by decide +kernel⟩
abbrev s_bits_of : Stmt := top 7
abbrev N_bits_of : List Str := ["number", "many", "at"]
theorem sc_bits_of : FnScope N_bits_of ["number", "many"] (defScope s_bits_of) := ⟨rfl, rfl, rfl, by decide +kernel, rfl, by decide +kernel, by decide +kernel⟩
abbrev s_common_divisor : Stmt := top 8
abbrev N_common_divisor : List Str := ["one", "other"]
theorem sc_common_divisor : FnScope N_common_divisor ["one", "other"] (defScope s_common_divisor) := ⟨rfl, rfl, rfl, by decide +kernel, rfl, by decide +kernel, by decide +kernel⟩
abbrev s_fraction : Stmt := top 9
abbrev N_fraction : List Str := ["top", "under", "common"]
theorem sc_fraction : FnScope N_fraction ["top", "under"] (defScope s_fraction) := ⟨rfl, rfl, rfl, by decide +kernel, rfl, by decide +kernel, by decide +kernel⟩
abbrev s_check_number : Stmt := top 10
abbrev N_check_number : List Str := ["number", "low", "high"]
theorem sc_check_number : FnScope N_check_number ["number", "low", "high"] (defScope s_check_number) := ⟨rfl, rfl, rfl, by decide +kernel, rfl, by decide +kernel, by decide +kernel⟩
abbrev s_sum_of : Stmt := top 15
abbrev N_sum_of : List Str := ["check"]
theorem sc_sum_of : FnScope N_sum_of ["check"] (defScope s_sum_of) := ⟨rfl, rfl, rfl, by decide +kernel, rfl, by decide +kernel, by decide +kernel⟩
abbrev s_check_check : Stmt := top 16
abbrev N_check_check : List Str := ["check"]
theorem sc_check_check : FnScope N_check_check ["check"] (defScope s_check_check) := ⟨rfl, rfl, rfl, by decide +kernel, rfl, by decide +kernel, by decide +kernel⟩
abbrev s_shifted : Stmt := top 17
abbrev N_shifted : List Str := ["check", "one"]
theorem sc_shifted : FnScope N_shifted ["check", "one"] (defScope s_shifted) := ⟨rfl, rfl, rfl, by decide +kernel, rfl, by decide +kernel, by decide +kernel⟩
abbrev s_powers_of : Stmt := top 18
abbrev N_powers_of : List Str := ["check", "found", "now"]
theorem sc_powers_of : FnScope N_powers_of ["check"] (defScope s_powers_of) := ⟨rfl, rfl, rfl, by decide +kernel, rfl, by decide +kernel, by decide +kernel⟩
abbrev s_order : Stmt := top 19
abbrev N_order : List Str := ["check"]
theorem sc_order : FnScope N_order ["check"] (defScope s_order) := ⟨rfl, rfl, rfl, by decide +kernel, rfl, by decide +kernel, by decide +kernel⟩
abbrev s_ones_in : Stmt := top 20
abbrev N_ones_in : List Str := ["number", "place"]
theorem sc_ones_in : FnScope N_ones_in ["number"] (defScope s_ones_in) := ⟨rfl, rfl, rfl, by decide +kernel, rfl, by decide +kernel, by decide +kernel⟩
abbrev s_all_odd : Stmt := top 21
abbrev N_all_odd : List Str := ["check"]
theorem sc_all_odd : FnScope N_all_odd ["check"] (defScope s_all_odd) := ⟨rfl, rfl, rfl, by decide +kernel, rfl, by decide +kernel, by decide +kernel⟩
abbrev s_sums_turned : Stmt := top 27
abbrev N_sums_turned : List Str := ["counts", "found", "step", "at", "one", "other"]
theorem sc_sums_turned : FnScope N_sums_turned ["counts"] (defScope s_sums_turned) := ⟨rfl, rfl, rfl, by decide +kernel, rfl, by decide +kernel, by decide +kernel⟩
abbrev s_masks_by_ones : Stmt := top 28
abbrev N_masks_by_ones : List Str := ["check", "many", "powers", "counts", "found", "total", "place", "value", "ones"]
theorem sc_masks_by_ones : FnScope N_masks_by_ones ["check", "many"] (defScope s_masks_by_ones) := ⟨rfl, rfl, rfl, by decide +kernel, rfl, by decide +kernel, by decide +kernel⟩
abbrev s_sets_of : Stmt := top 29
abbrev N_sets_of : List Str := ["many", "few", "found", "at"]
theorem sc_sets_of : FnScope N_sets_of ["many", "few"] (defScope s_sets_of) := ⟨rfl, rfl, rfl, by decide +kernel, rfl, by decide +kernel, by decide +kernel⟩
abbrev s_signed_sets : Stmt := top 30
abbrev N_signed_sets : List Str := ["many", "ones", "few", "at"]
theorem sc_signed_sets : FnScope N_signed_sets ["many", "ones", "few"] (defScope s_signed_sets) := ⟨rfl, rfl, rfl, by decide +kernel, rfl, by decide +kernel, by decide +kernel⟩
abbrev s_raised : Stmt := top 31
abbrev N_raised : List Str := ["base", "many", "found", "turn"]
theorem sc_raised : FnScope N_raised ["base", "many"] (defScope s_raised) := ⟨rfl, rfl, rfl, by decide +kernel, rfl, by decide +kernel, by decide +kernel⟩
abbrev s_check_counted : Stmt := top 32
abbrev N_check_counted : List Str := ["check"]
theorem sc_check_counted : FnScope N_check_counted ["check"] (defScope s_check_counted) := ⟨rfl, rfl, rfl, by decide +kernel, rfl, by decide +kernel, by decide +kernel⟩
abbrev s_how_many_unseen : Stmt := top 33
abbrev N_how_many_unseen : List Str := ["check", "many", "few", "books", "ones"]
theorem sc_how_many_unseen : FnScope N_how_many_unseen ["check", "many", "few"] (defScope s_how_many_unseen) := ⟨rfl, rfl, rfl, by decide +kernel, rfl, by decide +kernel, by decide +kernel⟩
abbrev s_chance : Stmt := top 34
abbrev N_chance : List Str := ["check", "many", "top", "under", "total", "books", "whole", "ones"]
theorem sc_chance : FnScope N_chance ["check", "many", "top", "under"] (defScope s_chance) := ⟨rfl, rfl, rfl, by decide +kernel, rfl, by decide +kernel, by decide +kernel⟩
abbrev s_law_hash : Stmt := top 36
abbrev N_law_hash : List Str := ["_law_seed", "_law_index", "_law_mixed"]
theorem sc_law_hash : FnScope N_law_hash ["_law_seed", "_law_index"] (defScope s_law_hash) := ⟨rfl, rfl, rfl, by decide +kernel, rfl, by decide +kernel, by decide +kernel⟩
abbrev s_law_random : Stmt := top 37
abbrev N_law_random : List Str := ["_law_generator_here", "_law_bound", "_law_drawn_here", "_law_turn"]
theorem sc_law_random : FnScope N_law_random ["_law_generator_here", "_law_bound"] (defScope s_law_random) := ⟨rfl, rfl, rfl, by decide +kernel, rfl, by decide +kernel, by decide +kernel⟩
abbrev s_law_cell : Stmt := top 38
abbrev N_law_cell : List Str := ["_law_script", "_law_index"]
theorem sc_law_cell : FnScope N_law_cell ["_law_script", "_law_index"] (defScope s_law_cell) := ⟨rfl, rfl, rfl, by decide +kernel, rfl, by decide +kernel, by decide +kernel⟩
abbrev s_law_generator : Stmt := top 39
abbrev N_law_generator : List Str := ["_law_script", "_law_index", "_law_seed"]
theorem sc_law_generator : FnScope N_law_generator ["_law_script", "_law_index"] (defScope s_law_generator) := ⟨rfl, rfl, rfl, by decide +kernel, rfl, by decide +kernel, by decide +kernel⟩
abbrev s_law_rest : Stmt := top 40
abbrev N_law_rest : List Str := ["_law_whole", "_law_number", "_law_left"]
theorem sc_law_rest : FnScope N_law_rest ["_law_whole", "_law_number"] (defScope s_law_rest) := ⟨rfl, rfl, rfl, by decide +kernel, rfl, by decide +kernel, by decide +kernel⟩
abbrev s_law_drawn : Stmt := top 41
abbrev N_law_drawn : List Str := ["_law_generator_here", "_law_width"]
theorem sc_law_drawn : FnScope N_law_drawn ["_law_generator_here", "_law_width"] (defScope s_law_drawn) := ⟨rfl, rfl, rfl, by decide +kernel, rfl, by decide +kernel, by decide +kernel⟩
abbrev s_law_places : Stmt := top 42
abbrev N_law_places : List Str := ["_law_number", "_law_place"]
theorem sc_law_places : FnScope N_law_places ["_law_number"] (defScope s_law_places) := ⟨rfl, rfl, rfl, by decide +kernel, rfl, by decide +kernel, by decide +kernel⟩
abbrev s_law_lowest : Stmt := top 43
abbrev N_law_lowest : List Str := ["_law_top", "_law_under", "_law_one", "_law_other"]
theorem sc_law_lowest : FnScope N_law_lowest ["_law_top", "_law_under"] (defScope s_law_lowest) := ⟨rfl, rfl, rfl, by decide +kernel, rfl, by decide +kernel, by decide +kernel⟩
abbrev s_law_raised : Stmt := top 44
abbrev N_law_raised : List Str := ["_law_base", "_law_many", "_law_found", "_law_turn"]
theorem sc_law_raised : FnScope N_law_raised ["_law_base", "_law_many"] (defScope s_law_raised) := ⟨rfl, rfl, rfl, by decide +kernel, rfl, by decide +kernel, by decide +kernel⟩
abbrev s_law_small_right : Stmt := top 45
abbrev N_law_small_right : List Str := ["_law_generator_here", "_law_check", "_law_whole", "_law_many", "_law_counts", "_law_number", "_law_under", "_law_top", "_law_total", "_law_few", "_law_size"]
theorem sc_law_small_right : FnScope N_law_small_right ["_law_generator_here", "_law_check", "_law_whole", "_law_many"] (defScope s_law_small_right) := ⟨rfl, rfl, rfl, by decide +kernel, rfl, by decide +kernel, by decide +kernel⟩
abbrev s_law_threes : Stmt := top 46
abbrev N_law_threes : List Str := ["_law_whole", "_law_many", "_law_place", "_law_one", "_law_spots", "_law_powers", "_law_found", "_law_other", "_law_last"]
theorem sc_law_threes : FnScope N_law_threes ["_law_whole", "_law_many"] (defScope s_law_threes) := ⟨rfl, rfl, rfl, by decide +kernel, rfl, by decide +kernel, by decide +kernel⟩
abbrev s_law_pairs : Stmt := top 47
abbrev N_law_pairs : List Str := ["_law_many", "_law_step", "_law_whole", "_law_more"]
theorem sc_law_pairs : FnScope N_law_pairs ["_law_many", "_law_step"] (defScope s_law_pairs) := ⟨rfl, rfl, rfl, by decide +kernel, rfl, by decide +kernel, by decide +kernel⟩
abbrev s_law_great_right : Stmt := top 48
abbrev N_law_great_right : List Str := ["_law_generator_here", "_law_check", "_law_whole", "_law_many", "_law_far", "_law_told", "_law_few"]
theorem sc_law_great_right : FnScope N_law_great_right ["_law_generator_here", "_law_check", "_law_whole", "_law_many"] (defScope s_law_great_right) := ⟨rfl, rfl, rfl, by decide +kernel, rfl, by decide +kernel, by decide +kernel⟩
abbrev s_law : Stmt := top 49
abbrev N_law : List Str := ["_law_script", "_law_index", "_law_three", "_law_generator_here", "_law_width", "_law_low", "_law_few"]
theorem sc_law : FnScope N_law ["_law_script"] (defScope s_law) := ⟨rfl, rfl, rfl, by decide +kernel, rfl, by decide +kernel, by decide +kernel⟩
abbrev s_Check___init__ : Stmt := inClass (top 14) 0
abbrev N_Check___init__ : List Str := ["self", "width", "low"]
theorem sc_Check___init__ : FnScope N_Check___init__ ["self", "width", "low"] (defScope s_Check___init__) := ⟨rfl, rfl, rfl, by decide +kernel, rfl, by decide +kernel, by decide +kernel⟩
abbrev s_Check_width : Stmt := inClass (top 14) 2
theorem sc_Check_width : FnScope ["self"] ["self"] (defScope s_Check_width) := ⟨rfl, rfl, rfl, by decide +kernel, rfl, by decide +kernel, by decide +kernel⟩
abbrev s_Check_low : Stmt := inClass (top 14) 3
theorem sc_Check_low : FnScope ["self"] ["self"] (defScope s_Check_low) := ⟨rfl, rfl, rfl, by decide +kernel, rfl, by decide +kernel, by decide +kernel⟩
/-- what the top has left -/
structure Top (K : PySem.W.Frag) (mg : Str → Option Value) where
  C_Check : Addr
  gc_Check : mg "Check" = some (.ref C_Check)
  cl_Check : Cls K C_Check
  ic_Check : C8.InsC K C_Check
  na_Check_size : NoAttr K C_Check "size"
  na_Check_tail : NoAttr K C_Check "tail"
  f_is_whole : Addr
  fd_is_whole : FuncData
  F_is_whole : FunD K "is_whole" "is_whole" (defArgs s_is_whole) (defBody s_is_whole) (defScope s_is_whole) [] [] f_is_whole fd_is_whole
  b_is_whole : Binds K fd_is_whole ["value"] []
  g_is_whole : mg "is_whole" = some (.ref f_is_whole)
  f_is_between : Addr
  fd_is_between : FuncData
  F_is_between : FunD K "is_between" "is_between" (defArgs s_is_between) (defBody s_is_between) (defScope s_is_between) [] [] f_is_between fd_is_between
  b_is_between : Binds K fd_is_between ["value", "low", "high"] []
  g_is_between : mg "is_between" = some (.ref f_is_between)
  f_bits_of : Addr
  fd_bits_of : FuncData
  F_bits_of : FunD K "bits_of" "bits_of" (defArgs s_bits_of) (defBody s_bits_of) (defScope s_bits_of) [] [] f_bits_of fd_bits_of
  b_bits_of : Binds K fd_bits_of ["number", "many"] []
  g_bits_of : mg "bits_of" = some (.ref f_bits_of)
  f_common_divisor : Addr
  fd_common_divisor : FuncData
  F_common_divisor : FunD K "common_divisor" "common_divisor" (defArgs s_common_divisor) (defBody s_common_divisor) (defScope s_common_divisor) [] [] f_common_divisor fd_common_divisor
  b_common_divisor : Binds K fd_common_divisor ["one", "other"] []
  g_common_divisor : mg "common_divisor" = some (.ref f_common_divisor)
  f_fraction : Addr
  fd_fraction : FuncData
  F_fraction : FunD K "fraction" "fraction" (defArgs s_fraction) (defBody s_fraction) (defScope s_fraction) [] [] f_fraction fd_fraction
  b_fraction : Binds K fd_fraction ["top", "under"] []
  g_fraction : mg "fraction" = some (.ref f_fraction)
  f_check_number : Addr
  fd_check_number : FuncData
  F_check_number : FunD K "check_number" "check_number" (defArgs s_check_number) (defBody s_check_number) (defScope s_check_number) [] [] f_check_number fd_check_number
  b_check_number : Binds K fd_check_number ["number", "low", "high"] []
  g_check_number : mg "check_number" = some (.ref f_check_number)
  f_sum_of : Addr
  fd_sum_of : FuncData
  F_sum_of : FunD K "sum_of" "sum_of" (defArgs s_sum_of) (defBody s_sum_of) (defScope s_sum_of) [] [] f_sum_of fd_sum_of
  b_sum_of : Binds K fd_sum_of ["check"] []
  g_sum_of : mg "sum_of" = some (.ref f_sum_of)
  f_check_check : Addr
  fd_check_check : FuncData
  F_check_check : FunD K "check_check" "check_check" (defArgs s_check_check) (defBody s_check_check) (defScope s_check_check) [] [] f_check_check fd_check_check
  b_check_check : Binds K fd_check_check ["check"] []
  g_check_check : mg "check_check" = some (.ref f_check_check)
  f_shifted : Addr
  fd_shifted : FuncData
  F_shifted : FunD K "shifted" "shifted" (defArgs s_shifted) (defBody s_shifted) (defScope s_shifted) [] [] f_shifted fd_shifted
  b_shifted : Binds K fd_shifted ["check", "one"] []
  g_shifted : mg "shifted" = some (.ref f_shifted)
  f_powers_of : Addr
  fd_powers_of : FuncData
  F_powers_of : FunD K "powers_of" "powers_of" (defArgs s_powers_of) (defBody s_powers_of) (defScope s_powers_of) [] [] f_powers_of fd_powers_of
  b_powers_of : Binds K fd_powers_of ["check"] []
  g_powers_of : mg "powers_of" = some (.ref f_powers_of)
  f_order : Addr
  fd_order : FuncData
  F_order : FunD K "order" "order" (defArgs s_order) (defBody s_order) (defScope s_order) [] [] f_order fd_order
  b_order : Binds K fd_order ["check"] []
  g_order : mg "order" = some (.ref f_order)
  f_ones_in : Addr
  fd_ones_in : FuncData
  F_ones_in : FunD K "ones_in" "ones_in" (defArgs s_ones_in) (defBody s_ones_in) (defScope s_ones_in) [] [] f_ones_in fd_ones_in
  b_ones_in : Binds K fd_ones_in ["number"] []
  g_ones_in : mg "ones_in" = some (.ref f_ones_in)
  f_all_odd : Addr
  fd_all_odd : FuncData
  F_all_odd : FunD K "all_odd" "all_odd" (defArgs s_all_odd) (defBody s_all_odd) (defScope s_all_odd) [] [] f_all_odd fd_all_odd
  b_all_odd : Binds K fd_all_odd ["check"] []
  g_all_odd : mg "all_odd" = some (.ref f_all_odd)
  f_sums_turned : Addr
  fd_sums_turned : FuncData
  F_sums_turned : FunD K "sums_turned" "sums_turned" (defArgs s_sums_turned) (defBody s_sums_turned) (defScope s_sums_turned) [] [] f_sums_turned fd_sums_turned
  b_sums_turned : Binds K fd_sums_turned ["counts"] []
  g_sums_turned : mg "sums_turned" = some (.ref f_sums_turned)
  f_masks_by_ones : Addr
  fd_masks_by_ones : FuncData
  F_masks_by_ones : FunD K "masks_by_ones" "masks_by_ones" (defArgs s_masks_by_ones) (defBody s_masks_by_ones) (defScope s_masks_by_ones) [] [] f_masks_by_ones fd_masks_by_ones
  b_masks_by_ones : Binds K fd_masks_by_ones ["check", "many"] []
  g_masks_by_ones : mg "masks_by_ones" = some (.ref f_masks_by_ones)
  f_sets_of : Addr
  fd_sets_of : FuncData
  F_sets_of : FunD K "sets_of" "sets_of" (defArgs s_sets_of) (defBody s_sets_of) (defScope s_sets_of) [] [] f_sets_of fd_sets_of
  b_sets_of : Binds K fd_sets_of ["many", "few"] []
  g_sets_of : mg "sets_of" = some (.ref f_sets_of)
  f_signed_sets : Addr
  fd_signed_sets : FuncData
  F_signed_sets : FunD K "signed_sets" "signed_sets" (defArgs s_signed_sets) (defBody s_signed_sets) (defScope s_signed_sets) [] [] f_signed_sets fd_signed_sets
  b_signed_sets : Binds K fd_signed_sets ["many", "ones", "few"] []
  g_signed_sets : mg "signed_sets" = some (.ref f_signed_sets)
  f_raised : Addr
  fd_raised : FuncData
  F_raised : FunD K "raised" "raised" (defArgs s_raised) (defBody s_raised) (defScope s_raised) [] [] f_raised fd_raised
  b_raised : Binds K fd_raised ["base", "many"] []
  g_raised : mg "raised" = some (.ref f_raised)
  f_check_counted : Addr
  fd_check_counted : FuncData
  F_check_counted : FunD K "check_counted" "check_counted" (defArgs s_check_counted) (defBody s_check_counted) (defScope s_check_counted) [] [] f_check_counted fd_check_counted
  b_check_counted : Binds K fd_check_counted ["check"] []
  g_check_counted : mg "check_counted" = some (.ref f_check_counted)
  f_how_many_unseen : Addr
  fd_how_many_unseen : FuncData
  F_how_many_unseen : FunD K "how_many_unseen" "how_many_unseen" (defArgs s_how_many_unseen) (defBody s_how_many_unseen) (defScope s_how_many_unseen) [] [] f_how_many_unseen fd_how_many_unseen
  b_how_many_unseen : Binds K fd_how_many_unseen ["check", "many", "few"] []
  g_how_many_unseen : mg "how_many_unseen" = some (.ref f_how_many_unseen)
  f_chance : Addr
  fd_chance : FuncData
  F_chance : FunD K "chance" "chance" (defArgs s_chance) (defBody s_chance) (defScope s_chance) [] [] f_chance fd_chance
  b_chance : Binds K fd_chance ["check", "many", "top", "under"] []
  g_chance : mg "chance" = some (.ref f_chance)
  f_law_hash : Addr
  fd_law_hash : FuncData
  F_law_hash : FunD K "_law_hash" "_law_hash" (defArgs s_law_hash) (defBody s_law_hash) (defScope s_law_hash) [] [] f_law_hash fd_law_hash
  b_law_hash : Binds K fd_law_hash ["_law_seed", "_law_index"] []
  g_law_hash : mg "_law_hash" = some (.ref f_law_hash)
  f_law_random : Addr
  fd_law_random : FuncData
  F_law_random : FunD K "_law_random" "_law_random" (defArgs s_law_random) (defBody s_law_random) (defScope s_law_random) [] [] f_law_random fd_law_random
  b_law_random : Binds K fd_law_random ["_law_generator_here", "_law_bound"] []
  g_law_random : mg "_law_random" = some (.ref f_law_random)
  f_law_cell : Addr
  fd_law_cell : FuncData
  F_law_cell : FunD K "_law_cell" "_law_cell" (defArgs s_law_cell) (defBody s_law_cell) (defScope s_law_cell) [] [] f_law_cell fd_law_cell
  b_law_cell : Binds K fd_law_cell ["_law_script", "_law_index"] []
  g_law_cell : mg "_law_cell" = some (.ref f_law_cell)
  f_law_generator : Addr
  fd_law_generator : FuncData
  F_law_generator : FunD K "_law_generator" "_law_generator" (defArgs s_law_generator) (defBody s_law_generator) (defScope s_law_generator) [] [] f_law_generator fd_law_generator
  b_law_generator : Binds K fd_law_generator ["_law_script", "_law_index"] []
  g_law_generator : mg "_law_generator" = some (.ref f_law_generator)
  f_law_rest : Addr
  fd_law_rest : FuncData
  F_law_rest : FunD K "_law_rest" "_law_rest" (defArgs s_law_rest) (defBody s_law_rest) (defScope s_law_rest) [] [] f_law_rest fd_law_rest
  b_law_rest : Binds K fd_law_rest ["_law_whole", "_law_number"] []
  g_law_rest : mg "_law_rest" = some (.ref f_law_rest)
  f_law_drawn : Addr
  fd_law_drawn : FuncData
  F_law_drawn : FunD K "_law_drawn" "_law_drawn" (defArgs s_law_drawn) (defBody s_law_drawn) (defScope s_law_drawn) [] [] f_law_drawn fd_law_drawn
  b_law_drawn : Binds K fd_law_drawn ["_law_generator_here", "_law_width"] []
  g_law_drawn : mg "_law_drawn" = some (.ref f_law_drawn)
  f_law_places : Addr
  fd_law_places : FuncData
  F_law_places : FunD K "_law_places" "_law_places" (defArgs s_law_places) (defBody s_law_places) (defScope s_law_places) [] [] f_law_places fd_law_places
  b_law_places : Binds K fd_law_places ["_law_number"] []
  g_law_places : mg "_law_places" = some (.ref f_law_places)
  f_law_lowest : Addr
  fd_law_lowest : FuncData
  F_law_lowest : FunD K "_law_lowest" "_law_lowest" (defArgs s_law_lowest) (defBody s_law_lowest) (defScope s_law_lowest) [] [] f_law_lowest fd_law_lowest
  b_law_lowest : Binds K fd_law_lowest ["_law_top", "_law_under"] []
  g_law_lowest : mg "_law_lowest" = some (.ref f_law_lowest)
  f_law_raised : Addr
  fd_law_raised : FuncData
  F_law_raised : FunD K "_law_raised" "_law_raised" (defArgs s_law_raised) (defBody s_law_raised) (defScope s_law_raised) [] [] f_law_raised fd_law_raised
  b_law_raised : Binds K fd_law_raised ["_law_base", "_law_many"] []
  g_law_raised : mg "_law_raised" = some (.ref f_law_raised)
  f_law_small_right : Addr
  fd_law_small_right : FuncData
  F_law_small_right : FunD K "_law_small_right" "_law_small_right" (defArgs s_law_small_right) (defBody s_law_small_right) (defScope s_law_small_right) [] [] f_law_small_right fd_law_small_right
  b_law_small_right : Binds K fd_law_small_right ["_law_generator_here", "_law_check", "_law_whole", "_law_many"] []
  g_law_small_right : mg "_law_small_right" = some (.ref f_law_small_right)
  f_law_threes : Addr
  fd_law_threes : FuncData
  F_law_threes : FunD K "_law_threes" "_law_threes" (defArgs s_law_threes) (defBody s_law_threes) (defScope s_law_threes) [] [] f_law_threes fd_law_threes
  b_law_threes : Binds K fd_law_threes ["_law_whole", "_law_many"] []
  g_law_threes : mg "_law_threes" = some (.ref f_law_threes)
  f_law_pairs : Addr
  fd_law_pairs : FuncData
  F_law_pairs : FunD K "_law_pairs" "_law_pairs" (defArgs s_law_pairs) (defBody s_law_pairs) (defScope s_law_pairs) [] [] f_law_pairs fd_law_pairs
  b_law_pairs : Binds K fd_law_pairs ["_law_many", "_law_step"] []
  g_law_pairs : mg "_law_pairs" = some (.ref f_law_pairs)
  f_law_great_right : Addr
  fd_law_great_right : FuncData
  F_law_great_right : FunD K "_law_great_right" "_law_great_right" (defArgs s_law_great_right) (defBody s_law_great_right) (defScope s_law_great_right) [] [] f_law_great_right fd_law_great_right
  b_law_great_right : Binds K fd_law_great_right ["_law_generator_here", "_law_check", "_law_whole", "_law_many"] []
  g_law_great_right : mg "_law_great_right" = some (.ref f_law_great_right)
  f_law : Addr
  fd_law : FuncData
  F_law : FunD K "law" "law" (defArgs s_law) (defBody s_law) (defScope s_law) [] [] f_law fd_law
  b_law : Binds K fd_law ["_law_script"] []
  g_law : mg "law" = some (.ref f_law)
  f_Check___init__ : Addr
  fd_Check___init__ : FuncData
  F_Check___init__ : FunD K "__init__" "Check.__init__" (defArgs s_Check___init__) (defBody s_Check___init__) (defScope s_Check___init__) [] [] f_Check___init__ fd_Check___init__
  b_Check___init__ : Binds K fd_Check___init__ ["self", "width", "low"] []
  me_Check___init__ : Meth K C_Check "__init__" f_Check___init__
  mk_Check : Mk K C_Check f_Check___init__
  pp_Check_width : Addr
  pg_Check_width : Addr
  po_Check_width : PropOf K C_Check "width" pp_Check_width pg_Check_width
  fdp_Check_width : FuncData
  Fp_Check_width : FunD K "width" "Check.width" (defArgs s_Check_width) (defBody s_Check_width) (defScope s_Check_width) [] [] pg_Check_width fdp_Check_width
  bp_Check_width : Binds K fdp_Check_width ["self"] []
  pp_Check_low : Addr
  pg_Check_low : Addr
  po_Check_low : PropOf K C_Check "low" pp_Check_low pg_Check_low
  fdp_Check_low : FuncData
  Fp_Check_low : FunD K "low" "Check.low" (defArgs s_Check_low) (defBody s_Check_low) (defScope s_Check_low) [] [] pg_Check_low fdp_Check_low
  bp_Check_low : Binds K fdp_Check_low ["self"] []
  n_len : mg "len" = none
  n_sum : mg "sum" = none
  n_max : mg "max" = none
  n_int : mg "int" = none
  n_bool : mg "bool" = none
  n_list : mg "list" = none
  n_range : mg "range" = none
  n_isinstance : mg "isinstance" = none
  n_abs : mg "abs" = none
  n_enumerate : mg "enumerate" = none
  t_MOST_WIDTH : Tok
  m_MOST_WIDTH : mg "MOST_WIDTH" = some (.int 16 t_MOST_WIDTH)
  t_MOST_PLACE : Tok
  m_MOST_PLACE : mg "MOST_PLACE" = some (.int 1000000000000000000 t_MOST_PLACE)
  t_MOST_COUNTED : Tok
  m_MOST_COUNTED : mg "MOST_COUNTED" = some (.int 10 t_MOST_COUNTED)
  t_MOST_FEW : Tok
  m_MOST_FEW : mg "MOST_FEW" = some (.int 8 t_MOST_FEW)
  t_MOST_TURNED : Tok
  m_MOST_TURNED : mg "MOST_TURNED" = some (.int 60 t_MOST_TURNED)
  t_MOST_UNDER : Tok
  m_MOST_UNDER : mg "MOST_UNDER" = some (.int 1000 t_MOST_UNDER)
def d_is_whole : He.DefD := ⟨("is_whole", none), "is_whole", "is_whole", defArgs s_is_whole, defBody s_is_whole, defScope s_is_whole, [], []⟩
def d_is_between : He.DefD := ⟨("is_between", none), "is_between", "is_between", defArgs s_is_between, defBody s_is_between, defScope s_is_between, [], []⟩
def d_bits_of : He.DefD := ⟨("bits_of", none), "bits_of", "bits_of", defArgs s_bits_of, defBody s_bits_of, defScope s_bits_of, [], []⟩
def d_common_divisor : He.DefD := ⟨("common_divisor", none), "common_divisor", "common_divisor", defArgs s_common_divisor, defBody s_common_divisor, defScope s_common_divisor, [], []⟩
def d_fraction : He.DefD := ⟨("fraction", none), "fraction", "fraction", defArgs s_fraction, defBody s_fraction, defScope s_fraction, [], []⟩
def d_check_number : He.DefD := ⟨("check_number", none), "check_number", "check_number", defArgs s_check_number, defBody s_check_number, defScope s_check_number, [], []⟩
def d_sum_of : He.DefD := ⟨("sum_of", none), "sum_of", "sum_of", defArgs s_sum_of, defBody s_sum_of, defScope s_sum_of, [], []⟩
def d_check_check : He.DefD := ⟨("check_check", none), "check_check", "check_check", defArgs s_check_check, defBody s_check_check, defScope s_check_check, [], []⟩
def d_shifted : He.DefD := ⟨("shifted", none), "shifted", "shifted", defArgs s_shifted, defBody s_shifted, defScope s_shifted, [], []⟩
def d_powers_of : He.DefD := ⟨("powers_of", none), "powers_of", "powers_of", defArgs s_powers_of, defBody s_powers_of, defScope s_powers_of, [], []⟩
def d_order : He.DefD := ⟨("order", none), "order", "order", defArgs s_order, defBody s_order, defScope s_order, [], []⟩
def d_ones_in : He.DefD := ⟨("ones_in", none), "ones_in", "ones_in", defArgs s_ones_in, defBody s_ones_in, defScope s_ones_in, [], []⟩
def d_all_odd : He.DefD := ⟨("all_odd", none), "all_odd", "all_odd", defArgs s_all_odd, defBody s_all_odd, defScope s_all_odd, [], []⟩
def d_sums_turned : He.DefD := ⟨("sums_turned", none), "sums_turned", "sums_turned", defArgs s_sums_turned, defBody s_sums_turned, defScope s_sums_turned, [], []⟩
def d_masks_by_ones : He.DefD := ⟨("masks_by_ones", none), "masks_by_ones", "masks_by_ones", defArgs s_masks_by_ones, defBody s_masks_by_ones, defScope s_masks_by_ones, [], []⟩
def d_sets_of : He.DefD := ⟨("sets_of", none), "sets_of", "sets_of", defArgs s_sets_of, defBody s_sets_of, defScope s_sets_of, [], []⟩
def d_signed_sets : He.DefD := ⟨("signed_sets", none), "signed_sets", "signed_sets", defArgs s_signed_sets, defBody s_signed_sets, defScope s_signed_sets, [], []⟩
def d_raised : He.DefD := ⟨("raised", none), "raised", "raised", defArgs s_raised, defBody s_raised, defScope s_raised, [], []⟩
def d_check_counted : He.DefD := ⟨("check_counted", none), "check_counted", "check_counted", defArgs s_check_counted, defBody s_check_counted, defScope s_check_counted, [], []⟩
def d_how_many_unseen : He.DefD := ⟨("how_many_unseen", none), "how_many_unseen", "how_many_unseen", defArgs s_how_many_unseen, defBody s_how_many_unseen, defScope s_how_many_unseen, [], []⟩
def d_chance : He.DefD := ⟨("chance", none), "chance", "chance", defArgs s_chance, defBody s_chance, defScope s_chance, [], []⟩
def d_law_hash : He.DefD := ⟨("_law_hash", none), "_law_hash", "_law_hash", defArgs s_law_hash, defBody s_law_hash, defScope s_law_hash, [], []⟩
def d_law_random : He.DefD := ⟨("_law_random", none), "_law_random", "_law_random", defArgs s_law_random, defBody s_law_random, defScope s_law_random, [], []⟩
def d_law_cell : He.DefD := ⟨("_law_cell", none), "_law_cell", "_law_cell", defArgs s_law_cell, defBody s_law_cell, defScope s_law_cell, [], []⟩
def d_law_generator : He.DefD := ⟨("_law_generator", none), "_law_generator", "_law_generator", defArgs s_law_generator, defBody s_law_generator, defScope s_law_generator, [], []⟩
def d_law_rest : He.DefD := ⟨("_law_rest", none), "_law_rest", "_law_rest", defArgs s_law_rest, defBody s_law_rest, defScope s_law_rest, [], []⟩
def d_law_drawn : He.DefD := ⟨("_law_drawn", none), "_law_drawn", "_law_drawn", defArgs s_law_drawn, defBody s_law_drawn, defScope s_law_drawn, [], []⟩
def d_law_places : He.DefD := ⟨("_law_places", none), "_law_places", "_law_places", defArgs s_law_places, defBody s_law_places, defScope s_law_places, [], []⟩
def d_law_lowest : He.DefD := ⟨("_law_lowest", none), "_law_lowest", "_law_lowest", defArgs s_law_lowest, defBody s_law_lowest, defScope s_law_lowest, [], []⟩
def d_law_raised : He.DefD := ⟨("_law_raised", none), "_law_raised", "_law_raised", defArgs s_law_raised, defBody s_law_raised, defScope s_law_raised, [], []⟩
def d_law_small_right : He.DefD := ⟨("_law_small_right", none), "_law_small_right", "_law_small_right", defArgs s_law_small_right, defBody s_law_small_right, defScope s_law_small_right, [], []⟩
def d_law_threes : He.DefD := ⟨("_law_threes", none), "_law_threes", "_law_threes", defArgs s_law_threes, defBody s_law_threes, defScope s_law_threes, [], []⟩
def d_law_pairs : He.DefD := ⟨("_law_pairs", none), "_law_pairs", "_law_pairs", defArgs s_law_pairs, defBody s_law_pairs, defScope s_law_pairs, [], []⟩
def d_law_great_right : He.DefD := ⟨("_law_great_right", none), "_law_great_right", "_law_great_right", defArgs s_law_great_right, defBody s_law_great_right, defScope s_law_great_right, [], []⟩
def d_law : He.DefD := ⟨("law", none), "law", "law", defArgs s_law, defBody s_law, defScope s_law, [], []⟩
def d_Check___init__ : He.DefD := ⟨("Check", some "__init__"), "__init__", "Check.__init__", defArgs s_Check___init__, defBody s_Check___init__, defScope s_Check___init__, [], []⟩
def fn : List He.DefD := [d_is_whole, d_is_between, d_bits_of, d_common_divisor, d_fraction, d_check_number, d_sum_of, d_check_check, d_shifted, d_powers_of, d_order, d_ones_in, d_all_odd, d_sums_turned, d_masks_by_ones, d_sets_of, d_signed_sets, d_raised, d_check_counted, d_how_many_unseen, d_chance, d_law_hash, d_law_random, d_law_cell, d_law_generator, d_law_rest, d_law_drawn, d_law_places, d_law_lowest, d_law_raised, d_law_small_right, d_law_threes, d_law_pairs, d_law_great_right, d_law, d_Check___init__]
def fa0 : List He.Fa := [.glo "is_whole", .glo "is_between", .glo "bits_of", .glo "common_divisor", .glo "fraction", .glo "check_number", .glo "sum_of", .glo "check_check", .glo "shifted", .glo "powers_of", .glo "order", .glo "ones_in", .glo "all_odd", .glo "sums_turned", .glo "masks_by_ones", .glo "sets_of", .glo "signed_sets", .glo "raised", .glo "check_counted", .glo "how_many_unseen", .glo "chance", .glo "_law_hash", .glo "_law_random", .glo "_law_cell", .glo "_law_generator", .glo "_law_rest", .glo "_law_drawn", .glo "_law_places", .glo "_law_lowest", .glo "_law_raised"]
def fa1 : List He.Fa := [.glo "_law_small_right", .glo "_law_threes", .glo "_law_pairs", .glo "_law_great_right", .glo "law", .free "len", .free "sum", .free "max", .free "int", .free "bool", .free "list", .free "range", .free "isinstance", .free "abs", .free "enumerate", .int "MOST_WIDTH" 16, .int "MOST_PLACE" 1000000000000000000, .int "MOST_COUNTED" 10, .int "MOST_FEW" 8, .int "MOST_TURNED" 60, .int "MOST_UNDER" 1000, .glo "Check", .cls "Check", .noat "Check" "size", .noat "Check" "tail", .mkr "Check", .meth "Check" "__init__"]
def fa : List He.Fa := fa0 ++ fa1
/-- isinstance of an own class -/
def insB (K : PySem.W.Frag) (x : Str) : Bool := decide (PySem.W.findIn K (.ref (He.ga K x)) "__class__" = some (some (.builtin "object.__class__"))) && (decide (PySem.W.specialIn K (.builtin "object.__class__") "__get__" = some (some (.builtin "getset_descriptor.__get__"))) && (decide (PySem.W.takesIn K (.builtin "object.__class__") = some true) && (decide (PySem.W.mroIn K (He.ga K x) (.type "object") = some true) && decide (PySem.W.kitOne K (.ref (He.ga K x)) (.ref (He.ga K x)) = some true))))
theorem insB_ok {K : PySem.W.Frag} {x : Str} (cl : Cls K (He.ga K x)) (h : insB K x = true) : C8.InsC K (He.ga K x) := by
  unfold insB at h
  simp only [Bool.and_eq_true, decide_eq_true_eq] at h
  exact ⟨cl, h.1, h.2.1, h.2.2.1, h.2.2.2.1, h.2.2.2.2⟩
def eqB (K : PySem.W.Frag) (x : Str) : Bool := decide (PySem.W.findIn K (.ref (He.ga K x)) "__ne__" = some (some (.builtin "object.__ne__"))) && (decide (PySem.W.subIn K (.ref (He.ga K x)) (.type "object") = some true) && (decide (PySem.W.subIn K (.type "list") (.ref (He.ga K x)) = some false) && (decide (PySem.W.kitOne K (.type "list") (.ref (He.ga K x)) = some false) && (decide (PySem.W.subIn K (.type "tuple") (.ref (He.ga K x)) = some false) && decide (PySem.W.kitOne K (.type "tuple") (.ref (He.ga K x)) = some false)))))
def eqs : List Str := []
def own : List Str := ["Check"]
def ex (K : PySem.W.Frag) : Bool := (own.all fun x => insB K x) && eqs.all fun x => eqB K x
abbrev R : PySem.W.OpenRow := PySem.W.OpenLaw.row PySem.Challenge.rw_wholesound_k66_whole_counts_of_the_unsee
/-- properties: the getter's place, what is asked of it -/
def pgA (K : PySem.W.Frag) (x f : Str) : Addr := match PySem.W.recIn K (He.ma K (He.ga K x) f) "property" with
  | some (.ref a :: _) => a
  | _ => 0
def prB (K : PySem.W.Frag) (x f q : Str) : Bool := decide (PySem.W.findIn K (.ref (He.ga K x)) f = some (some (.ref (He.ma K (He.ga K x) f)))) && (decide (PySem.W.specialIn K (.ref (He.ma K (He.ga K x) f)) "__get__" = some (some (.builtin "property.__get__"))) && (decide (PySem.W.takesIn K (.ref (He.ma K (He.ga K x) f)) = some true) && ((match PySem.W.recIn K (He.ma K (He.ga K x) f) "property" with
  | some (.ref _ :: _) => true
  | _ => false) && (PySem.W.keepIn K (.ref (pgA K x f)) && (match K.lookup (pgA K x f) with
  | some ⟨_, _, .func fd, _⟩ => PySem.W.codeIn K fd.code q && (He.dflB K fd.defaults [] && He.kwdB K fd.kwdefaults [])
  | _ => false)))))
def prW (K : PySem.W.Frag) (x f : Str) : He.FnW := match K.lookup (pgA K x f) with
  | some ⟨_, _, .func fd, _⟩ => some (fd.name, fd.qualname, fd.params, fd.body, fd.scope, fd.globals, fd.closure, fd.builtins)
  | _ => none
theorem prop_ok {K : PySem.W.Frag} {z : Str × Str × Str} (h : prB K z.1 z.2.1 z.2.2 = true) : PropOf K (He.ga K z.1) z.2.1 (He.ma K (He.ga K z.1) z.2.1) (pgA K z.1 z.2.1) := by
  obtain ⟨h1, h⟩ := He.ba h
  obtain ⟨h2, h⟩ := He.ba h
  obtain ⟨h3, h⟩ := He.ba h
  obtain ⟨h4, _⟩ := He.ba h
  refine ⟨of_decide_eq_true h1, of_decide_eq_true h2, of_decide_eq_true h3, ?_⟩
  unfold pgA
  cases e : PySem.W.recIn K (He.ma K (He.ga K z.1) z.2.1) "property" with
  | none => rw [e] at h4; cases h4
  | some l =>
    cases l with
    | nil => rw [e] at h4; cases h4
    | cons v r =>
      cases v with
      | ref a => exact ⟨r, rfl⟩
      | _ => rw [e] at h4; cases h4
theorem prop_fn {K : PySem.W.Frag} {z : Str × Str × Str} {name : Str} {params : Arguments} {body : List Stmt} {scope : Scope} (h : prB K z.1 z.2.1 z.2.2 = true) (e : prW K z.1 z.2.1 = some (name, z.2.2, params, .stmts body, scope, mainGlobals, [], builtinsNs)) : ∃ fd, FunD K name z.2.2 params body scope [] [] (pgA K z.1 z.2.1) fd := by
  obtain ⟨_, h⟩ := He.ba h
  obtain ⟨_, h⟩ := He.ba h
  obtain ⟨_, h⟩ := He.ba h
  obtain ⟨_, h⟩ := He.ba h
  obtain ⟨kp, c2⟩ := He.ba h
  unfold prW at e
  cases q : K.lookup (pgA K z.1 z.2.1) with
  | none => rw [q] at c2; cases c2
  | some o =>
    obtain ⟨oc, od, dt, osl⟩ := o
    rw [q] at c2 e
    cases dt with
    | func fd =>
      obtain ⟨n1, n2, n3, n4, n5, n6, n7, n8, n9, n10, n11, n12, n13, n14, n15⟩ := fd
      have e2 : (some (n1, n2, n3, n4, n5, n6, n7, n15) : He.FnW) = some (name, z.2.2, params, .stmts body, scope, mainGlobals, [], builtinsNs) := e
      simp only [Option.some.injEq, Prod.mk.injEq] at e2
      obtain ⟨h1, h2, h3, h4, h5, h6, h7, h8⟩ := e2
      subst h1 h2 h3 h4 h5 h6 h7 h8
      obtain ⟨k1, k2⟩ := He.ba (show (PySem.W.codeIn K n13 z.2.2 && (He.dflB K n8 [] && He.kwdB K n9 [])) = true from c2)
      obtain ⟨k3, k4⟩ := He.ba k2
      exact ⟨_, ⟨oc, od, n8, n9, n10, n11, n12, n13, n14, osl, rfl, q, k1, He.dflB_ok k3, He.kwdB_ok k4⟩, kp⟩
    | _ => cases c2
theorem prV_at {K : PySem.W.Frag} {ps : List (Str × Str × Str)} {vs : List He.FnW} (e : (ps.map fun z => prW K z.1 z.2.1) = vs) (i : Nat) {z : Str × Str × Str} {v : He.FnW} (hz : ps[i]? = some z) (hv : vs[i]? = some v) : prW K z.1 z.2.1 = v := by
  rw [← e, List.getElem?_map, hz] at hv
  exact Option.some.inj hv
def prs : List (Str × Str × Str) := [("Check", "width", "Check.width"), ("Check", "low", "Check.low")]
def prV : List He.FnW := [some ("width", "Check.width", defArgs s_Check_width, .stmts (defBody s_Check_width), defScope s_Check_width, mainGlobals, [], builtinsNs), some ("low", "Check.low", defArgs s_Check_low, .stmts (defBody s_Check_low), defScope s_Check_low, mainGlobals, [], builtinsNs)]
def exP (K : PySem.W.Frag) : Bool := ex K && prs.all fun z => prB K z.1 z.2.1 z.2.2
def exW (K : PySem.W.Frag) : List He.FnW := prs.map fun z => prW K z.1 z.2.1
abbrev Al : Type := He.AlD × Bool × List He.FnW
def obsG (g : Addr → Option Obj) : Al := (He.obsDG 5 fa fn g, exP (He.frG g (He.asD g 5)), exW (He.frG g (He.asD g 5)))
def Says (K : PySem.W.Frag) : Prop := He.SaysD fa fn K ∧ ex K = true ∧ (∀ z ∈ prs, prB K z.1 z.2.1 z.2.2 = true) ∧ exW K = prV
theorem says_of {K : PySem.W.Frag} (e : (He.obsD fa fn K, exP K, exW K) = ((He.valD fn, true, prV) : Al)) : Says K := by
  have e1 := congrArg Prod.fst e
  have e2 := congrArg (fun z : Al => z.2.1) e
  have e3 := congrArg (fun z : Al => z.2.2) e
  have e4 := Bool.and_eq_true_iff.mp e2
  exact ⟨e1, e4.1, List.all_eq_true.mp e4.2, e3⟩
def hk : PySem.W.Hook where
  α := Al
  obs := fun s => obsG s.heap.get?
  val := fun _ => (He.valD fn, true, prV)
  says := fun _ h => ∃ K : PySem.W.Frag, K.In h ∧ Says K
  of := fun _ _ e => ⟨_, He.frG_in, says_of e⟩
  keeps := fun _ _ _ ⟨K, hK, c⟩ k => ⟨K, PySem.W.Frag.In.keeps hK k, c⟩
def ob (s : PySem.W.SharedT) : Al := obsG (HandSHeadRun.getT s)
theorem ob_eq (s : PySem.W.SharedT) : ob s = hk.obs s.abs := by
  have e : HandSHeadRun.getT s = s.abs.heap.get? := funext (HandSHeadRun.getT_eq s)
  show obsG (HandSHeadRun.getT s) = obsG s.abs.heap.get?
  rw [e]
def loose0 : List PySem.Str := ["SoundError", "InvalidNumber", "InvalidCheck", "is_whole", "is_between", "bits_of", "common_divisor", "fraction", "check_number", "MOST_WIDTH", "MOST_PLACE", "Check", "sum_of", "check_check", "shifted", "powers_of", "order", "ones_in", "all_odd", "MOST_COUNTED", "MOST_FEW", "MOST_TURNED", "MOST_UNDER", "sums_turned", "masks_by_ones", "sets_of", "signed_sets", "raised", "check_counted", "how_many_unseen"]
def loose1 : List PySem.Str := ["chance", "_law_hash", "_law_random", "_law_cell", "_law_generator", "_law_rest", "_law_drawn", "_law_places", "_law_lowest", "_law_raised", "_law_small_right", "_law_threes", "_law_pairs", "_law_great_right"]
abbrev loose : List PySem.Str := loose0 ++ loose1
theorem run (w : World) : HandSHeadRun.RunEq R (PySem.W.view R.prog [49]) hk ob 8000 loose w := by
  intro os
  kernel_rfl
noncomputable def top_mk {K : PySem.W.Frag} {h : Heap} {mg : Str → Option Value} (X : K.In h) (G : h.Ns mainGlobals mg) (c : Says K) : Top K mg :=
  let p0 := c.1.def_ 0 (d := d_is_whole) rfl
  let p1 := c.1.def_ 1 (d := d_is_between) rfl
  let p2 := c.1.def_ 2 (d := d_bits_of) rfl
  let p3 := c.1.def_ 3 (d := d_common_divisor) rfl
  let p4 := c.1.def_ 4 (d := d_fraction) rfl
  let p5 := c.1.def_ 5 (d := d_check_number) rfl
  let p6 := c.1.def_ 6 (d := d_sum_of) rfl
  let p7 := c.1.def_ 7 (d := d_check_check) rfl
  let p8 := c.1.def_ 8 (d := d_shifted) rfl
  let p9 := c.1.def_ 9 (d := d_powers_of) rfl
  let p10 := c.1.def_ 10 (d := d_order) rfl
  let p11 := c.1.def_ 11 (d := d_ones_in) rfl
  let p12 := c.1.def_ 12 (d := d_all_odd) rfl
  let p13 := c.1.def_ 13 (d := d_sums_turned) rfl
  let p14 := c.1.def_ 14 (d := d_masks_by_ones) rfl
  let p15 := c.1.def_ 15 (d := d_sets_of) rfl
  let p16 := c.1.def_ 16 (d := d_signed_sets) rfl
  let p17 := c.1.def_ 17 (d := d_raised) rfl
  let p18 := c.1.def_ 18 (d := d_check_counted) rfl
  let p19 := c.1.def_ 19 (d := d_how_many_unseen) rfl
  let p20 := c.1.def_ 20 (d := d_chance) rfl
  let p21 := c.1.def_ 21 (d := d_law_hash) rfl
  let p22 := c.1.def_ 22 (d := d_law_random) rfl
  let p23 := c.1.def_ 23 (d := d_law_cell) rfl
  let p24 := c.1.def_ 24 (d := d_law_generator) rfl
  let p25 := c.1.def_ 25 (d := d_law_rest) rfl
  let p26 := c.1.def_ 26 (d := d_law_drawn) rfl
  let p27 := c.1.def_ 27 (d := d_law_places) rfl
  let p28 := c.1.def_ 28 (d := d_law_lowest) rfl
  let p29 := c.1.def_ 29 (d := d_law_raised) rfl
  let p30 := c.1.def_ 30 (d := d_law_small_right) rfl
  let p31 := c.1.def_ 31 (d := d_law_threes) rfl
  let p32 := c.1.def_ 32 (d := d_law_pairs) rfl
  let p33 := c.1.def_ 33 (d := d_law_great_right) rfl
  let p34 := c.1.def_ 34 (d := d_law) rfl
  let p35 := c.1.def_ 35 (d := d_Check___init__) rfl
  let q0 := He.int_ok X G (c.1.fact 45 (f := .int "MOST_WIDTH" 16) rfl)
  let q1 := He.int_ok X G (c.1.fact 46 (f := .int "MOST_PLACE" 1000000000000000000) rfl)
  let q2 := He.int_ok X G (c.1.fact 47 (f := .int "MOST_COUNTED" 10) rfl)
  let q3 := He.int_ok X G (c.1.fact 48 (f := .int "MOST_FEW" 8) rfl)
  let q4 := He.int_ok X G (c.1.fact 49 (f := .int "MOST_TURNED" 60) rfl)
  let q5 := He.int_ok X G (c.1.fact 50 (f := .int "MOST_UNDER" 1000) rfl)
  let r0 := prop_fn (c.2.2.1 ("Check", "width", "Check.width") (by decide +kernel)) (prV_at c.2.2.2 0 (z := ("Check", "width", "Check.width")) rfl rfl)
  let r1 := prop_fn (c.2.2.1 ("Check", "low", "Check.low") (by decide +kernel)) (prV_at c.2.2.2 1 (z := ("Check", "low", "Check.low")) rfl rfl)
  { C_Check := _, gc_Check := He.glo_ok X G (c.1.fact 51 (f := .glo "Check") rfl), cl_Check := He.cls_ok (c.1.fact 52 (f := .cls "Check") rfl), ic_Check := insB_ok (x := "Check") (He.cls_ok (c.1.fact 52 (f := .cls "Check") rfl)) (List.all_eq_true.mp (Bool.and_eq_true_iff.mp c.2.1).1 "Check" (by decide +kernel)),
    na_Check_size := He.noat_ok (c.1.fact 53 (f := .noat "Check" "size") rfl),
    na_Check_tail := He.noat_ok (c.1.fact 54 (f := .noat "Check" "tail") rfl),
    f_is_whole := _, fd_is_whole := p0.choose, F_is_whole := p0.choose_spec, b_is_whole := p0.choose_spec.bindsN fun _ _ _ _ _ _ us hl => match us, hl with | [_], _ => rfl, g_is_whole := He.glo_ok X G (c.1.fact 0 (f := .glo "is_whole") rfl),
    f_is_between := _, fd_is_between := p1.choose, F_is_between := p1.choose_spec, b_is_between := p1.choose_spec.bindsN fun _ _ _ _ _ _ us hl => match us, hl with | [_, _, _], _ => rfl, g_is_between := He.glo_ok X G (c.1.fact 1 (f := .glo "is_between") rfl),
    f_bits_of := _, fd_bits_of := p2.choose, F_bits_of := p2.choose_spec, b_bits_of := p2.choose_spec.bindsN fun _ _ _ _ _ _ us hl => match us, hl with | [_, _], _ => rfl, g_bits_of := He.glo_ok X G (c.1.fact 2 (f := .glo "bits_of") rfl),
    f_common_divisor := _, fd_common_divisor := p3.choose, F_common_divisor := p3.choose_spec, b_common_divisor := p3.choose_spec.bindsN fun _ _ _ _ _ _ us hl => match us, hl with | [_, _], _ => rfl, g_common_divisor := He.glo_ok X G (c.1.fact 3 (f := .glo "common_divisor") rfl),
    f_fraction := _, fd_fraction := p4.choose, F_fraction := p4.choose_spec, b_fraction := p4.choose_spec.bindsN fun _ _ _ _ _ _ us hl => match us, hl with | [_, _], _ => rfl, g_fraction := He.glo_ok X G (c.1.fact 4 (f := .glo "fraction") rfl),
    f_check_number := _, fd_check_number := p5.choose, F_check_number := p5.choose_spec, b_check_number := p5.choose_spec.bindsN fun _ _ _ _ _ _ us hl => match us, hl with | [_, _, _], _ => rfl, g_check_number := He.glo_ok X G (c.1.fact 5 (f := .glo "check_number") rfl),
    f_sum_of := _, fd_sum_of := p6.choose, F_sum_of := p6.choose_spec, b_sum_of := p6.choose_spec.bindsN fun _ _ _ _ _ _ us hl => match us, hl with | [_], _ => rfl, g_sum_of := He.glo_ok X G (c.1.fact 6 (f := .glo "sum_of") rfl),
    f_check_check := _, fd_check_check := p7.choose, F_check_check := p7.choose_spec, b_check_check := p7.choose_spec.bindsN fun _ _ _ _ _ _ us hl => match us, hl with | [_], _ => rfl, g_check_check := He.glo_ok X G (c.1.fact 7 (f := .glo "check_check") rfl),
    f_shifted := _, fd_shifted := p8.choose, F_shifted := p8.choose_spec, b_shifted := p8.choose_spec.bindsN fun _ _ _ _ _ _ us hl => match us, hl with | [_, _], _ => rfl, g_shifted := He.glo_ok X G (c.1.fact 8 (f := .glo "shifted") rfl),
    f_powers_of := _, fd_powers_of := p9.choose, F_powers_of := p9.choose_spec, b_powers_of := p9.choose_spec.bindsN fun _ _ _ _ _ _ us hl => match us, hl with | [_], _ => rfl, g_powers_of := He.glo_ok X G (c.1.fact 9 (f := .glo "powers_of") rfl),
    f_order := _, fd_order := p10.choose, F_order := p10.choose_spec, b_order := p10.choose_spec.bindsN fun _ _ _ _ _ _ us hl => match us, hl with | [_], _ => rfl, g_order := He.glo_ok X G (c.1.fact 10 (f := .glo "order") rfl),
    f_ones_in := _, fd_ones_in := p11.choose, F_ones_in := p11.choose_spec, b_ones_in := p11.choose_spec.bindsN fun _ _ _ _ _ _ us hl => match us, hl with | [_], _ => rfl, g_ones_in := He.glo_ok X G (c.1.fact 11 (f := .glo "ones_in") rfl),
    f_all_odd := _, fd_all_odd := p12.choose, F_all_odd := p12.choose_spec, b_all_odd := p12.choose_spec.bindsN fun _ _ _ _ _ _ us hl => match us, hl with | [_], _ => rfl, g_all_odd := He.glo_ok X G (c.1.fact 12 (f := .glo "all_odd") rfl),
    f_sums_turned := _, fd_sums_turned := p13.choose, F_sums_turned := p13.choose_spec, b_sums_turned := p13.choose_spec.bindsN fun _ _ _ _ _ _ us hl => match us, hl with | [_], _ => rfl, g_sums_turned := He.glo_ok X G (c.1.fact 13 (f := .glo "sums_turned") rfl),
    f_masks_by_ones := _, fd_masks_by_ones := p14.choose, F_masks_by_ones := p14.choose_spec, b_masks_by_ones := p14.choose_spec.bindsN fun _ _ _ _ _ _ us hl => match us, hl with | [_, _], _ => rfl, g_masks_by_ones := He.glo_ok X G (c.1.fact 14 (f := .glo "masks_by_ones") rfl),
    f_sets_of := _, fd_sets_of := p15.choose, F_sets_of := p15.choose_spec, b_sets_of := p15.choose_spec.bindsN fun _ _ _ _ _ _ us hl => match us, hl with | [_, _], _ => rfl, g_sets_of := He.glo_ok X G (c.1.fact 15 (f := .glo "sets_of") rfl),
    f_signed_sets := _, fd_signed_sets := p16.choose, F_signed_sets := p16.choose_spec, b_signed_sets := p16.choose_spec.bindsN fun _ _ _ _ _ _ us hl => match us, hl with | [_, _, _], _ => rfl, g_signed_sets := He.glo_ok X G (c.1.fact 16 (f := .glo "signed_sets") rfl),
    f_raised := _, fd_raised := p17.choose, F_raised := p17.choose_spec, b_raised := p17.choose_spec.bindsN fun _ _ _ _ _ _ us hl => match us, hl with | [_, _], _ => rfl, g_raised := He.glo_ok X G (c.1.fact 17 (f := .glo "raised") rfl),
    f_check_counted := _, fd_check_counted := p18.choose, F_check_counted := p18.choose_spec, b_check_counted := p18.choose_spec.bindsN fun _ _ _ _ _ _ us hl => match us, hl with | [_], _ => rfl, g_check_counted := He.glo_ok X G (c.1.fact 18 (f := .glo "check_counted") rfl),
    f_how_many_unseen := _, fd_how_many_unseen := p19.choose, F_how_many_unseen := p19.choose_spec, b_how_many_unseen := p19.choose_spec.bindsN fun _ _ _ _ _ _ us hl => match us, hl with | [_, _, _], _ => rfl, g_how_many_unseen := He.glo_ok X G (c.1.fact 19 (f := .glo "how_many_unseen") rfl),
    f_chance := _, fd_chance := p20.choose, F_chance := p20.choose_spec, b_chance := p20.choose_spec.bindsN fun _ _ _ _ _ _ us hl => match us, hl with | [_, _, _, _], _ => rfl, g_chance := He.glo_ok X G (c.1.fact 20 (f := .glo "chance") rfl),
    f_law_hash := _, fd_law_hash := p21.choose, F_law_hash := p21.choose_spec, b_law_hash := p21.choose_spec.bindsN fun _ _ _ _ _ _ us hl => match us, hl with | [_, _], _ => rfl, g_law_hash := He.glo_ok X G (c.1.fact 21 (f := .glo "_law_hash") rfl),
    f_law_random := _, fd_law_random := p22.choose, F_law_random := p22.choose_spec, b_law_random := p22.choose_spec.bindsN fun _ _ _ _ _ _ us hl => match us, hl with | [_, _], _ => rfl, g_law_random := He.glo_ok X G (c.1.fact 22 (f := .glo "_law_random") rfl),
    f_law_cell := _, fd_law_cell := p23.choose, F_law_cell := p23.choose_spec, b_law_cell := p23.choose_spec.bindsN fun _ _ _ _ _ _ us hl => match us, hl with | [_, _], _ => rfl, g_law_cell := He.glo_ok X G (c.1.fact 23 (f := .glo "_law_cell") rfl),
    f_law_generator := _, fd_law_generator := p24.choose, F_law_generator := p24.choose_spec, b_law_generator := p24.choose_spec.bindsN fun _ _ _ _ _ _ us hl => match us, hl with | [_, _], _ => rfl, g_law_generator := He.glo_ok X G (c.1.fact 24 (f := .glo "_law_generator") rfl),
    f_law_rest := _, fd_law_rest := p25.choose, F_law_rest := p25.choose_spec, b_law_rest := p25.choose_spec.bindsN fun _ _ _ _ _ _ us hl => match us, hl with | [_, _], _ => rfl, g_law_rest := He.glo_ok X G (c.1.fact 25 (f := .glo "_law_rest") rfl),
    f_law_drawn := _, fd_law_drawn := p26.choose, F_law_drawn := p26.choose_spec, b_law_drawn := p26.choose_spec.bindsN fun _ _ _ _ _ _ us hl => match us, hl with | [_, _], _ => rfl, g_law_drawn := He.glo_ok X G (c.1.fact 26 (f := .glo "_law_drawn") rfl),
    f_law_places := _, fd_law_places := p27.choose, F_law_places := p27.choose_spec, b_law_places := p27.choose_spec.bindsN fun _ _ _ _ _ _ us hl => match us, hl with | [_], _ => rfl, g_law_places := He.glo_ok X G (c.1.fact 27 (f := .glo "_law_places") rfl),
    f_law_lowest := _, fd_law_lowest := p28.choose, F_law_lowest := p28.choose_spec, b_law_lowest := p28.choose_spec.bindsN fun _ _ _ _ _ _ us hl => match us, hl with | [_, _], _ => rfl, g_law_lowest := He.glo_ok X G (c.1.fact 28 (f := .glo "_law_lowest") rfl),
    f_law_raised := _, fd_law_raised := p29.choose, F_law_raised := p29.choose_spec, b_law_raised := p29.choose_spec.bindsN fun _ _ _ _ _ _ us hl => match us, hl with | [_, _], _ => rfl, g_law_raised := He.glo_ok X G (c.1.fact 29 (f := .glo "_law_raised") rfl),
    f_law_small_right := _, fd_law_small_right := p30.choose, F_law_small_right := p30.choose_spec, b_law_small_right := p30.choose_spec.bindsN fun _ _ _ _ _ _ us hl => match us, hl with | [_, _, _, _], _ => rfl, g_law_small_right := He.glo_ok X G (c.1.fact 30 (f := .glo "_law_small_right") rfl),
    f_law_threes := _, fd_law_threes := p31.choose, F_law_threes := p31.choose_spec, b_law_threes := p31.choose_spec.bindsN fun _ _ _ _ _ _ us hl => match us, hl with | [_, _], _ => rfl, g_law_threes := He.glo_ok X G (c.1.fact 31 (f := .glo "_law_threes") rfl),
    f_law_pairs := _, fd_law_pairs := p32.choose, F_law_pairs := p32.choose_spec, b_law_pairs := p32.choose_spec.bindsN fun _ _ _ _ _ _ us hl => match us, hl with | [_, _], _ => rfl, g_law_pairs := He.glo_ok X G (c.1.fact 32 (f := .glo "_law_pairs") rfl),
    f_law_great_right := _, fd_law_great_right := p33.choose, F_law_great_right := p33.choose_spec, b_law_great_right := p33.choose_spec.bindsN fun _ _ _ _ _ _ us hl => match us, hl with | [_, _, _, _], _ => rfl, g_law_great_right := He.glo_ok X G (c.1.fact 33 (f := .glo "_law_great_right") rfl),
    f_law := _, fd_law := p34.choose, F_law := p34.choose_spec, b_law := p34.choose_spec.bindsN fun _ _ _ _ _ _ us hl => match us, hl with | [_], _ => rfl, g_law := He.glo_ok X G (c.1.fact 34 (f := .glo "law") rfl),
    f_Check___init__ := _, fd_Check___init__ := p35.choose, F_Check___init__ := p35.choose_spec, b_Check___init__ := p35.choose_spec.bindsN fun _ _ _ _ _ _ us hl => match us, hl with | [_, _, _], _ => rfl, me_Check___init__ := He.meth_ok (c.1.fact 56 (f := .meth "Check" "__init__") rfl), mk_Check := He.mkr_ok (c.1.fact 55 (f := .mkr "Check") rfl),
    pp_Check_width := _, pg_Check_width := _, po_Check_width := prop_ok (c.2.2.1 ("Check", "width", "Check.width") (by decide +kernel)), fdp_Check_width := r0.choose, Fp_Check_width := r0.choose_spec, bp_Check_width := r0.choose_spec.bindsN fun _ _ _ _ _ _ us hl => match us, hl with | [_], _ => rfl,
    pp_Check_low := _, pg_Check_low := _, po_Check_low := prop_ok (c.2.2.1 ("Check", "low", "Check.low") (by decide +kernel)), fdp_Check_low := r1.choose, Fp_Check_low := r1.choose_spec, bp_Check_low := r1.choose_spec.bindsN fun _ _ _ _ _ _ us hl => match us, hl with | [_], _ => rfl,
    n_len := He.free_ok X G (c.1.fact 35 (f := .free "len") rfl),
    n_sum := He.free_ok X G (c.1.fact 36 (f := .free "sum") rfl),
    n_max := He.free_ok X G (c.1.fact 37 (f := .free "max") rfl),
    n_int := He.free_ok X G (c.1.fact 38 (f := .free "int") rfl),
    n_bool := He.free_ok X G (c.1.fact 39 (f := .free "bool") rfl),
    n_list := He.free_ok X G (c.1.fact 40 (f := .free "list") rfl),
    n_range := He.free_ok X G (c.1.fact 41 (f := .free "range") rfl),
    n_isinstance := He.free_ok X G (c.1.fact 42 (f := .free "isinstance") rfl),
    n_abs := He.free_ok X G (c.1.fact 43 (f := .free "abs") rfl),
    n_enumerate := He.free_ok X G (c.1.fact 44 (f := .free "enumerate") rfl),
    t_MOST_WIDTH := q0.choose, m_MOST_WIDTH := q0.choose_spec,
    t_MOST_PLACE := q1.choose, m_MOST_PLACE := q1.choose_spec,
    t_MOST_COUNTED := q2.choose, m_MOST_COUNTED := q2.choose_spec,
    t_MOST_FEW := q3.choose, m_MOST_FEW := q3.choose_spec,
    t_MOST_TURNED := q4.choose, m_MOST_TURNED := q4.choose_spec,
    t_MOST_UNDER := q5.choose, m_MOST_UNDER := q5.choose_spec }
theorem G_Check_width {P : Program} {w : World} {K : PySem.W.Frag} {mg : Str → Option Value} {base : Heap} (T : Top K mg) : FnOk P w K mg base CX0 1 T.pg_Check_width T.fdp_Check_width ["self"] (getSp T.C_Check "size") := by
  obtain ⟨oc, od, dV, kV, doc, pm, an, cdv, ct, osl, e, lk, hcd, _, _⟩ := T.Fp_Check_width.ex
  rw [e] at lk ⊢
  exact fn_getter lk hcd sc_Check_width rfl rfl T.cl_Check T.na_Check_size
theorem G_Check_low {P : Program} {w : World} {K : PySem.W.Frag} {mg : Str → Option Value} {base : Heap} (T : Top K mg) : FnOk P w K mg base CX0 1 T.pg_Check_low T.fdp_Check_low ["self"] (getSp T.C_Check "tail") := by
  obtain ⟨oc, od, dV, kV, doc, pm, an, cdv, ct, osl, e, lk, hcd, _, _⟩ := T.Fp_Check_low.ex
  rw [e] at lk ⊢
  exact fn_getter lk hcd sc_Check_low rfl rfl T.cl_Check T.na_Check_tail
end My

namespace My
open PySem PySem.Spec PyProof.Rows L2 Pre
section
variable {P : Program} {w : World} {K : PySem.W.Frag} {mg : Str → Option Value} {base : Heap}
/-! ### is_whole, is_between, of whole numbers -/
def sp_is_whole : Sp := fun vs H Q _ => ∃ i : Int, vs = [.int i] ∧ Q (.bl true) H
theorem G_is_whole (T : Top K mg) : FnOk P w K mg base CX0 1 T.f_is_whole T.fd_is_whole ["value"] sp_is_whole := by
  refine T.F_is_whole.ok sc_is_whole (fun vs H Q E h => by obtain ⟨i, rfl, _⟩ := h; rfl) (fun cdv A outer s H vs Q E hr h => ?_)
  obtain ⟨i, rfl, q⟩ := h
  refine ⟨_, PSs.nox (pss_one (ps_ret (pe_and (pe_callB (k_isi K rfl) (by rfl) T.n_isinstance (by decide +kernel) (pa_cons (pv 0) (pa_cons (pe_bltn (v := .ty "int") (by rfl) T.n_int (by decide +kernel) rfl) pa_nil))) (pe_one (pe_not (pe_callB (k_isi K rfl) (by rfl) T.n_isinstance (by decide +kernel) (pa_cons (pv 0) (pa_cons (pe_bltn (v := .ty "bool") (by rfl) T.n_bool (by decide +kernel) rfl) pa_nil)))))))), ?_⟩
  refine ⟨_, rfl, _, _, _, _, true, rfl, .ty _, .base (.int i), kit_ty (by decide +kernel), true, rfl, iteT ?_⟩
  exact ⟨_, rfl, _, _, _, _, false, rfl, .ty _, .base (.int i), kit_ty (by decide +kernel), false, rfl, q⟩
/-- value a whole number, low one, high None or one -/
def sp_is_between : Sp := fun vs H Q _ => ∃ (i lo : Int) (hi : Option Int), vs = [.int i, .int lo, (match hi with | some j => .int j | none => .non)] ∧ Q (.bl (decide (lo ≤ i ∧ ∀ j, hi = some j → i ≤ j))) H
theorem G_is_between (T : Top K mg) : FnOk P w K mg base CX0 2 T.f_is_between T.fd_is_between ["value", "low", "high"] sp_is_between := by
  refine T.F_is_between.ok sc_is_between (fun vs H Q E h => by obtain ⟨i, lo, hi, rfl, _⟩ := h; rfl) (fun cdv A outer s H vs Q E hr h => ?_)
  obtain ⟨i, lo, hi, rfl, q⟩ := h
  refine ⟨_, PSs.nox (pss_one (ps_ret (pe_and (pe_call (G_is_whole T) (hr.mono (by decide)) (by rfl) T.g_is_whole T.F_is_whole.kp T.b_is_whole .nil pass0 (pa_cons (pv 0) pa_nil)) (pe_and (pe_cmpR op_le (pv 1) (pv 0) (nomark _)) (pe_one (pe_or (pe_cmpR op_isN (pv 2) pe_non (nomark _)) (pe_one (pe_cmpR op_le (pv 0) (pv 2) (nomark _))))))))), ?_⟩
  refine ⟨_, rfl, i, rfl, true, rfl, iteT ?_⟩
  refine ⟨_, rfl, _, rfl, _, _, rfl, rfl, _, rfl, ite2 (fun e => ?_) (fun e => ?_)⟩
  · have e1 : lo ≤ i := of_decide_eq_true e
    cases hi with
    | none =>
      refine ⟨_, rfl, rfl, _, rfl, iteT ?_⟩
      rw [decide_eq_true ⟨e1, fun j h => nomatch h⟩] at q
      exact q
    | some j =>
      refine ⟨_, rfl, rfl, _, rfl, iteF ⟨_, rfl, _, rfl, _, _, rfl, rfl, ?_⟩⟩
      have e2 : decide (lo ≤ i ∧ ∀ j', some j = some j' → i ≤ j') = decide (i ≤ j) := by
        by_cases h : i ≤ j
        · rw [decide_eq_true h, decide_eq_true]
          exact ⟨e1, fun j' e => by cases e; exact h⟩
        · rw [decide_eq_false h, decide_eq_false]
          exact fun z => h (z.2 j rfl)
      rw [e2] at q
      exact q
  · have e1 : ¬ lo ≤ i := fun h => e (decide_eq_true h)
    rw [decide_eq_false fun z => e1 z.1] at q
    exact q
end
end My

set_option exponentiation.threshold 100000
namespace My
open PySem PySem.Spec PyProof.Rows L2 Pre
section
variable {P : Program} {w : World} {K : PySem.W.Frag} {mg : Str → Option Value} {base : Heap}
/-! ### the law's draws -/
/-- a generator: its count is at most n -/
def GenAt (H : Hp) (g : Addr) (n : Nat) : Prop := ∃ x y z : Int, H g = some (.lst [.int x, .int y, .int z]) ∧ 0 ≤ z ∧ z ≤ (n : Int)
/-- all but one thing stand as they stood -/
def But (g : Addr) (H H' : Hp) : Prop := ∀ b o, b ≠ g → H b = some o → H' b = some o
theorem But.refl {g : Addr} {H : Hp} : But g H H := fun _ _ _ h => h
theorem But.trans {g : Addr} {H H1 H2 : Hp} (a : But g H H1) (b : But g H1 H2) : But g H H2 := fun c o n h => b c o n (a c o n h)
theorem But.same {g : Addr} {H H1 H2 : Hp} (a : But g H H1) (b : Same H1 H2) : But g H H2 := fun c o n h => b c o (a c o n h)
theorem But.of {g : Addr} {H H1 : Hp} (b : Same H H1) : But g H H1 := fun c o _ h => b c o h
theorem But.upd {g : Addr} {H H1 : Hp} {o : HO} (a : But g H H1) : But g H (upd H1 g o) := fun c u n h => by
  rw [upd_ne n]
  exact a c u n h
theorem But.free {g : Addr} {H H1 : Hp} (a : But g H H1) {p : Addr} (n : p ≠ g) (h : H1 p = none) : H p = none := by
  cases e : H p with
  | none => rfl
  | some o => rw [a p o n e] at h; cases h
/-- what is changed was not there at first -/
theorem But.fresh {g : Addr} {H H1 H2 : Hp} (s : Same H H1) (n : H g = none) (b : But g H1 H2) : Same H H2 := fun c o h => b c o (ne_of_none h n) (s c o h)
theorem GenAt.mono {H : Hp} {g : Addr} {n m : Nat} (h : GenAt H g n) (l : n ≤ m) : GenAt H g m := by
  obtain ⟨x, y, z, a, b, c⟩ := h
  exact ⟨x, y, z, a, b, by omega⟩
theorem GenAt.same {H H' : Hp} {g : Addr} {n : Nat} (h : GenAt H g n) (s : Same H H') : GenAt H' g n := by
  obtain ⟨x, y, z, a, b⟩ := h
  exact ⟨x, y, z, s _ _ a, b⟩
theorem GenAt.ne {H : Hp} {g : Addr} {n : Nat} {p : Addr} (h : GenAt H g n) (np : H p = none) : p ≠ g := by
  obtain ⟨x, y, z, a, _⟩ := h
  exact (ne_of_none a np).symm
theorem small_2900 {b : Int} (h : b ≤ 2 ^ 60) : b < 2 ^ 2900 := by omega
theorem pow_pos' (w : Nat) : (0 : Int) < 2 ^ w := Int.pow_pos (by decide)
theorem pow2_le {k m : Nat} (h : k ≤ m) : (2 : Int) ^ k ≤ 2 ^ m := by
  have e := Nat.pow_le_pow_right (show 0 < 2 by decide) h
  have e2 : ((2 ^ k : Nat) : Int) ≤ ((2 ^ m : Nat) : Int) := Int.ofNat_le.mpr e
  rw [Int.natCast_pow, Int.natCast_pow] at e2
  exact e2
def sp_law_cell (K : PySem.W.Frag) : Sp := fun vs H Q _ => ∃ (a : Addr) (ns : List Int) (i : Nat), vs = [.ref a, .int i] ∧ SqL K H a (ns.map V.int) ∧ ∀ (n : Int) H', Same H H' → Q (.int n) H'
theorem G_law_cell (T : Top K mg) : FnOk P w K mg base CX0 1 T.f_law_cell T.fd_law_cell ["_law_script", "_law_index"] (sp_law_cell K) := by
  refine T.F_law_cell.ok sc_law_cell (fun vs H Q E h => by obtain ⟨a, ns, i, rfl, _⟩ := h; rfl) (fun cdv A outer s H vs Q E hr h => ?_)
  obtain ⟨a, ns, i, rfl, hS, q⟩ := h
  refine ⟨_, PSs.nox (pss_cons (ps_if (pt_cmpR op_lt (pv 1) (pe_callB (k_len K rfl) (by rfl) T.n_len (by decide +kernel) (pa_cons (pv 0) pa_nil)) (nomark _))
    (pss_one (ps_ret (pe_ix (k_ixL K rfl) (pv 0) (pv 1) (fun _ _ => rfl))))
    pss_nil)
  (pss_one (ps_ret (pe_op op_mod (pe_callB (k_sum K rfl rfl) (by rfl) T.n_sum (by decide +kernel) (pa_cons (pe_slice (k_slL K rfl) (pv 0) po_none (po_some pe_int)) pa_nil)) pe_int)))), ?_⟩
  refine ⟨_, rfl, _, rfl, a, _, rfl, .inl hS, _, _, rfl, rfl, _, rfl, ite2 (fun e => ?_) (fun e => ?_)⟩
  · have e1 : (i : Int) < (((ns.map V.int).length : Nat) : Int) := of_decide_eq_true e
    rw [List.length_map] at e1
    have hi : i < ns.length := by omega
    refine ⟨_, rfl, _, rfl, a, _, _, .int ns[i], rfl, rfl, hS, atI_nat (by rw [List.getElem?_map, List.getElem?_eq_getElem hi]; rfl), ?_⟩
    exact q _ _ (Same.refl _)
  · refine ⟨_, rfl, _, rfl, a, _, rfl, hS, fun p np => ?_⟩
    have ec : ∃ ms : List Int, cutV (ns.map V.int) none (some 1) = ms.map V.int := by
      unfold cutV
      exact ⟨(ns.drop (HT.sIx (ns.map V.int).length 0 none)).take (HT.sIx (ns.map V.int).length (ns.map V.int).length (some 1) - HT.sIx (ns.map V.int).length 0 none), by rw [List.map_take, List.map_drop]⟩
    obtain ⟨ms, em⟩ := ec
    refine ⟨p, ms, rfl, .inl (.inl (by rw [upd_same, em])), _, _, rfl, rfl, (by show (0 : Int) < 1000003; decide), ?_⟩
    exact q _ _ (same_upd np)
theorem cmul_mod (x m j : Int) (h0 : 0 < m) (h1 : m ≤ 2 ^ 60) : CMul (x % m) j := by
  have a := Int.emod_nonneg x (show m ≠ 0 by omega)
  have b := Int.emod_lt_of_pos x h0
  exact .inl ⟨by omega, by omega⟩
def sp_law_hash : Sp := fun vs H Q _ => ∃ i j : Int, vs = [.int i, .int j] ∧ 0 ≤ j ∧ j < 2 ^ 60 ∧ ∀ n : Int, Q (.int n) H
theorem G_law_hash (T : Top K mg) : FnOk P w K mg base CX0 1 T.f_law_hash T.fd_law_hash ["_law_seed", "_law_index"] sp_law_hash := by
  refine T.F_law_hash.ok sc_law_hash (fun vs H Q E h => by obtain ⟨i, j, rfl, _⟩ := h; rfl) (fun cdv A outer s H vs Q E hr h => ?_)
  obtain ⟨i, j, rfl, h0, h1, q⟩ := h
  refine ⟨_, PSs.nox (pss_cons (ps_set (i := 2) sc_law_hash.nd rfl (by first | exact Or.inl rfl | exact Or.inr rfl) (pe_op op_mod (pe_callTy call_int1 (by rfl) T.n_int (by decide +kernel) (pa_cons (pe_op op_add (pe_op op_add (pe_op op_add (pe_op op_mul (pv 0) pe_int) (pe_op op_mul (pe_op op_mul pe_int (pv 1)) (pv 1))) (pe_op op_mul pe_int (pv 1))) pe_int) pa_nil)) pe_int))
  (pss_cons (ps_set (i := 2) sc_law_hash.nd rfl (by first | exact Or.inl rfl | exact Or.inr rfl) (pe_op op_mod (pe_callTy call_int1 (by rfl) T.n_int (by decide +kernel) (pa_cons (pe_op op_add (pe_op op_add (pe_op op_mul (pv 2) (pv 2)) (pe_op op_mul pe_int (pv 1))) pe_int) pa_nil)) pe_int))
  (pss_one (ps_ret (pe_op op_mod (pe_callTy call_int1 (by rfl) T.n_int (by decide +kernel) (pa_cons (pe_op op_mul (pv 2) pe_int) pa_nil)) pe_int))))), ?_⟩
  refine ⟨_, rfl, _, _, rfl, rfl, .inr ⟨by decide, by decide⟩, _, rfl, _, _, rfl, rfl, .inl ⟨by decide, by decide⟩, _, rfl, _, _, rfl, rfl, .inr ⟨by omega, by omega⟩, _, _, rfl, rfl, _, rfl, _, _, rfl, rfl, .inl ⟨by decide, by decide⟩, _, _, rfl, rfl, _, _, rfl, rfl,
    .inl ⟨_, rfl, _, _, rfl, rfl, (by show (0 : Int) < _; decide), ?_⟩⟩
  refine ⟨_, rfl, _, rfl, _, _, rfl, rfl, cmul_mod _ _ _ (by decide) (by decide), _, rfl, _, _, rfl, rfl, .inl ⟨by decide, by decide⟩, _, _, rfl, rfl, _, _, rfl, rfl, .inl ⟨_, rfl, _, _, rfl, rfl, (by show (0 : Int) < _; decide), ?_⟩⟩
  refine ⟨_, rfl, _, _, rfl, rfl, .inr ⟨by decide, by decide⟩, .inl ⟨_, rfl, _, _, rfl, rfl, (by show (0 : Int) < _; decide), ?_⟩⟩
  exact q _

def sp_law_generator (K : PySem.W.Frag) : Sp := fun vs H Q _ => ∃ (a : Addr) (ns : List Int) (i : Nat), vs = [.ref a, .int i] ∧ SqL K H a (ns.map V.int) ∧ ∀ H' g, Same H H' → H g = none → GenAt H' g (1000 * i) → Q (.ref g) H'
theorem G_law_generator (T : Top K mg) : FnOk P w K mg base CX0 2 T.f_law_generator T.fd_law_generator ["_law_script", "_law_index"] (sp_law_generator K) := by
  refine T.F_law_generator.ok sc_law_generator (fun vs H Q E h => by obtain ⟨a, ns, i, rfl, _⟩ := h; rfl) (fun cdv A outer s H vs Q E hr h => ?_)
  obtain ⟨a, ns, i, rfl, hS, q⟩ := h
  refine ⟨_, PSs.nox (pss_cons (ps_set (i := 2) sc_law_generator.nd rfl (by first | exact Or.inl rfl | exact Or.inr rfl) (pe_call (G_law_cell T) (hr.mono (by decide)) (by rfl) T.g_law_cell T.F_law_cell.kp T.b_law_cell .nil pass0 (pa_cons (pv 0) (pa_cons (pv 1) pa_nil))))
  (pss_one (ps_ret (pe_lst (pa_cons (pe_op op_mod (pe_callTy call_int1 (by rfl) T.n_int (by decide +kernel) (pa_cons (pe_callB (call_max2 rfl) (by rfl) T.n_max (by decide +kernel) (pa_cons (pe_op op_sub (pv 2) (pe_op op_powW pe_int pe_int)) (pa_cons pe_int pa_nil))) pa_nil)) (pe_op op_powW (pe_op op_powW pe_int pe_int) pe_int)) (pa_cons (pe_op op_mod (pe_callTy call_int1 (by rfl) T.n_int (by decide +kernel) (pa_cons (pv 2) pa_nil)) pe_int) (pa_cons (pe_op op_mul pe_int (pv 1)) pa_nil))))))), ?_⟩
  refine ⟨_, rfl, _, rfl, a, ns, i, rfl, hS, fun n H1 s1 => ?_⟩
  refine ⟨_, rfl, _, _, rfl, rfl, ⟨by decide, by decide +kernel⟩, _, _, rfl, rfl, _, _, rfl, .inl ⟨_, rfl, _, _, rfl, rfl, ⟨by decide, by decide +kernel⟩, _, _, rfl, rfl, ⟨by decide, by decide +kernel⟩, _, _, rfl, rfl, (by show (0 : Int) < _; decide +kernel), ?_⟩⟩
  refine ⟨_, rfl, .inl ⟨_, rfl, _, _, rfl, rfl, (by show (0 : Int) < _; decide), ?_⟩⟩
  refine ⟨_, rfl, _, _, rfl, rfl, .inl ⟨by decide, by decide⟩, (show 3 ≤ sizeLine by decide), fun g ng => ?_⟩
  exact q _ g (s1.trans (same_upd ng)) (s1.free ng) ⟨_, _, _, upd_same, by omega, by omega⟩
def sp_law_random : Sp := fun vs H Q _ => ∃ (g : Addr) (b : Int) (n : Nat), vs = [.ref g, .int b] ∧ GenAt H g n ∧ n ≤ 10 ^ 12 ∧ 0 < b ∧ b < 2 ^ 2900 ∧ ∀ (d : Int) H', 0 ≤ d → d < b → GenAt H' g (n + 100) → But g H H' → Q (.int d) H'
theorem G_law_random (T : Top K mg) : FnOk P w K mg base CX0 2 T.f_law_random T.fd_law_random ["_law_generator_here", "_law_bound"] sp_law_random := by
  refine T.F_law_random.ok sc_law_random (fun vs H Q E h => by obtain ⟨g, b, n, rfl, _⟩ := h; rfl) (fun cdv A outer s H vs Q E hr h => ?_)
  obtain ⟨g, b, n, rfl, ⟨x, y, z, hg, z0, z1⟩, hn, b0, b1, q⟩ := h
  refine ⟨_, PSs.nox (pss_cons (ps_if (pt_cmpR op_gt (pe_ix (k_ixL K rfl) (pv 0) pe_int (fun _ _ => rfl)) pe_int (nomark _))
    (pss_cons (ps_set (i := 2) sc_law_random.nd rfl (by first | exact Or.inl rfl | exact Or.inr rfl) (pe_op op_mod (pe_callTy call_int1 (by rfl) T.n_int (by decide +kernel) (pa_cons (pe_ix (k_ixL K rfl) (pv 0) pe_int (fun _ _ => rfl)) pa_nil)) (pv 1)))
  (pss_cons (ps_asg (pe_op op_fdivW (pe_ix (k_ixL K rfl) (pv 0) pe_int (fun _ _ => rfl)) (pv 1)) (pg_sub (pv 0) pe_int set_list))
  (pss_one (ps_ret (pv 2)))))
    pss_nil)
  (pss_cons (ps_set (i := 2) sc_law_random.nd rfl (by first | exact Or.inl rfl | exact Or.inr rfl) pe_int)
  (pss_cons (ps_for PassesOwn.never rfl (pi_range1 (by rfl) T.n_range (pa_cons (pe_op op_add pe_int (pe_op op_fdivW (pe_bits (pv 1)) pe_int)) pa_nil)) (pg_name (i := 3) sc_law_random.nd rfl (by first | exact Or.inl rfl | exact Or.inr rfl))
    (pss_cons (ps_asg (pe_op op_add (pe_ix (k_ixL K rfl) (pv 0) pe_int (fun _ _ => rfl)) pe_int) (pg_sub (pv 0) pe_int set_list))
  (pss_one (ps_set (i := 2) sc_law_random.nd rfl (by first | exact Or.inl rfl | exact Or.inr rfl) (pe_op op_add (pe_op op_mul (pv 2) pe_int) (pe_call (G_law_hash T) (hr.mono (by decide)) (by rfl) T.g_law_hash T.F_law_hash.kp T.b_law_hash .nil pass0 (pa_cons (pe_ix (k_ixL K rfl) (pv 0) pe_int (fun _ _ => rfl)) (pa_cons (pe_ix (k_ixL K rfl) (pv 0) pe_int (fun _ _ => rfl)) pa_nil))))))))
  (pss_one (ps_ret (pe_op op_mod (pe_callTy call_int1 (by rfl) T.n_int (by decide +kernel) (pa_cons (pv 2) pa_nil)) (pv 1))))))), ?_⟩
  have a0 : ∀ x y z : Int, atI [V.int x, .int y, .int z] 0 = some (.int x) := fun _ _ _ => rfl
  have a1 : ∀ x y z : Int, atI [V.int x, .int y, .int z] 1 = some (.int y) := fun _ _ _ => rfl
  have a2 : ∀ x y z : Int, atI [V.int x, .int y, .int z] 2 = some (.int z) := fun _ _ _ => rfl
  have hS : SqL K H g [.int x, .int y, .int z] := .inl (.inl hg)
  have nb : b.natAbs < 2 ^ 2900 := by
    have e : ((b.natAbs : Nat) : Int) < ((2 ^ 2900 : Nat) : Int) := by
      rw [Int.natCast_pow]
      omega
    exact Int.ofNat_lt.mp e
  refine ⟨_, rfl, g, _, 0, _, rfl, rfl, hS, a0 x y z, _, _, rfl, rfl, _, rfl, ite2 (fun e => ?_) (fun e => ?_)⟩
  · refine ⟨_, rfl, g, _, 0, _, rfl, rfl, hS, a0 x y z, .inl ⟨_, rfl, _, rfl, _, _, rfl, rfl, b0, ?_⟩⟩
    refine ⟨_, rfl, g, _, 0, _, rfl, rfl, hS, a0 x y z, _, rfl, _, _, rfl, rfl, wide_div b0 nb (by decide) (by decide), _, rfl, g, _, 0, 0, rfl, rfl, hg, rfl, _, rfl, ?_⟩
    exact q _ _ (Int.emod_nonneg _ (by omega)) (Int.emod_lt_of_pos _ b0) ⟨_, _, _, upd_same, z0, by omega⟩ (But.upd But.refl)
  · have hb : Builtin.Int.intBits b ≤ 2900 := PyProof.Rows.intBits_le nb
    have hq0 : (0 : Int) ≤ ((Builtin.Int.intBits b : Nat) : Int) / 30 := Int.ediv_nonneg (Int.natCast_nonneg _) (by decide)
    have hq1 : ((Builtin.Int.intBits b : Nat) : Int) / 30 ≤ 97 := by omega
    refine ⟨_, rfl, _, rfl, _, _, rfl, rfl, ⟨by decide, by decide +kernel⟩, _, _, rfl, rfl, _, rfl, by omega, by omega, ?_⟩
    refine for_range (lo := 0) (n := (1 + ((Builtin.Int.intBits b : Nat) : Int) / 30).toNat) (fun i σ H1 => ∃ (d z' : Int) (v : Option V), σ = [some (.ref g), some (.int b), some (.int d), v] ∧ H1 g = some (.lst [.int x, .int y, .int z']) ∧ 0 ≤ z' ∧ z' ≤ (n : Int) + (i : Int) ∧ But g H H1)
      ⟨0, z, none, rfl, hg, z0, by omega, But.refl⟩ ?_ ?_
    · rintro i σ H1 hi ⟨d, z', v, rfl, hg1, y0, y1, b1⟩
      have hS1 : SqL K H1 g [.int x, .int y, .int z'] := .inl (.inl hg1)
      refine ⟨_, rfl, g, _, 2, _, rfl, rfl, hS1, a2 x y z', _, _, rfl, rfl, _, rfl, g, _, 2, 2, rfl, rfl, hg1, rfl, ?_⟩
      have hS2 : SqL K (upd H1 g (.lst [.int x, .int y, .int (z' + 1)])) g [.int x, .int y, .int (z' + 1)] := .inl (.inl upd_same)
      refine ⟨_, rfl, _, _, rfl, rfl, .inr ⟨by decide, by decide⟩, _, rfl, g, _, 1, _, rfl, rfl, hS2, a1 _ _ _, _, rfl, g, _, 2, _, rfl, rfl, hS2, a2 _ _ _, _, _, rfl, by omega, by omega, fun r => ?_⟩
      exact ⟨_, _, rfl, rfl, _, z' + 1, _, rfl, upd_same, by omega, by omega, But.upd b1⟩
    · rintro σ H1 ⟨d, z', v, rfl, hg1, y0, y1, b1⟩
      refine ⟨_, rfl, .inl ⟨_, rfl, _, rfl, _, _, rfl, rfl, b0, ?_⟩⟩
      exact q _ _ (Int.emod_nonneg _ (by omega)) (Int.emod_lt_of_pos _ b0) ⟨_, _, _, hg1, y0, by omega⟩ b1
/-- a comprehension over a range that draws whole numbers -/
theorem lc_drawR {lo : Int} {n : Nat} {j : Nat} {te : TE} {vs : List Nat} {σ : L2.St} {H1 : Hp} {D : Addr} {Qd : Hp → Prop} (g : Addr) (m step : Nat) (P : Int → Prop) (nD : H1 D = none) (hG : GenAt H1 g m) (hz : n < sizeLine)
    (hw : ∀ x, wipe ((wipe σ vs).set j (some x)) vs = wipe σ vs)
    (hs : ∀ (i : Nat) (H' : Hp), i < n → But g H1 H' → GenAt H' g (m + step * i) → ∀ Qt : V → Hp → Prop, (∀ (y : Int) H'', P y → But g H' H'' → GenAt H'' g (m + step * (i + 1)) → Qt (.int y) H'') → te ((wipe σ vs).set j (some (.int (lo + (i : Int))))) H' Qt)
    (hd : ∀ H' (ys : List Int), But g H1 H' → GenAt H' g (m + step * n) → H' D = some (.lst (ys.map V.int)) → ys.length = n → (∀ y ∈ ys, P y) → Qd H') :
    ∃ W : Nat → Nat → Hp → Prop, (∃ m, W 0 m (upd H1 D (.lst []))) ∧ ∀ i m H, W i m H →
      ((Itr lo n).stop i H ∧ Qd H) ∨ ((Itr lo n).go i H ∧ ∃ Nx : Hp → Prop, (∀ H', Nx H' → ∃ m', m' < m ∧ W (i + 1) m' H') ∧ ∀ x H', (Itr lo n).yld i H x H' → gName j x (wipe σ vs) H' fun σ2 H2 => wipe σ2 vs = wipe σ vs ∧ tYes σ2 H2 fun b H3 =>
        if b = true then te σ2 H3 fun y H4 => ∃ acc, H4 D = some (.lst acc) ∧ acc.length < sizeLine ∧ Nx (upd H4 D (.lst (acc ++ [y]))) else Nx H3) := by
  have nDg : D ≠ g := hG.ne nD
  refine lc_range (lo := lo) (n := n) (fun i H => ∃ ys : List Int, But g H1 H ∧ GenAt H g (m + step * i) ∧ H D = some (.lst (ys.map V.int)) ∧ ys.length = i ∧ ∀ y ∈ ys, P y)
    ⟨[], But.of (same_upd nD), hG.same (same_upd nD), upd_same, rfl, (fun _ h => nomatch h)⟩ ?_ ?_
  · rintro i H hi ⟨ys, b, hg, hD, hl, hP⟩
    refine ⟨hw _, ?_⟩
    unfold tYes
    dsimp only
    rw [if_pos (show true = true from rfl)]
    refine hs i H hi b hg _ fun y H2 py b2 hg2 => ?_
    refine ⟨_, b2 _ _ nDg hD, by rw [List.length_map]; omega, ys ++ [y], ?_, ?_, ?_, ?_, ?_⟩
    · intro c o nc hc
      rw [upd_ne (ne_of_none hc nD)]
      exact b2 _ _ nc (b _ _ nc hc)
    · obtain ⟨x1, x2, x3, e1, e2⟩ := hg2
      exact ⟨x1, x2, x3, by rw [upd_ne nDg.symm]; exact e1, e2⟩
    · rw [upd_same, List.map_append]
      rfl
    · rw [List.length_append, hl]
      rfl
    · intro z hz
      rcases List.mem_append.mp hz with hz | hz
      · exact hP z hz
      · rw [List.mem_singleton.mp hz]
        exact py
  · rintro H ⟨ys, b, hg, hD, hl, hP⟩
    exact hd H ys b hg hD hl hP
end
end My

namespace My
open PySem PySem.Spec PyProof.Rows L2 Pre
/-- a comprehension over a list that makes new things: R tells what is known of the i-th -/
theorem lc_relL {K : PySem.W.Frag} {a : Addr} {xs : List V} {j : Nat} {te : TE} {vs : List Nat} {σ : L2.St} {H1 : Hp} {D : Addr} {Qd : Hp → Prop} (R : Nat → V → Hp → Prop) (nD : H1 D = none) (hS : SqL K H1 a xs) (hz : xs.length < sizeLine)
    (mono : ∀ (i : Nat) (y : V) (H H' : Hp), Pre.Off D H H' → R i y H → R i y H') (hw : ∀ x, wipe ((wipe σ vs).set j (some x)) vs = wipe σ vs)
    (hs : ∀ (i : Nat) (x : V) (H' : Hp) (zs : List V), xs[i]? = some x → Same H1 H' → H' D = some (.lst zs) → ∀ Qt : V → Hp → Prop, (∀ y H'', Same H' H'' → R i y H'' → Qt y H'') → te ((wipe σ vs).set j (some x)) H' Qt)
    (hd : ∀ H' ys, Same H1 H' → H' D = some (.lst ys) → ys.length = xs.length → (∀ (i : Nat) (y : V), ys[i]? = some y → R i y H') → Qd H') :
    ∃ W : Nat → Nat → Hp → Prop, (∃ m, W 0 m (upd H1 D (.lst []))) ∧ ∀ i m H, W i m H →
      ((Itl K a).stop i H ∧ Qd H) ∨ ((Itl K a).go i H ∧ ∃ Nx : Hp → Prop, (∀ H', Nx H' → ∃ m', m' < m ∧ W (i + 1) m' H') ∧ ∀ x H', (Itl K a).yld i H x H' → gName j x (wipe σ vs) H' fun σ2 H2 => wipe σ2 vs = wipe σ vs ∧ tYes σ2 H2 fun b H3 =>
        if b = true then te σ2 H3 fun y H4 => ∃ acc, H4 D = some (.lst acc) ∧ acc.length < sizeLine ∧ Nx (upd H4 D (.lst (acc ++ [y]))) else Nx H3) := by
  refine lc_list (K := K) (a := a) (xs := xs) (RelPv R H1 D) ⟨[], same_upd nD, upd_same, rfl, fun k y h => by simp at h⟩ (fun i H _ ⟨_, s, _⟩ => s.seq hS) ?_ ?_
  · rintro i x H hx ⟨ys, s, hD, hl, hR⟩
    have hi : i < xs.length := (List.getElem?_eq_some_iff.mp hx).1
    refine ⟨hw _, ?_⟩
    unfold tYes
    dsimp only
    rw [if_pos (show true = true from rfl)]
    refine hs i x H ys hx s hD _ fun y H4 s4 r4 => ?_
    refine ⟨ys, s4 _ _ hD, by omega, ys ++ [y], same_over nD (s.trans s4), upd_same, by rw [List.length_append, hl]; rfl, fun k z hz => ?_⟩
    have off : Pre.Off D H4 (upd H4 D (.lst (ys ++ [y]))) := fun b o nb h => by rw [upd_ne nb]; exact h
    by_cases hk : k < ys.length
    · rw [List.getElem?_append_left hk] at hz
      exact mono k z H _ (fun b o nb h => off b o nb (s4 b o h)) (hR k z hz)
    · rw [List.getElem?_append_right (by omega)] at hz
      have hk2 : k - ys.length = 0 := by
        have h2 := (List.getElem?_eq_some_iff.mp hz).1
        rw [List.length_singleton] at h2
        omega
      rw [hk2] at hz
      cases hz
      have ek : k = i := by omega
      rw [ek]
      exact mono i y H4 _ off r4
  · rintro H ⟨ys, s, hD, hl, hR⟩
    exact hd H ys s hD hl hR
/-- a list of lists of whole numbers -/
def RowsIn (H : Hp) (p : Addr) (rows : List (List Int)) : Prop := ∃ as : List Addr, H p = some (.lst (as.map V.ref)) ∧ as.length = rows.length ∧ ∀ (i : Nat) (a : Addr) (r : List Int), as[i]? = some a → rows[i]? = some r → H a = some (.lst (r.map V.int))
theorem RowsIn.same {H H' : Hp} {p : Addr} {rows : List (List Int)} (h : RowsIn H p rows) (s : Same H H') : RowsIn H' p rows := by
  obtain ⟨as, h1, h2, h3⟩ := h
  exact ⟨as, s _ _ h1, h2, fun i a r ha hr => s _ _ (h3 i a r ha hr)⟩
section
variable {X : Cx}
theorem huD {k : Nat} {A : Around} (r : Room k A) : A.units + 65 < cLine := by have := r.un; omega
theorem k_inD (K : PySem.W.Frag) (h : X.K = K) (hu : X.A.units + 65 < cLine) : OpR X (compareOp .In) (rInD K) := by subst h; exact op_inD hu
theorem k_notInD (K : PySem.W.Frag) (h : X.K = K) (hu : X.A.units + 65 < cLine) : OpR X (compareOp .NotIn) (rNotInD K) := by subst h; exact op_notInD hu
theorem k_indexD (K : PySem.W.Frag) (h : X.K = K) (hu : X.A.units + 65 < cLine) : MtR X "list.index" (rIndexD K) := by subst h; exact mt_indexD hu
end
/-- rows as data -/
def rowD (r : List Int) : PyData := .list (r.map PyData.int)
theorem rows_dp {K : PySem.W.Frag} {H : Hp} : ∀ {as : List Addr} {rows : List (List Int)}, as.length = rows.length → (∀ (i : Nat) (a : Addr) (r : List Int), as[i]? = some a → rows[i]? = some r → H a = some (.lst (r.map V.int))) → DpAll K H (as.map V.ref) (rows.map rowD)
  | [], [], _, _ => .nil
  | [], _ :: _, h, _ => by simp at h
  | _ :: _, [], h, _ => by simp at h
  | a :: as, r :: rows, h, k => .cons (.lst (.inl (.inl (k 0 a r rfl rfl))) (Pre.dp_ints r)) (rows_dp (by simpa using h) fun i t q ht hq => k (i + 1) t q (by simpa using ht) (by simpa using hq))
theorem rowD_eqv (r q : List Int) : PyData.eqv (rowD r) (rowD q) = decide (r = q) := by
  unfold rowD
  rw [PyData.eqv, eqv_ints]
theorem rows_shaped (rows : List (List Int)) : SeqAt.shaped (.list (rows.map rowD)) = true := by
  have h1 : ∀ l : List (List Int), PyData.canLayAll0 (l.map rowD) = true := fun l => by
    induction l with
    | nil => rfl
    | cons r l ih =>
      show (PyData.canLay0 (rowD r) && PyData.canLayAll0 (l.map rowD)) = true
      rw [ih]
      unfold rowD
      rw [PyData.canLay0, lay_ints]
      rfl
  have h2 : ∀ l : List (List Int), PyData.depthAll (l.map rowD) ≤ 1 := fun l => by
    induction l with
    | nil => simp [PyData.depthAll]
    | cons r l ih =>
      show PyData.depthAll (rowD r :: l.map rowD) ≤ 1
      rw [PyData.depthAll]
      unfold rowD at *
      rw [PyData.depth, depth_ints]
      omega
  show (PyData.canLay0 (.list (rows.map rowD)) && decide (PyData.depth (.list (rows.map rowD)) ≤ 64)) = true
  rw [Bool.and_eq_true]
  have := h2 rows
  exact ⟨by rw [PyData.canLay0]; exact h1 rows, decide_eq_true (by rw [PyData.depth]; omega)⟩
end My

namespace My
open PySem PySem.Spec PyProof.Rows L2 Pre
/-! ### min and max of a list of pairs of whole numbers -/
def pairD (p : Int × Int) : PyData := .tuple [.int p.1, .int p.2]
def ltP2 (p q : Int × Int) : Prop := p.1 < q.1 ∨ (p.1 = q.1 ∧ p.2 < q.2)
instance (p q : Int × Int) : Decidable (ltP2 p q) := by unfold ltP2; infer_instance
theorem pair_lt (p q : Int × Int) : PySem.W.dataLt (pairD p) (pairD q) = decide (ltP2 p q) := PySem.W.dataLt_ii p.1 p.2 q.1 q.2
theorem ltP2_trans {p q r : Int × Int} (h : ¬ ltP2 q p) (k : ¬ ltP2 r q) : ¬ ltP2 r p := by
  unfold ltP2 at *
  omega
def minP (p : Int × Int) (ps : List (Int × Int)) : Int × Int := ps.foldl (fun a y => if ltP2 y a then y else a) p
def maxP (p : Int × Int) (ps : List (Int × Int)) : Int × Int := ps.foldl (fun a y => if ltP2 a y then y else a) p
theorem minP_data : ∀ (ps : List (Int × Int)) (p : Int × Int), PySem.W.minD (pairD p) (ps.map pairD) = pairD (minP p ps)
  | [], _ => rfl
  | q :: ps, p => by
    show PySem.W.minD (if PySem.W.dataLt (pairD q) (pairD p) = true then pairD q else pairD p) (ps.map pairD) = pairD (minP (if ltP2 q p then q else p) ps)
    rw [pair_lt]
    by_cases h : ltP2 q p
    · rw [decide_eq_true h, if_pos rfl, if_pos h, minP_data ps q]
    · rw [decide_eq_false h, if_neg (by decide), if_neg h, minP_data ps p]
theorem maxP_data : ∀ (ps : List (Int × Int)) (p : Int × Int), PySem.W.maxD (pairD p) (ps.map pairD) = pairD (maxP p ps)
  | [], _ => rfl
  | q :: ps, p => by
    show PySem.W.maxD (if PySem.W.dataLt (pairD p) (pairD q) = true then pairD q else pairD p) (ps.map pairD) = pairD (maxP (if ltP2 p q then q else p) ps)
    rw [pair_lt]
    by_cases h : ltP2 p q
    · rw [decide_eq_true h, if_pos rfl, if_pos h, maxP_data ps q]
    · rw [decide_eq_false h, if_neg (by decide), if_neg h, maxP_data ps p]
theorem minP_spec : ∀ (ps : List (Int × Int)) (p : Int × Int), minP p ps ∈ p :: ps ∧ ∀ q ∈ p :: ps, ¬ ltP2 q (minP p ps)
  | [], p => ⟨List.mem_cons_self, fun q hq => by
      rw [List.mem_singleton.mp hq]
      show ¬ ltP2 p p
      unfold ltP2
      omega⟩
  | r :: ps, p => by
    show minP (if ltP2 r p then r else p) ps ∈ _ ∧ ∀ q ∈ p :: r :: ps, ¬ ltP2 q (minP (if ltP2 r p then r else p) ps)
    by_cases h : ltP2 r p
    · rw [if_pos h]
      obtain ⟨h1, h2⟩ := minP_spec ps r
      refine ⟨List.mem_cons_of_mem _ h1, fun q hq => ?_⟩
      rcases List.mem_cons.mp hq with rfl | hq
      · have := h2 r List.mem_cons_self
        exact fun z => this (by unfold ltP2 at *; omega)
      · exact h2 q hq
    · rw [if_neg h]
      obtain ⟨h1, h2⟩ := minP_spec ps p
      refine ⟨?_, fun q hq => ?_⟩
      · rcases List.mem_cons.mp h1 with e | e
        · rw [e]; exact List.mem_cons_self
        · exact List.mem_cons_of_mem _ (List.mem_cons_of_mem _ e)
      · rcases List.mem_cons.mp hq with rfl | hq
        · exact h2 q List.mem_cons_self
        · rcases List.mem_cons.mp hq with rfl | hq
          · have := h2 p List.mem_cons_self
            exact fun z => this (by unfold ltP2 at *; omega)
          · exact h2 q (List.mem_cons_of_mem _ hq)
theorem maxP_spec : ∀ (ps : List (Int × Int)) (p : Int × Int), maxP p ps ∈ p :: ps ∧ ∀ q ∈ p :: ps, ¬ ltP2 (maxP p ps) q
  | [], p => ⟨List.mem_cons_self, fun q hq => by
      rw [List.mem_singleton.mp hq]
      show ¬ ltP2 p p
      unfold ltP2
      omega⟩
  | r :: ps, p => by
    show maxP (if ltP2 p r then r else p) ps ∈ _ ∧ ∀ q ∈ p :: r :: ps, ¬ ltP2 (maxP (if ltP2 p r then r else p) ps) q
    by_cases h : ltP2 p r
    · rw [if_pos h]
      obtain ⟨h1, h2⟩ := maxP_spec ps r
      refine ⟨List.mem_cons_of_mem _ h1, fun q hq => ?_⟩
      rcases List.mem_cons.mp hq with rfl | hq
      · have := h2 r List.mem_cons_self
        exact fun z => this (by unfold ltP2 at *; omega)
      · exact h2 q hq
    · rw [if_neg h]
      obtain ⟨h1, h2⟩ := maxP_spec ps p
      refine ⟨?_, fun q hq => ?_⟩
      · rcases List.mem_cons.mp h1 with e | e
        · rw [e]; exact List.mem_cons_self
        · exact List.mem_cons_of_mem _ (List.mem_cons_of_mem _ e)
      · rcases List.mem_cons.mp hq with rfl | hq
        · exact h2 q List.mem_cons_self
        · rcases List.mem_cons.mp hq with rfl | hq
          · have := h2 p List.mem_cons_self
            exact fun z => this (by unfold ltP2 at *; omega)
          · exact h2 q (List.mem_cons_of_mem _ hq)
theorem pairs_alike (ps : List (Int × Int)) : PySem.W.AlikeAll (ps.map pairD) := by
  refine ⟨fun x hx y hy => ?_, fun x hx => ?_⟩
  · obtain ⟨p, _, rfl⟩ := List.mem_map.mp hx
    obtain ⟨q, _, rfl⟩ := List.mem_map.mp hy
    rfl
  · obtain ⟨p, _, rfl⟩ := List.mem_map.mp hx
    exact fun z => nomatch z
theorem pairs_lay : ∀ ps : List (Int × Int), PyData.canLayAll0 (ps.map pairD) = true
  | [] => rfl
  | p :: ps => by simp [PyData.canLayAll0, PyData.canLay0, pairD, pairs_lay ps]
theorem pairs_depth : ∀ ps : List (Int × Int), PyData.depthAll (ps.map pairD) ≤ 2
  | [] => by simp [PyData.depthAll]
  | p :: ps => by
    have := pairs_depth ps
    simp only [List.map_cons, PyData.depthAll, pairD, PyData.depth]
    omega
/-- a list of pairs, at a -/
def PairsAt (K : PySem.W.Frag) (H : Hp) (a : Addr) (ps : List (Int × Int)) : Prop := ∃ as : List Addr, SqL K H a (as.map V.ref) ∧ as.length = ps.length ∧ ∀ (i : Nat) (t : Addr) (p : Int × Int), as[i]? = some t → ps[i]? = some p → SqT K H t [.int p.1, .int p.2]
theorem pairs_dp {K : PySem.W.Frag} {H : Hp} : ∀ {as : List Addr} {ps : List (Int × Int)}, as.length = ps.length → (∀ (i : Nat) (t : Addr) (p : Int × Int), as[i]? = some t → ps[i]? = some p → SqT K H t [.int p.1, .int p.2]) → DpAll K H (as.map V.ref) (ps.map pairD)
  | [], [], _, _ => .nil
  | [], _ :: _, h, _ => by simp at h
  | _ :: _, [], h, _ => by simp at h
  | a :: as, p :: ps, h, k => .cons (.tup (k 0 a p rfl rfl) (.cons (.int _) (.cons (.int _) .nil))) (pairs_dp (by simpa using h) fun i t q ht hq => k (i + 1) t q (by simpa using ht) (by simpa using hq))
def rMnP (K : PySem.W.Frag) (best : Int × Int → List (Int × Int) → Int × Int) : List V → Hp → VK → Prop := fun xs H Q => ∃ (a : Addr) (p : Int × Int) (ps : List (Int × Int)), xs = [.ref a] ∧ PairsAt K H a (p :: ps) ∧ ∀ t, SqT K H t [.int (best p ps).1, .int (best p ps).2] → Q (.ref t) H
section
variable {X : Cx} {K : PySem.W.Frag}
theorem pick {H : Hp} {s : Shared} {as : List Addr} {ps : List (Int × Int)} {its : List Value} {i : Nat} {v : Value} {h' : Heap} {bs cs : List Addr} {b : Int × Int} (hl : as.length = ps.length)
    (hT : ∀ (i : Nat) (t : Addr) (p : Int × Int), as[i]? = some t → ps[i]? = some p → SqT K H t [.int p.1, .int p.2]) (rv : Vals (as.map V.ref) its) (hr : ReadsAll s.heap its (ps.map pairD) cs) (hv : its.toArray[i]? = some v) (rd : Reads h' v (pairD b) bs)
    (hk : ∀ b o, s.heap.get? b = some o → h'.get? b = some o) : ∃ t, v = .ref t ∧ SqT K H t [.int b.1, .int b.2] := by
  have hv' : its[i]? = some v := by simpa using hv
  have hil : i < its.length := (List.getElem?_eq_some_iff.mp hv').1
  have hvl := rv.length
  rw [List.length_map] at hvl
  obtain ⟨u, hu, ru⟩ := rv.get (show (as.map V.ref)[i]? = some (.ref (as[i]'(by omega))) by rw [List.getElem?_map, List.getElem?_eq_getElem (by omega)]; rfl)
  rw [hv'] at hu
  cases hu
  have hp : ps[i]? = some (ps[i]'(by omega)) := List.getElem?_eq_getElem (by omega)
  obtain ⟨ds, r1, _, _, _⟩ := PySem.W.readsAll_at hr i v hv'
  have e1 : (ps.map pairD).getD i .none = pairD (ps[i]'(by omega)) := by
    rw [List.getD_eq_getElem?_getD, List.getElem?_map, hp]
    rfl
  rw [e1] at r1
  have e2 := PySem.SeqAt.Reads.unique (pairD b) _ v _ _ (by simp [pairD, PyData.canLay0, PyData.canLayAll0]) rd (Reads.keeps hk r1)
  have e3 : b = ps[i]'(by omega) := by
    unfold pairD at e2
    injection e2 with e2
    injection e2 with e4 e5
    injection e5 with e5 _
    injection e4 with e4
    injection e5 with e5
    exact Prod.ext e4 e5
  refine ⟨as[i]'(by omega), ru, ?_⟩
  rw [e3]
  exact hT i _ _ (List.getElem?_eq_getElem (by omega)) hp
theorem k_minP (K : PySem.W.Frag) (h : X.K = K) (hc : X.calm = true) (hu : X.A.units + 65 < cLine) : CallR X (.builtin "min") (rMnP K minP) := by
  subst h
  intro pins s σ H xs us Q I r h
  obtain ⟨a, p, ps, rfl, ⟨as, hS, hl, hT⟩, q⟩ := h
  obtain ⟨its, rv, hL, _⟩ := I.list hS
  rw [Vals.ref1 r]
  obtain ⟨cs, hr⟩ := Dp.readsAll I _ _ its (pairs_dp hl hT) rv
  have hd := pairs_depth (p :: ps)
  refine PySem.W.min_list_data (I.ok.hd hc) hL.isList (show ReadsAll s.heap its.toArray.toList (pairD p :: ps.map pairD) cs by simpa using hr) (pairs_alike (p :: ps)) (by rw [List.map_cons] at hd; omega) fun i v h' tk bs hv rd hk => ?_
  rw [minP_data] at rd
  obtain ⟨t, rfl, ht⟩ := pick hl hT rv hr hv rd hk
  exact ⟨.ref t, H, I.kept hk, rfl, q t ht⟩
theorem k_maxP (K : PySem.W.Frag) (h : X.K = K) (hc : X.calm = true) (hu : X.A.units + 65 < cLine) : CallR X (.builtin "max") (rMnP K maxP) := by
  subst h
  intro pins s σ H xs us Q I r h
  obtain ⟨a, p, ps, rfl, ⟨as, hS, hl, hT⟩, q⟩ := h
  obtain ⟨its, rv, hL, _⟩ := I.list hS
  rw [Vals.ref1 r]
  obtain ⟨cs, hr⟩ := Dp.readsAll I _ _ its (pairs_dp hl hT) rv
  have hd := pairs_depth (p :: ps)
  refine PySem.W.max_list_data (I.ok.hd hc) hL.isList (show ReadsAll s.heap its.toArray.toList (pairD p :: ps.map pairD) cs by simpa using hr) (pairs_alike (p :: ps)) (by rw [List.map_cons] at hd; omega) fun i v h' tk bs hv rd hk => ?_
  rw [maxP_data] at rd
  obtain ⟨t, rfl, ht⟩ := pick hl hT rv hr hv rd hk
  exact ⟨.ref t, H, I.kept hk, rfl, q t ht⟩
theorem huM {k : Nat} {A : Around} (r : Room k A) : A.units + 65 < cLine := by have := r.un; omega
end
end My

namespace My
open PySem PySem.Spec PyProof.Rows L2 Pre
/-! ### data in a heap: what is told of a value by lists and tuples that stand there (none of them frozen) -/
mutual
inductive Dt (H : Hp) : V → PyData → Prop
  | non : Dt H .non .none
  | bl (b : Bool) : Dt H (.bl b) (.bool b)
  | int (n : Int) : Dt H (.int n) (.int n)
  | str (x : Str) : Dt H (.str x) (.str x)
  | lst {a : Addr} {xs : List V} {ds : List PyData} : H a = some (.lst xs) → DtA H xs ds → Dt H (.ref a) (.list ds)
  | tup {a : Addr} {xs : List V} {ds : List PyData} : H a = some (.tup xs) → DtA H xs ds → Dt H (.ref a) (.tuple ds)
inductive DtA (H : Hp) : List V → List PyData → Prop
  | nil : DtA H [] []
  | cons {v : V} {vs : List V} {d : PyData} {ds : List PyData} : Dt H v d → DtA H vs ds → DtA H (v :: vs) (d :: ds)
end
mutual
theorem Dt.same {H H' : Hp} (s : Same H H') : ∀ {d : PyData} {v : V}, Dt H v d → Dt H' v d
  | .none, _, h => by cases h; exact .non
  | .bool _, _, h => by cases h; exact .bl _
  | .int _, _, h => by cases h; exact .int _
  | .str _, _, h => by cases h; exact .str _
  | .list _, _, h => by cases h with | lst a b => exact .lst (s _ _ a) (DtA.same s b)
  | .tuple _, _, h => by cases h with | tup a b => exact .tup (s _ _ a) (DtA.same s b)
  | .dict _, _, h => nomatch h
theorem DtA.same {H H' : Hp} (s : Same H H') : ∀ {ds : List PyData} {vs : List V}, DtA H vs ds → DtA H' vs ds
  | [], _, h => by cases h; exact .nil
  | _ :: _, _, h => by cases h with | cons a b => exact .cons (Dt.same s a) (DtA.same s b)
end
mutual
theorem Dt.dp {K : PySem.W.Frag} {H : Hp} : ∀ {d : PyData} {v : V}, Dt H v d → Dp K H v d
  | .none, _, h => by cases h; exact .non
  | .bool _, _, h => by cases h; exact .bl _
  | .int _, _, h => by cases h; exact .int _
  | .str _, _, h => by cases h; exact .str _
  | .list _, _, h => by cases h with | lst a b => exact .lst (.inl (.inl a)) (DtA.dp b)
  | .tuple _, _, h => by cases h with | tup a b => exact .tup (.inl (.inl a)) (DtA.dp b)
  | .dict _, _, h => nomatch h
theorem DtA.dp {K : PySem.W.Frag} {H : Hp} : ∀ {ds : List PyData} {vs : List V}, DtA H vs ds → DpAll K H vs ds
  | [], _, h => by cases h; exact .nil
  | _ :: _, _, h => by cases h with | cons a b => exact .cons (Dt.dp a) (DtA.dp b)
end
theorem DtA.len {H : Hp} : ∀ {ds : List PyData} {vs : List V}, DtA H vs ds → vs.length = ds.length
  | [], _, h => by cases h; rfl
  | _ :: _, _, h => by cases h with | cons a b => rw [List.length_cons, List.length_cons, DtA.len b]
theorem DtA.app {H : Hp} : ∀ {ds : List PyData} {vs : List V} {es : List PyData} {us : List V}, DtA H vs ds → DtA H us es → DtA H (vs ++ us) (ds ++ es)
  | [], _, _, _, h, k => by cases h; exact k
  | _ :: _, _, _, _, h, k => by cases h with | cons a b => exact .cons a (DtA.app b k)
theorem DtA.get {H : Hp} : ∀ {ds : List PyData} {vs : List V} {i : Nat} {d : PyData}, DtA H vs ds → ds[i]? = some d → ∃ v, vs[i]? = some v ∧ Dt H v d
  | [], _, _, _, _, k => by simp at k
  | _ :: _, _, 0, _, h, k => by
    cases h with
    | cons a b => rw [List.getElem?_cons_zero] at k; cases k; exact ⟨_, rfl, a⟩
  | _ :: _, _, i + 1, _, h, k => by
    cases h with
    | cons a b => rw [List.getElem?_cons_succ] at k; rw [List.getElem?_cons_succ]; exact DtA.get b k
theorem DtA.got {H : Hp} {ds : List PyData} {vs : List V} {i : Nat} {v : V} (h : DtA H vs ds) (k : vs[i]? = some v) : ∃ d, ds[i]? = some d ∧ Dt H v d := by
  have hi := (List.getElem?_eq_some_iff.mp k).1
  have hl := h.len
  obtain ⟨u, hu, d⟩ := h.get (List.getElem?_eq_getElem (show i < ds.length by omega))
  rw [k] at hu
  cases hu
  exact ⟨_, List.getElem?_eq_getElem (by omega), d⟩
theorem DtA.take {H : Hp} : ∀ {ds : List PyData} {vs : List V} (n : Nat), DtA H vs ds → DtA H (vs.take n) (ds.take n)
  | _, _, 0, _ => .nil
  | [], _, _ + 1, h => by cases h; exact .nil
  | _ :: _, _, n + 1, h => by cases h with | cons a b => exact .cons a (DtA.take n b)
theorem DtA.drop {H : Hp} : ∀ {ds : List PyData} {vs : List V} (n : Nat), DtA H vs ds → DtA H (vs.drop n) (ds.drop n)
  | _, _, 0, h => h
  | [], _, _ + 1, h => by cases h; exact .nil
  | _ :: _, _, n + 1, h => by cases h with | cons a b => exact DtA.drop n b
theorem DtA.rev {H : Hp} : ∀ {ds : List PyData} {vs : List V}, DtA H vs ds → DtA H vs.reverse ds.reverse
  | [], _, h => by cases h; exact .nil
  | _ :: _, _, h => by
    cases h with
    | cons a b => rw [List.reverse_cons, List.reverse_cons]; exact DtA.app (DtA.rev b) (.cons a .nil)
theorem DtA.ints {H : Hp} : ∀ ns : List Int, DtA H (ns.map V.int) (ns.map PyData.int)
  | [] => .nil
  | n :: r => .cons (.int n) (DtA.ints r)
theorem DtA.intsE {H : Hp} : ∀ {ns : List Int} {vs : List V}, DtA H vs (ns.map PyData.int) → vs = ns.map V.int
  | [], _, h => by cases h; rfl
  | n :: r, _, h => by
    cases h with
    | cons a b => cases a; rw [DtA.intsE b]; rfl
/-- a list of whole numbers -/
theorem Dt.ints {H : Hp} {a : Addr} {ns : List Int} (h : H a = some (.lst (ns.map V.int))) : Dt H (.ref a) (rowD ns) := .lst h (DtA.ints ns)
theorem Dt.intsE {H : Hp} {v : V} {ns : List Int} (h : Dt H v (rowD ns)) : ∃ a, v = .ref a ∧ H a = some (.lst (ns.map V.int)) := by
  unfold rowD at h
  cases h with
  | lst a b => rw [DtA.intsE b] at a; exact ⟨_, rfl, a⟩
theorem Dt.listE {H : Hp} {v : V} {ds : List PyData} (h : Dt H v (.list ds)) : ∃ a xs, v = .ref a ∧ H a = some (.lst xs) ∧ DtA H xs ds := by
  cases h with
  | lst a b => exact ⟨_, _, rfl, a, b⟩
theorem Dt.tupE {H : Hp} {v : V} {ds : List PyData} (h : Dt H v (.tuple ds)) : ∃ a xs, v = .ref a ∧ H a = some (.tup xs) ∧ DtA H xs ds := by
  cases h with
  | tup a b => exact ⟨_, _, rfl, a, b⟩
/-! ### what is owned (and changes) is left out -/
def rs (S : List Addr) (H : Hp) : Hp := fun a => if a ∈ S then none else H a
theorem rs_nil (H : Hp) : rs [] H = H := by funext a; simp [rs]
theorem rs_in {S : List Addr} {H : Hp} {a : Addr} (h : a ∈ S) : rs S H a = none := if_pos h
theorem rs_out {S : List Addr} {H : Hp} {a : Addr} (h : a ∉ S) : rs S H a = H a := if_neg h
theorem rs_some {S : List Addr} {H : Hp} {a : Addr} {o : HO} (h : rs S H a = some o) : a ∉ S ∧ H a = some o := by
  by_cases m : a ∈ S
  · rw [rs_in m] at h; cases h
  · rw [rs_out m] at h; exact ⟨m, h⟩
theorem rs_le {S : List Addr} {H : Hp} : Same (rs S H) H := fun _ _ h => (rs_some h).2
theorem rs_same {S : List Addr} {H H' : Hp} (s : Same H H') : Same (rs S H) (rs S H') := fun b o h => by
  obtain ⟨m, e⟩ := rs_some h
  rw [rs_out m]
  exact s b o e
theorem rs_upd {S : List Addr} {H : Hp} {p : Addr} {o : HO} (h : p ∈ S) : rs S (L2.upd H p o) = rs S H := by
  funext a
  by_cases m : a ∈ S
  · rw [rs_in m, rs_in m]
  · rw [rs_out m, rs_out m, upd_ne (fun e => m (by rw [e]; exact h))]
/-- all of them stand -/
def Has (S : List Addr) (H : Hp) : Prop := ∀ a ∈ S, ∃ o, H a = some o
theorem Has.nil {H : Hp} : Has [] H := fun _ h => nomatch h
theorem Has.same {S : List Addr} {H H' : Hp} (h : Has S H) (s : Same H H') : Has S H' := fun a m => by
  obtain ⟨o, e⟩ := h a m
  exact ⟨o, s a o e⟩
theorem Has.cons {S : List Addr} {H : Hp} {p : Addr} {o : HO} (h : Has S H) (e : H p = some o) : Has (p :: S) H := fun a m => by
  rcases List.mem_cons.mp m with rfl | m
  · exact ⟨o, e⟩
  · exact h a m
theorem Has.upd {S : List Addr} {H : Hp} {p : Addr} {o : HO} (h : Has S H) : Has S (L2.upd H p o) := fun a m => by
  by_cases e : a = p
  · subst e; exact ⟨o, upd_same⟩
  · rw [upd_ne e]; exact h a m
theorem Has.out {S : List Addr} {H : Hp} {p : Addr} (h : Has S H) (n : H p = none) : p ∉ S := fun m => by
  obtain ⟨o, e⟩ := h p m
  rw [n] at e
  cases e
theorem GenAt.has {H : Hp} {g : Addr} {n : Nat} (h : GenAt H g n) : Has [g] H := by
  obtain ⟨x, y, z, e, _⟩ := h
  exact Has.nil.cons e
/-- all but what is owned stays -/
def Sta (S : List Addr) (H H' : Hp) : Prop := Same (rs S H) (rs S H')
theorem Sta.of {S : List Addr} {H H' : Hp} (s : Same H H') : Sta S H H' := rs_same s
theorem Sta.trans {S : List Addr} {H H1 H2 : Hp} (a : Sta S H H1) (b : Sta S H1 H2) : Sta S H H2 := fun c o h => b c o (a c o h)
theorem Sta.at_ {S : List Addr} {H H' : Hp} (s : Sta S H H') {a : Addr} {o : HO} (m : a ∉ S) (h : H a = some o) : H' a = some o := (rs_some (s a o (by rw [rs_out m]; exact h))).2
theorem Sta.upd {S : List Addr} {H : Hp} {p : Addr} {o : HO} (h : p ∈ S) : Sta S H (L2.upd H p o) := fun c u e => by rw [rs_upd h]; exact e
theorem Sta.more {S : List Addr} {H H' : Hp} {p : Addr} (s : Sta S H H') : Sta (p :: S) H H' := fun c o h => by
  obtain ⟨m, e⟩ := rs_some h
  have m2 : c ∉ S := fun z => m (List.mem_cons_of_mem _ z)
  rw [rs_out m]
  exact s.at_ m2 e
theorem But.sta {g : Addr} {H H' : Hp} (b : But g H H') : Sta [g] H H' := fun c o h => by
  obtain ⟨m, e⟩ := rs_some h
  rw [rs_out m]
  exact b c o (fun z => m (by rw [z]; exact List.mem_cons_self)) e
/-- what was there ahead of a new thing does not speak of it -/
theorem under {S : List Addr} {H H' : Hp} {p : Addr} (n : H p = none) (s : Same H H') : Same (rs S H) (rs (p :: S) H') := fun c o h => by
  obtain ⟨m, e⟩ := rs_some h
  rw [rs_out (fun z => by
    rcases List.mem_cons.mp z with rfl | z
    · rw [n] at e; cases e
    · exact m z)]
  exact s c o e
theorem over {S : List Addr} {H : Hp} {p : Addr} : Same (rs (p :: S) H) (rs S H) := fun c o h => by
  obtain ⟨m, e⟩ := rs_some h
  rw [rs_out (fun z => m (List.mem_cons_of_mem _ z))]
  exact e
/-! ### a new list, a new tuple, a sum of lists -/
theorem dt_new {S : List Addr} {H : Hp} {p : Addr} {xs : List V} {ds : List PyData} (hS : Has S H) (n : H p = none) (h : DtA (rs S H) xs ds) : Dt (rs S (upd H p (.lst xs))) (.ref p) (.list ds) :=
  .lst (by rw [rs_out (hS.out n)]; exact upd_same) (h.same (rs_same (same_upd n)))
theorem dt_newT {S : List Addr} {H : Hp} {p : Addr} {xs : List V} {ds : List PyData} (hS : Has S H) (n : H p = none) (h : DtA (rs S H) xs ds) : Dt (rs S (upd H p (.tup xs))) (.ref p) (.tuple ds) :=
  .tup (by rw [rs_out (hS.out n)]; exact upd_same) (h.same (rs_same (same_upd n)))
theorem d_lst {S : List Addr} {H : Hp} {xs : List V} {ds : List PyData} {Q : VK} (hS : Has S H) (h : DtA (rs S H) xs ds) (hz : xs.length ≤ sizeLine) (k : ∀ p H', Same H H' → H p = none → H' p = some (.lst xs) → Dt (rs S H') (.ref p) (.list ds) → Q (.ref p) H') : xs.length ≤ sizeLine ∧ ∀ p, H p = none → Q (.ref p) (upd H p (.lst xs)) :=
  ⟨hz, fun p n => k p _ (same_upd n) n upd_same (dt_new hS n h)⟩
theorem d_tup {S : List Addr} {H : Hp} {xs : List V} {ds : List PyData} {Q : VK} (hS : Has S H) (h : DtA (rs S H) xs ds) (hz : xs.length ≤ sizeLine) (k : ∀ p H', Same H H' → H p = none → H' p = some (.tup xs) → Dt (rs S H') (.ref p) (.tuple ds) → Q (.ref p) H') : xs.length ≤ sizeLine ∧ ∀ p, H p = none → Q (.ref p) (upd H p (.tup xs)) :=
  ⟨hz, fun p n => k p _ (same_upd n) n upd_same (dt_newT hS n h)⟩
theorem d_cat {S : List Addr} {H : Hp} {v w : V} {ds es : List PyData} {Q : VK} (hS : Has S H) (hv : Dt (rs S H) v (.list ds)) (hw : Dt (rs S H) w (.list es)) (hz : ds.length + es.length ≤ sizeLine) (k : ∀ p H', Same H H' → H p = none → Dt (rs S H') (.ref p) (.list (ds ++ es)) → Q (.ref p) H') : rCat v w H Q := by
  obtain ⟨a, xs, rfl, ha, hx⟩ := hv.listE
  obtain ⟨b, ys, rfl, hb, hy⟩ := hw.listE
  exact ⟨a, b, xs, ys, rfl, rfl, (rs_some ha).2, (rs_some hb).2, by rw [hx.len, hy.len]; exact hz, fun p n => k p _ (same_upd n) n (dt_new hS n (hx.app hy))⟩
theorem d_eq {K : PySem.W.Frag} {H : Hp} {v w : V} {d e : PyData} {Q : VK} (hv : Dt H v d) (hw : Dt H w e) (sd : SeqAt.shaped d = true) (se : SeqAt.shaped e = true) (q : Q (.bl (PyData.eqv d e)) H) : rEqD K v w H Q := ⟨d, e, hv.dp, hw.dp, sd, se, q⟩
theorem d_ne {K : PySem.W.Frag} {H : Hp} {v w : V} {d e : PyData} {Q : VK} (hv : Dt H v d) (hw : Dt H w e) (sd : SeqAt.shaped d = true) (se : SeqAt.shaped e = true) (q : Q (.bl (!PyData.eqv d e)) H) : rNeD K v w H Q := ⟨d, e, hv.dp, hw.dp, sd, se, q⟩
/-! ### comprehensions -/
/-- what comes of an item: nothing, or data -/
def Out (S : List Addr) (H : Hp) : Option PyData → Option V → Prop
  | some d, some v => Dt (rs S H) v d
  | none, none => True
  | _, _ => False
def accP (S : List Addr) (H1 : Hp) (D : Addr) (ds : List PyData) (H : Hp) : Prop := Same H1 H ∧ ∃ ys, H D = some (.lst ys) ∧ DtA (rs (D :: S) H) ys ds
theorem acc_step {S : List Addr} {H1 : Hp} {D : Addr} {sel : List (Option PyData)} {i : Nat} {o : Option PyData} {H H4 : Hp} (nD : H1 D = none) (ho : sel[i]? = some o) (hz : sel.length < sizeLine) (h : accP S H1 D ((sel.take i).filterMap id) H) (s4 : Same H H4) :
    ∀ y : Option V, Out (D :: S) H4 o y → match y with
      | some v => ∃ acc, H4 D = some (.lst acc) ∧ acc.length < sizeLine ∧ accP S H1 D ((sel.take (i + 1)).filterMap id) (upd H4 D (.lst (acc ++ [v])))
      | none => accP S H1 D ((sel.take (i + 1)).filterMap id) H4 := by
  obtain ⟨s, ys, hD, hy⟩ := h
  intro y hO
  rw [take_fm ho]
  cases o with
  | none =>
    cases y with
    | none => exact ⟨s.trans s4, ys, s4 _ _ hD, by simpa using hy.same (rs_same s4)⟩
    | some v => exact absurd hO (fun z => z)
  | some d =>
    cases y with
    | none => exact absurd hO (fun z => z)
    | some v =>
      refine ⟨ys, s4 _ _ hD, ?_, same_over nD (s.trans s4), ys ++ [v], upd_same, ?_⟩
      · rw [hy.len]
        exact Nat.lt_of_le_of_lt (fm_len sel i) hz
      · rw [rs_upd List.mem_cons_self]
        exact (hy.same (rs_same s4)).app (.cons hO .nil)
theorem acc_end {S : List Addr} {H1 : Hp} {D : Addr} {ds : List PyData} {H : Hp} (hS : Has S H1) (nD : H1 D = none) (h : accP S H1 D ds H) : Dt (rs S H) (.ref D) (.list ds) := by
  obtain ⟨s, ys, hD, hy⟩ := h
  exact .lst (by rw [rs_out (hS.out nD)]; exact hD) (hy.same over)
theorem lc_dR {lo : Int} {n : Nat} {j : Nat} {tt : TT} {te : TE} {vs : List Nat} {σ : L2.St} {H1 : Hp} {D : Addr} {Qd : Hp → Prop} {S : List Addr} (hS : Has S H1) (sel : List (Option PyData)) (nD : H1 D = none) (hlen : sel.length = n) (hz : n < sizeLine)
    (hw : ∀ x, wipe ((wipe σ vs).set j (some x)) vs = wipe σ vs)
    (hs : ∀ (i : Nat) (o : Option PyData) (H' : Hp), i < n → sel[i]? = some o → Same H1 H' → Has (D :: S) H' → ∀ Qt : Option V → Hp → Prop, (∀ y H'', Same H' H'' → Out (D :: S) H'' o y → Qt y H'') →
      tt ((wipe σ vs).set j (some (.int (lo + (i : Int))))) H' fun b H3 => if b = true then te ((wipe σ vs).set j (some (.int (lo + (i : Int))))) H3 fun y H4 => Qt (some y) H4 else Qt none H3)
    (hd : ∀ H', Same H1 H' → H' D ≠ none → Dt (rs S H') (.ref D) (.list (sel.filterMap id)) → Qd H') :
    ∃ W : Nat → Nat → Hp → Prop, (∃ m, W 0 m (upd H1 D (.lst []))) ∧ ∀ i m H, W i m H →
      ((Itr lo n).stop i H ∧ Qd H) ∨ ((Itr lo n).go i H ∧ ∃ Nx : Hp → Prop, (∀ H', Nx H' → ∃ m', m' < m ∧ W (i + 1) m' H') ∧ ∀ x H', (Itr lo n).yld i H x H' → gName j x (wipe σ vs) H' fun σ2 H2 => wipe σ2 vs = wipe σ vs ∧ tt σ2 H2 fun b H3 =>
        if b = true then te σ2 H3 fun y H4 => ∃ acc, H4 D = some (.lst acc) ∧ acc.length < sizeLine ∧ Nx (upd H4 D (.lst (acc ++ [y]))) else Nx H3) := by
  refine lc_range (lo := lo) (n := n) (fun i H => accP S H1 D ((sel.take i).filterMap id) H) ⟨same_upd nD, [], upd_same, .nil⟩ ?_ ?_
  · rintro i H hi h
    refine ⟨hw _, ?_⟩
    have ho : sel[i]? = some (sel[i]'(by omega)) := List.getElem?_eq_getElem (by omega)
    obtain ⟨s, ys, hD, hy⟩ := id h
    exact hs i _ H hi ho s ((hS.same s).cons hD) (fun o H4 => match o with
      | some y => ∃ acc, H4 D = some (.lst acc) ∧ acc.length < sizeLine ∧ accP S H1 D ((sel.take (i + 1)).filterMap id) (upd H4 D (.lst (acc ++ [y])))
      | none => accP S H1 D ((sel.take (i + 1)).filterMap id) H4) fun y H4 s4 hO => acc_step nD ho (by omega) h s4 y hO
  · rintro H h
    rw [← hlen, List.take_length] at h
    refine hd H h.1 ?_ (acc_end hS nD h)
    obtain ⟨_, ys, hD, _⟩ := h
    rw [hD]
    exact fun z => nomatch z
theorem lc_dL {K : PySem.W.Frag} {a : Addr} {xs : List V} {j : Nat} {tt : TT} {te : TE} {vs : List Nat} {σ : L2.St} {H1 : Hp} {D : Addr} {Qd : Hp → Prop} {S : List Addr} (hS : Has S H1) (sel : List (Option PyData)) (nD : H1 D = none) (hA : SqL K H1 a xs) (hlen : sel.length = xs.length) (hz : xs.length < sizeLine)
    (hw : ∀ x, wipe ((wipe σ vs).set j (some x)) vs = wipe σ vs)
    (hs : ∀ (i : Nat) (x : V) (o : Option PyData) (H' : Hp), xs[i]? = some x → sel[i]? = some o → Same H1 H' → Has (D :: S) H' → ∀ Qt : Option V → Hp → Prop, (∀ y H'', Same H' H'' → Out (D :: S) H'' o y → Qt y H'') →
      tt ((wipe σ vs).set j (some x)) H' fun b H3 => if b = true then te ((wipe σ vs).set j (some x)) H3 fun y H4 => Qt (some y) H4 else Qt none H3)
    (hd : ∀ H', Same H1 H' → H' D ≠ none → Dt (rs S H') (.ref D) (.list (sel.filterMap id)) → Qd H') :
    ∃ W : Nat → Nat → Hp → Prop, (∃ m, W 0 m (upd H1 D (.lst []))) ∧ ∀ i m H, W i m H →
      ((Itl K a).stop i H ∧ Qd H) ∨ ((Itl K a).go i H ∧ ∃ Nx : Hp → Prop, (∀ H', Nx H' → ∃ m', m' < m ∧ W (i + 1) m' H') ∧ ∀ x H', (Itl K a).yld i H x H' → gName j x (wipe σ vs) H' fun σ2 H2 => wipe σ2 vs = wipe σ vs ∧ tt σ2 H2 fun b H3 =>
        if b = true then te σ2 H3 fun y H4 => ∃ acc, H4 D = some (.lst acc) ∧ acc.length < sizeLine ∧ Nx (upd H4 D (.lst (acc ++ [y]))) else Nx H3) := by
  refine lc_list (K := K) (a := a) (xs := xs) (fun i H => accP S H1 D ((sel.take i).filterMap id) H) ⟨same_upd nD, [], upd_same, .nil⟩ (fun i H _ p => p.1.seq hA) ?_ ?_
  · rintro i x H hx h
    refine ⟨hw _, ?_⟩
    have hi := (List.getElem?_eq_some_iff.mp hx).1
    have ho : sel[i]? = some (sel[i]'(by omega)) := List.getElem?_eq_getElem (by omega)
    obtain ⟨s, ys, hD, hy⟩ := id h
    exact hs i x _ H hx ho s ((hS.same s).cons hD) (fun o H4 => match o with
      | some y => ∃ acc, H4 D = some (.lst acc) ∧ acc.length < sizeLine ∧ accP S H1 D ((sel.take (i + 1)).filterMap id) (upd H4 D (.lst (acc ++ [y])))
      | none => accP S H1 D ((sel.take (i + 1)).filterMap id) H4) fun y H4 s4 hO => acc_step nD ho (by omega) h s4 y hO
  · rintro H h
    rw [← hlen, List.take_length] at h
    refine hd H h.1 ?_ (acc_end hS nD h)
    obtain ⟨_, ys, hD, _⟩ := h
    rw [hD]
    exact fun z => nomatch z
/-- maps: each item's data -/
theorem sel_map {α : Type} (l : List α) (f : α → PyData) : (l.map fun x => some (f x)).filterMap id = l.map f := by
  induction l with
  | nil => rfl
  | cons x l ih =>
    show f x :: (l.map fun x => some (f x)).filterMap id = _
    rw [ih]
    rfl
/-- over any walk -/
theorem lc_dW {J : It} {n : Nat} {G : Hp → Prop} {Y : Nat → Hp → V → Hp → Prop} (w : Walk J n G Y) {g : TG} {tt : TT} {te : TE} {vs : List Nat} {σ : L2.St} {H1 : Hp} {D : Addr} {Qd : Hp → Prop} {S : List Addr} (hS : Has S H1) (sel : List (Option PyData)) (nD : H1 D = none) (hlen : sel.length = n) (hz : n < sizeLine)
    (hG : ∀ H', Same H1 H' → G H')
    (hs : ∀ (i : Nat) (o : Option PyData) (H0 : Hp) (x : V) (H' : Hp), i < n → sel[i]? = some o → Same H1 H0 → Has (D :: S) H0 → Y i H0 x H' → ∀ Qt : Option V → Hp → Prop, (∀ y H'', Same H0 H'' → Out (D :: S) H'' o y → Qt y H'') →
      g x (wipe σ vs) H' fun σ2 H2 => wipe σ2 vs = wipe σ vs ∧ tt σ2 H2 fun b H3 => if b = true then te σ2 H3 fun y H4 => Qt (some y) H4 else Qt none H3)
    (hd : ∀ H', Same H1 H' → H' D ≠ none → Dt (rs S H') (.ref D) (.list (sel.filterMap id)) → Qd H') :
    ∃ W : Nat → Nat → Hp → Prop, (∃ m, W 0 m (upd H1 D (.lst []))) ∧ ∀ i m H, W i m H →
      (J.stop i H ∧ Qd H) ∨ (J.go i H ∧ ∃ Nx : Hp → Prop, (∀ H', Nx H' → ∃ m', m' < m ∧ W (i + 1) m' H') ∧ ∀ x H', J.yld i H x H' → g x (wipe σ vs) H' fun σ2 H2 => wipe σ2 vs = wipe σ vs ∧ tt σ2 H2 fun b H3 =>
        if b = true then te σ2 H3 fun y H4 => ∃ acc, H4 D = some (.lst acc) ∧ acc.length < sizeLine ∧ Nx (upd H4 D (.lst (acc ++ [y]))) else Nx H3) := by
  refine lc_it w (fun i H => accP S H1 D ((sel.take i).filterMap id) H) ⟨same_upd nD, [], upd_same, .nil⟩ (fun i H _ p => hG H p.1) ?_ ?_
  · rintro i x H H' hi h y
    have ho : sel[i]? = some (sel[i]'(by omega)) := List.getElem?_eq_getElem (by omega)
    obtain ⟨s, ys, hD, hy⟩ := id h
    exact hs i _ H x H' hi ho s ((hS.same s).cons hD) y (fun o H4 => match o with
      | some y => ∃ acc, H4 D = some (.lst acc) ∧ acc.length < sizeLine ∧ accP S H1 D ((sel.take (i + 1)).filterMap id) (upd H4 D (.lst (acc ++ [y])))
      | none => accP S H1 D ((sel.take (i + 1)).filterMap id) H4) fun y H4 s4 hO => acc_step nD ho (by omega) h s4 y hO
  · rintro H h
    rw [← hlen, List.take_length] at h
    refine hd H h.1 ?_ (acc_end hS nD h)
    obtain ⟨_, ys, hD, _⟩ := h
    rw [hD]
    exact fun z => nomatch z
theorem dt_pairs {K : PySem.W.Frag} {H : Hp} {a : Addr} {ps : List (Int × Int)} (h : Dt H (.ref a) (.list (ps.map pairD))) : PairsAt K H a ps := by
  cases h with
  | lst ha hx =>
    rename_i xs
    have key : ∀ (ps : List (Int × Int)) (xs : List V), DtA H xs (ps.map pairD) → ∃ as : List Addr, xs = as.map V.ref ∧ as.length = ps.length ∧ ∀ (i : Nat) (t : Addr) (p : Int × Int), as[i]? = some t → ps[i]? = some p → SqT K H t [.int p.1, .int p.2] := fun ps => by
      induction ps with
      | nil => intro xs h; cases h; exact ⟨[], rfl, rfl, fun i t p ht => by simp at ht⟩
      | cons p ps ih =>
        intro xs h
        cases h with
        | cons b c =>
          obtain ⟨as, rfl, hl, k⟩ := ih _ c
          obtain ⟨t, ys, rfl, ht, hy⟩ := (show Dt H _ (.tuple [.int p.1, .int p.2]) from b).tupE
          rw [DtA.intsE (ns := [p.1, p.2]) hy] at ht
          refine ⟨t :: as, rfl, by rw [List.length_cons, List.length_cons, hl], fun i u q hu hq => ?_⟩
          cases i with
          | zero =>
            rw [List.getElem?_cons_zero] at hu hq
            cases hu
            cases hq
            exact .inl (.inl ht)
          | succ i =>
            rw [List.getElem?_cons_succ] at hu hq
            exact k i u q hu hq
    obtain ⟨as, rfl, hl, k⟩ := key ps xs hx
    exact ⟨as, .inl (.inl ha), hl, k⟩
end My

namespace My
open PySem PySem.Spec PyProof.Rows L2 Pre
/-! ### texts of bits -/
def sgn (b : Bool) : Nat := if b = true then 49 else 48
def bS (bs : List Bool) : Str := ⟨(bs.map sgn).toArray⟩
theorem bS_len (bs : List Bool) : (bS bs).length = bs.length := by simp [bS, Str.length]
theorem bS_size (bs : List Bool) : (bS bs).cps.size = bs.length := by simp [bS]
theorem bS_app (a b : List Bool) : bS a ++ bS b = bS (a ++ b) := by
  show (⟨(bS a).cps ++ (bS b).cps⟩ : Str) = _
  unfold bS
  rw [List.map_append, List.append_toArray]
theorem sgn_inj {a b : Bool} (h : sgn a = sgn b) : a = b := by cases a <;> cases b <;> first | rfl | (simp [sgn] at h)
theorem bS_inj {a b : List Bool} (h : bS a = bS b) : a = b := by
  have e : a.map sgn = b.map sgn := by
    have := congrArg (fun z : Str => z.cps.toList) h
    simpa [bS] using this
  induction a generalizing b with
  | nil => cases b with
    | nil => rfl
    | cons _ _ => simp at e
  | cons x r ih => cases b with
    | nil => simp at e
    | cons y q =>
      rw [List.map_cons, List.map_cons, List.cons.injEq] at e
      have hr : bS r = bS q := by
        have z : r.map sgn = q.map sgn := e.2
        unfold bS
        rw [z]
      rw [sgn_inj e.1, ih hr e.2]
theorem bS_at {bs : List Bool} {i c : Nat} (h : (bS bs).cps[i]? = some c) : ∃ b, bs[i]? = some b ∧ (⟨#[c]⟩ : Str) = bS [b] := by
  have e : (bs.map sgn)[i]? = some c := by
    unfold bS at h
    rw [← h]
    simp
  rw [List.getElem?_map] at e
  obtain ⟨b, hb, rfl⟩ := Option.map_eq_some_iff.mp e
  exact ⟨b, hb, rfl⟩
theorem bS_atI {bs : List Bool} {i : Nat} {b : Bool} (h : bs[i]? = some b) : atI (bS bs).cps.toList (i : Int) = some (sgn b) := by
  refine atI_nat ?_
  unfold bS
  simp [h]
theorem bS_one (b : Bool) : (⟨#[sgn b]⟩ : Str) = bS [b] := rfl
theorem str_one : (("1" : String) : Str) = bS [true] := by decide +kernel
theorem str_nil : (("" : String) : Str) = bS [] := by decide +kernel
theorem str_zero : (("0" : String) : Str) = bS [false] := by decide +kernel
theorem dec_bS (a b : List Bool) : decide (V.str (bS a) = V.str (bS b)) = decide (a = b) := by
  by_cases h : a = b
  · subst h; simp
  · rw [decide_eq_false h, decide_eq_false]
    exact fun z => h (bS_inj (V.str.inj z))
theorem one_sign (b : Bool) : decide (V.str (bS [b]) = V.str (("1" : String) : Str)) = b := by
  rw [str_one, dec_bS]
  cases b <;> rfl
theorem reps_list (c : List Nat) : ∀ (k : Nat) (acc : List Nat), (List.replicate k c.toArray).foldl (· ++ ·) acc.toArray = (acc ++ (List.replicate k c).flatten).toArray
  | 0, acc => by simp
  | k + 1, acc => by
    rw [List.replicate_succ, List.foldl_cons, List.append_toArray, reps_list c k, List.replicate_succ, List.flatten_cons, List.append_assoc]
theorem bS_mul (k : Nat) : Txt.mul (("0" : String) : Str) (k : Int) = bS (List.replicate k false) := by
  rw [str_zero]
  unfold Txt.mul
  by_cases h0 : (k : Int) < 1
  · rw [if_pos h0, show k = 0 by omega]
    rfl
  · rw [if_neg h0]
    by_cases h1 : k = 1
    · subst h1
      rfl
    · rw [if_neg (by
        rw [Bool.or_eq_true, beq_iff_eq, beq_iff_eq, bS_len]
        simp
        omega), Int.toNat_natCast]
      have := reps_list [48] k []
      unfold bS
      rw [List.map_replicate]
      show (⟨(List.replicate k ([48] : List Nat).toArray).foldl (· ++ ·) ([] : List Nat).toArray⟩ : Str) = _
      rw [this, List.nil_append]
      have e : (List.replicate k [48]).flatten = List.replicate k 48 := by
        clear this h0 h1
        induction k with
        | zero => rfl
        | succ k ih => rw [List.replicate_succ, List.flatten_cons, ih, List.replicate_succ]; rfl
      rw [e]
      rfl
theorem join_bits (bs : List Bool) : Txt.join (("" : String) : Str) (bs.map fun b => bS [b]) = bS bs := by
  rw [TL.join_eq]
  have e0 : TL.tl ((("" : String) : Str)) = [] := by rw [str_nil]; rfl
  have key : ∀ bs : List Bool, TL.joinL [] ((bs.map fun b => bS [b]).map TL.tl) = bs.map sgn := by
    intro bs
    induction bs with
    | nil => rfl
    | cons b r ih =>
      cases r with
      | nil => rfl
      | cons c q =>
        show TL.tl (bS [b]) ++ ([] ++ TL.joinL [] (((c :: q).map fun b => bS [b]).map TL.tl)) = _
        rw [ih]
        rfl
  have h := TL.tl_join (("" : String) : Str) (bs.map fun b => bS [b])
  rw [e0, key] at h
  unfold bS
  rw [← h]
  exact (TL.mk_tl _).symm
section
variable {X : Cx}
def rRepS : R2 := fun x y H Q => ∃ (z : Str) (n : Nat), x = .str z ∧ y = .int n ∧ z.length ≤ 100 ∧ n ≤ 10000 ∧ Q (.str (Txt.mul z n)) H
theorem op_rep_str : OpR X (binaryOp .Mult) rRepS := by
  intro pins s σ H x y v u Q I rx ry h
  obtain ⟨z, n, rfl, rfl, hz, hn, q⟩ := h
  obtain ⟨t, rfl⟩ := rx
  obtain ⟨t', rfl⟩ := ry
  exact PySem.SB.mul (mulOk_of 100 10000 hz (by omega) (by omega) (by decide) (by decide)) fun t' k => ⟨.str (Txt.mul z n), H, I.tok _, ⟨_, rfl⟩, q⟩
end
end My

set_option linter.all false
set_option linter.unusedSectionVars false
namespace My
/-! ### rests of rows by a check: numbers stand for sums of powers over two -/
def red (w W x : Nat) : Nat := if x >>> w = 1 then x ^^^ W else x
def remN (w W : Nat) : Nat → Nat → Nat
  | 0, _ => 0
  | k + 1, n => red w W (2 * remN w W k (n / 2) + n % 2)
def rem (w W n : Nat) : Nat := remN w W (n.log2 + 1) n
def sh (w W a : Nat) : Nat := red w W (2 * a)
structure Ck (w W : Nat) : Prop where
  pos : 1 ≤ w
  lo : 2 ^ w < W
  hi : W < 2 ^ (w + 1)
  odd : W % 2 = 1
theorem red_zero (w W : Nat) : red w W 0 = 0 := by simp [red]
theorem shr1 {w x : Nat} (h : x < 2 ^ (w + 1)) : x >>> w = 1 ↔ 2 ^ w ≤ x := by
  rw [Nat.shiftRight_eq_div_pow]
  have hp : 0 < 2 ^ w := Nat.pow_pos (by omega)
  rw [Nat.pow_succ] at h
  constructor
  · intro e
    by_cases c : x < 2 ^ w
    · rw [Nat.div_eq_of_lt c] at e
      omega
    · omega
  · intro c
    have h1 : 1 ≤ x / 2 ^ w := (Nat.le_div_iff_mul_le hp).mpr (by omega)
    have h2 : x / 2 ^ w < 2 := (Nat.div_lt_iff_lt_mul hp).mpr (by omega)
    omega
theorem bit_top {w x : Nat} (h : x < 2 ^ (w + 1)) : x.testBit w = decide (2 ^ w ≤ x) := by
  have e := Nat.testBit_eq_decide_div_mod_eq (x := x) (i := w)
  rw [e]
  have hp : 0 < 2 ^ w := Nat.pow_pos (by omega)
  rw [Nat.pow_succ] at h
  by_cases c : 2 ^ w ≤ x
  · have h1 : 1 ≤ x / 2 ^ w := (Nat.le_div_iff_mul_le hp).mpr (by omega)
    have h2 : x / 2 ^ w < 2 := (Nat.div_lt_iff_lt_mul hp).mpr (by omega)
    have h3 : x / 2 ^ w = 1 := by omega
    simp [h3, c]
  · have h3 : x / 2 ^ w = 0 := Nat.div_eq_of_lt (by omega)
    simp [h3, c]
theorem xor_low {w x W : Nat} (hx : x < 2 ^ (w + 1)) (hW : W < 2 ^ (w + 1)) (h1 : 2 ^ w ≤ x) (h2 : 2 ^ w ≤ W) : x ^^^ W < 2 ^ w := by
  refine Nat.lt_pow_two_of_testBit _ fun i hi => ?_
  rw [Nat.testBit_xor]
  rcases Nat.lt_or_ge w i with c | c
  · have e : (2 : Nat) ^ (w + 1) ≤ 2 ^ i := Nat.pow_le_pow_right (by omega) c
    rw [Nat.testBit_lt_two_pow (by omega), Nat.testBit_lt_two_pow (by omega)]
    rfl
  · have e : i = w := by omega
    subst e
    rw [bit_top hx, bit_top hW, decide_eq_true h1, decide_eq_true h2]
    rfl
theorem xor_high {w x y : Nat} (hx : x < 2 ^ w) (hy : y < 2 ^ (w + 1)) (h2 : 2 ^ w ≤ y) : 2 ^ w ≤ x ^^^ y ∧ x ^^^ y < 2 ^ (w + 1) := by
  have hp : 2 ^ (w + 1) = 2 ^ w * 2 := Nat.pow_succ ..
  have hl : x ^^^ y < 2 ^ (w + 1) := Nat.xor_lt_two_pow (by omega) hy
  refine ⟨?_, hl⟩
  have e := bit_top hl
  rw [Nat.testBit_xor, bit_top (show x < 2 ^ (w + 1) by omega), bit_top hy, decide_eq_true h2, decide_eq_false (show ¬ 2 ^ w ≤ x by omega)] at e
  exact of_decide_eq_true e.symm
section
variable {w W : Nat} (C : Ck w W)
include C
theorem red_lt {x : Nat} (h : x < 2 ^ (w + 1)) : red w W x < 2 ^ w := by
  unfold red
  have s := shr1 h
  by_cases c : 2 ^ w ≤ x
  · rw [if_pos (s.mpr c)]
    exact xor_low h C.hi c (Nat.le_of_lt C.lo)
  · rw [if_neg (fun z => c (s.mp z))]
    omega
theorem red_id {x : Nat} (h : x < 2 ^ w) : red w W x = x := by
  unfold red
  have hp : 2 ^ (w + 1) = 2 ^ w * 2 := Nat.pow_succ ..
  rw [if_neg fun z => by
    have := (shr1 (w := w) (x := x) (by omega)).mp z
    omega]
theorem red_hi {x : Nat} (h : x < 2 ^ (w + 1)) (c : 2 ^ w ≤ x) : red w W x = x ^^^ W := by
  unfold red
  rw [if_pos ((shr1 h).mpr c)]
theorem red_xor {x y : Nat} (hx : x < 2 ^ (w + 1)) (hy : y < 2 ^ (w + 1)) : red w W (x ^^^ y) = red w W x ^^^ red w W y := by
  have hp : 2 ^ (w + 1) = 2 ^ w * 2 := Nat.pow_succ ..
  by_cases c : 2 ^ w ≤ x <;> by_cases d : 2 ^ w ≤ y
  · rw [red_hi C hx c, red_hi C hy d, red_id C (xor_low hx hy c d)]
    rw [Nat.xor_assoc, Nat.xor_comm y W, ← Nat.xor_assoc W W y, Nat.xor_self, Nat.zero_xor]
  · have hh := xor_high (show y < 2 ^ w by omega) hx c
    rw [red_hi C hx c, red_id C (show y < 2 ^ w by omega), Nat.xor_comm x y, red_hi C hh.2 hh.1]
    rw [Nat.xor_comm y x, Nat.xor_assoc, Nat.xor_assoc, Nat.xor_comm y W]
  · have hh := xor_high (show x < 2 ^ w by omega) hy d
    rw [red_hi C hy d, red_id C (show x < 2 ^ w by omega), red_hi C hh.2 hh.1, Nat.xor_assoc]
  · rw [red_id C (show x < 2 ^ w by omega), red_id C (show y < 2 ^ w by omega), red_id C (Nat.xor_lt_two_pow (show x < 2 ^ w by omega) (show y < 2 ^ w by omega))]
omit C in
theorem remN_stab : ∀ (k j n : Nat), n < 2 ^ k → n < 2 ^ j → remN w W k n = remN w W j n
  | 0, 0, _, _, _ => rfl
  | 0, j + 1, n, h, _ => by
    have e : n = 0 := by omega
    subst e
    have : ∀ j, remN w W j 0 = 0 := fun j => by
      induction j with
      | zero => rfl
      | succ j ih => rw [remN, Nat.zero_div, ih]; exact red_zero ..
    rw [this, this]
  | k + 1, 0, n, _, h => by
    have e : n = 0 := by omega
    subst e
    have : ∀ j, remN w W j 0 = 0 := fun j => by
      induction j with
      | zero => rfl
      | succ j ih => rw [remN, Nat.zero_div, ih]; exact red_zero ..
    rw [this, this]
  | k + 1, j + 1, n, h1, h2 => by
    rw [Nat.pow_succ] at h1 h2
    rw [remN, remN, remN_stab k j (n / 2) (by omega) (by omega)]
omit C in
theorem rem_fuel {k n : Nat} (h : n < 2 ^ k) : rem w W n = remN w W k n := remN_stab _ _ _ Nat.lt_log2_self h
omit C in
theorem rem_zero : rem w W 0 = 0 := by rw [rem_fuel (k := 0) (by omega)]; rfl
omit C in
theorem rem_step (n : Nat) : rem w W n = red w W (2 * rem w W (n / 2) + n % 2) := by
  have h : n < 2 ^ (n.log2 + 1) := Nat.lt_log2_self
  rw [rem_fuel (k := n.log2) (n := n / 2) (by rw [Nat.pow_succ] at h; omega)]
  rfl
omit C in
theorem rem_bit (m b : Nat) (hb : b < 2) : rem w W (2 * m + b) = red w W (2 * rem w W m + b) := by
  rw [rem_step, show (2 * m + b) / 2 = m by omega, show (2 * m + b) % 2 = b by omega]
theorem rem_lt (n : Nat) : rem w W n < 2 ^ w := by
  induction n using Nat.strongRecOn with
  | _ n ih =>
    by_cases h : n = 0
    · subst h
      rw [rem_zero]
      exact Nat.pow_pos (by omega)
    · rw [rem_step]
      refine red_lt C ?_
      have := ih (n / 2) (by omega)
      rw [Nat.pow_succ]
      omega
omit C in
theorem xor_bit (a b p q : Nat) (hp : p < 2) (hq : q < 2) : (2 * a + p) ^^^ (2 * b + q) = 2 * (a ^^^ b) + (p ^^^ q) := by
  have hpq : p ^^^ q < 2 := Nat.xor_lt_two_pow (n := 1) hp hq
  have e1 : ((2 * a + p) ^^^ (2 * b + q)) / 2 = a ^^^ b := by rw [Nat.xor_div_two, show (2 * a + p) / 2 = a by omega, show (2 * b + q) / 2 = b by omega]
  have e2 : ((2 * a + p) ^^^ (2 * b + q)) % 2 = p ^^^ q := by
    have h := Nat.testBit_xor (2 * a + p) (2 * b + q) 0
    rw [Nat.testBit_zero, Nat.testBit_zero, Nat.testBit_zero] at h
    rw [show (2 * a + p) % 2 = p by omega, show (2 * b + q) % 2 = q by omega] at h
    have c1 : p = 0 ∨ p = 1 := by omega
    have c2 : q = 0 ∨ q = 1 := by omega
    generalize (2 * a + p) ^^^ (2 * b + q) = N at h ⊢
    have z : (0 : Nat) ^^^ 0 = 0 := rfl
    have o : (1 : Nat) ^^^ 1 = 0 := rfl
    have zo : (0 : Nat) ^^^ 1 = 1 := rfl
    have oz : (1 : Nat) ^^^ 0 = 1 := rfl
    rcases c1 with e3 | e3 <;> rcases c2 with e4 | e4 <;> rw [e3, e4] at h ⊢ <;> simp only [z, o, zo, oz] <;> simp at h <;> omega
  omega
theorem rem_xor : ∀ n m : Nat, rem w W (n ^^^ m) = rem w W n ^^^ rem w W m := by
  intro n
  induction n using Nat.strongRecOn with
  | _ n ih =>
    intro m
    by_cases h : n = 0
    · subst h
      rw [Nat.zero_xor, rem_zero, Nat.zero_xor]
    · have e := xor_bit (n / 2) (m / 2) (n % 2) (m % 2) (by omega) (by omega)
      rw [show 2 * (n / 2) + n % 2 = n by omega, show 2 * (m / 2) + m % 2 = m by omega] at e
      have hb : n % 2 ^^^ m % 2 < 2 := Nat.xor_lt_two_pow (n := 1) (by omega) (by omega)
      rw [e, rem_bit _ _ hb, ih _ (by omega), rem_step n, rem_step m]
      have l1 := rem_lt C (n / 2)
      have l2 := rem_lt C (m / 2)
      have hp : 2 ^ (w + 1) = 2 ^ w * 2 := Nat.pow_succ ..
      rw [← red_xor C (by omega) (by omega), xor_bit _ _ _ _ (by omega) (by omega)]
theorem rem_small : ∀ n : Nat, n < 2 ^ w → rem w W n = n := by
  intro n
  induction n using Nat.strongRecOn with
  | _ n ih =>
    intro hn
    by_cases h : n = 0
    · subst h
      exact rem_zero
    · rw [rem_step, ih _ (by omega) (by omega), show 2 * (n / 2) + n % 2 = n by omega]
      exact red_id C hn
theorem rem_self : rem w W W = 0 := by
  have h := C.hi
  have hl := C.lo
  have hp : 2 ^ (w + 1) = 2 ^ w * 2 := Nat.pow_succ ..
  rw [rem_step, rem_small C _ (by omega), show 2 * (W / 2) + W % 2 = W by omega, red_hi C h (by omega), Nat.xor_self]
omit C in
theorem rem_dbl (n : Nat) : rem w W (2 * n) = sh w W (rem w W n) := rem_bit n 0 (by omega)
theorem rem_shl (n k : Nat) (h : rem w W n = 0) : rem w W (n <<< k) = 0 := by
  induction k with
  | zero => exact h
  | succ k ih =>
    rw [Nat.shiftLeft_eq, Nat.pow_succ, ← Nat.mul_assoc, Nat.mul_comm, ← Nat.shiftLeft_eq, rem_dbl, ih]
    exact red_zero ..
theorem sh_lt {a : Nat} (h : a < 2 ^ w) : sh w W a < 2 ^ w := red_lt C (by rw [Nat.pow_succ]; omega)
theorem sh_xor {a b : Nat} (ha : a < 2 ^ w) (hb : b < 2 ^ w) : sh w W (a ^^^ b) = sh w W a ^^^ sh w W b := by
  have hp : 2 ^ (w + 1) = 2 ^ w * 2 := Nat.pow_succ ..
  unfold sh
  rw [← red_xor C (by omega) (by omega)]
  have e := xor_bit a b 0 0 (by omega) (by omega)
  simp only [Nat.add_zero, Nat.xor_self] at e
  rw [e]
theorem sh_zero {a : Nat} (ha : a < 2 ^ w) (h : sh w W a = 0) : a = 0 := by
  have hp : 2 ^ (w + 1) = 2 ^ w * 2 := Nat.pow_succ ..
  unfold sh at h
  by_cases c : 2 ^ w ≤ 2 * a
  · rw [red_hi C (by omega) c] at h
    have e : 2 * a = W := by
      have : (2 * a ^^^ W) ^^^ W = 0 ^^^ W := by rw [h]
      rw [Nat.xor_assoc, Nat.xor_self, Nat.xor_zero, Nat.zero_xor] at this
      exact this
    have := C.odd
    omega
  · rw [red_id C (by omega)] at h
    omega
omit C in
theorem xor_eq0 {a b : Nat} : a ^^^ b = 0 ↔ a = b := by
  constructor
  · intro h
    have : (a ^^^ b) ^^^ b = 0 ^^^ b := by rw [h]
    rw [Nat.xor_assoc, Nat.xor_self, Nat.xor_zero, Nat.zero_xor] at this
    exact this
  · rintro rfl
    exact Nat.xor_self _
theorem sh_inj {a b : Nat} (ha : a < 2 ^ w) (hb : b < 2 ^ w) (h : sh w W a = sh w W b) : a = b := by
  have e := sh_xor C ha hb
  rw [h, Nat.xor_self] at e
  exact xor_eq0.mp (sh_zero C (Nat.xor_lt_two_pow ha hb) e)
/-- what is moved by places alone -/
theorem rem_moved (n k : Nat) (h : rem w W (n <<< k) = 0) : rem w W n = 0 := by
  induction k with
  | zero => exact h
  | succ k ih =>
    refine ih ?_
    rw [Nat.shiftLeft_eq, Nat.pow_succ, ← Nat.mul_assoc, Nat.mul_comm, ← Nat.shiftLeft_eq, rem_dbl] at h
    exact sh_zero C (rem_lt C _) h
/-! ### powers -/
omit C in
/-- the rest of a power of x -/
def pw (w W i : Nat) : Nat := rem w W (2 ^ i)
theorem pw_zero : pw w W 0 = 1 := rem_small C 1 (by
  have := C.pos
  have : 2 ^ 1 ≤ 2 ^ w := Nat.pow_le_pow_right (by omega) this
  omega)
omit C in
theorem pw_succ (i : Nat) : pw w W (i + 1) = sh w W (pw w W i) := by
  unfold pw
  rw [Nat.pow_succ, Nat.mul_comm, rem_dbl]
theorem pw_lt (i : Nat) : pw w W i < 2 ^ w := rem_lt C _
theorem pw_ne (i : Nat) : pw w W i ≠ 0 := by
  induction i with
  | zero => rw [pw_zero C]; omega
  | succ i ih => exact fun h => ih (sh_zero C (pw_lt C i) (by rw [← pw_succ]; exact h))
theorem pw_back {a b k : Nat} (h : pw w W (a + k) = pw w W (b + k)) : pw w W a = pw w W b := by
  induction k with
  | zero => exact h
  | succ k ih => exact ih (sh_inj C (pw_lt C _) (pw_lt C _) (by rw [← pw_succ, ← pw_succ]; exact h))
theorem pw_again : ∃ d, 1 ≤ d ∧ d < 2 ^ w ∧ pw w W d = 1 := by
  have hp : 0 < 2 ^ w := Nat.pow_pos (by omega)
  apply Classical.byContradiction
  intro no
  have inj : ∀ i j, i < j → j < 2 ^ w → pw w W i ≠ pw w W j := fun i j hij hj e => by
    refine no ⟨j - i, by omega, by omega, ?_⟩
    have := pw_back C (a := 0) (b := j - i) (k := i) (by rw [Nat.zero_add, show j - i + i = j by omega]; exact e)
    rw [← this, pw_zero C]
  have nd : ((List.range (2 ^ w)).map (pw w W)).Nodup := by
    refine List.pairwise_map.mpr (List.pairwise_lt_range.imp_of_mem fun {a b} ha hb hab => ?_)
    exact inj a b hab (List.mem_range.mp hb)
  have sub : ((List.range (2 ^ w)).map (pw w W)) ⊆ (List.range (2 ^ w)).erase 0 := fun x hx => by
    obtain ⟨i, _, rfl⟩ := List.mem_map.mp hx
    exact (List.mem_erase_of_ne (pw_ne C i)).mpr (List.mem_range.mpr (pw_lt C i))
  have h := nd.length_le_of_subset sub
  rw [List.length_map, List.length_erase_of_mem (List.mem_range.mpr hp), List.length_range] at h
  omega
/-! ### rows of bits -/
omit C in
def numB (bs : List Bool) : Nat := bs.foldl (fun n b => 2 * n + b.toNat) 0
omit C in
theorem foldB (bs : List Bool) (n : Nat) : bs.foldl (fun n b => 2 * n + b.toNat) n = n * 2 ^ bs.length + numB bs := by
  unfold numB
  induction bs generalizing n with
  | nil => simp
  | cons b r ih =>
    rw [List.foldl_cons, List.foldl_cons, ih, ih (2 * 0 + b.toNat), List.length_cons, Nat.pow_succ, Nat.mul_zero, Nat.zero_add, Nat.add_mul, ← Nat.add_assoc]
    congr 1
    congr 1
    rw [Nat.mul_comm 2 n, Nat.mul_assoc, Nat.mul_comm 2]
omit C in
theorem numB_app (a b : List Bool) : numB (a ++ b) = numB a * 2 ^ b.length + numB b := by
  unfold numB
  rw [List.foldl_append, foldB]
  rfl

omit C in
theorem numB_snoc (a : List Bool) (b : Bool) : numB (a ++ [b]) = 2 * numB a + b.toNat := by
  rw [numB_app]
  show numB a * 2 ^ 1 + (2 * 0 + b.toNat) = _
  omega
omit C in
theorem foldB_lt (a : List Bool) : ∀ n : Nat, a.foldl (fun n b => 2 * n + b.toNat) n < (n + 1) * 2 ^ a.length := by
  induction a with
  | nil => intro n; simp
  | cons b r ih =>
    intro n
    rw [List.foldl_cons, List.length_cons, Nat.pow_succ]
    refine Nat.lt_of_lt_of_le (ih _) ?_
    have hb : b.toNat ≤ 1 := Bool.toNat_le b
    have : (2 * n + b.toNat + 1) * 2 ^ r.length ≤ (2 * (n + 1)) * 2 ^ r.length := Nat.mul_le_mul_right _ (by omega)
    refine Nat.le_trans this ?_
    rw [Nat.mul_comm 2 (n + 1), Nat.mul_assoc, Nat.mul_comm 2]
    exact Nat.le_refl _
omit C in
theorem numB_lt (a : List Bool) : numB a < 2 ^ a.length := by
  have := foldB_lt a 0
  rw [Nat.zero_add, Nat.one_mul] at this
  exact this
omit C in
/-- the rest of a row, sign by sign -/
def restB (w W : Nat) (bs : List Bool) : Nat := bs.foldl (fun f b => red w W (2 * f + b.toNat)) 0
omit C in
theorem restB_snoc (a : List Bool) (b : Bool) : restB w W (a ++ [b]) = red w W (2 * restB w W a + b.toNat) := by
  unfold restB
  rw [List.foldl_append]
  rfl
omit C in
theorem foldR (bs : List Bool) (n : Nat) : bs.foldl (fun f b => red w W (2 * f + b.toNat)) (rem w W n) = rem w W (bs.foldl (fun n b => 2 * n + b.toNat) n) := by
  induction bs generalizing n with
  | nil => rfl
  | cons b r ih =>
    rw [List.foldl_cons, List.foldl_cons, ← ih, rem_bit]
    cases b <;> decide
omit C in
theorem restB_eq (bs : List Bool) : restB w W bs = rem w W (numB bs) := by
  have := foldR (w := w) (W := W) bs 0
  rw [rem_zero] at this
  exact this
omit C in
/-- the bits of a number, so many, the greatest first -/
def bitsB (n : Nat) : Nat → List Bool
  | 0 => []
  | k + 1 => n.testBit k :: bitsB n k
omit C in
theorem bitsB_len (n : Nat) : ∀ k, (bitsB n k).length = k
  | 0 => rfl
  | k + 1 => by rw [bitsB, List.length_cons, bitsB_len n k]
omit C in
theorem numB_bits (n : Nat) : ∀ k, numB (bitsB n k) = n % 2 ^ k
  | 0 => by rw [Nat.pow_zero, Nat.mod_one]; rfl
  | k + 1 => by
    have e : numB (bitsB n (k + 1)) = (n.testBit k).toNat * 2 ^ (bitsB n k).length + numB (bitsB n k) := by
      show (bitsB n k).foldl _ (2 * 0 + (n.testBit k).toNat) = _
      rw [foldB, Nat.mul_zero, Nat.zero_add]
    rw [e, bitsB_len, numB_bits n k, Nat.toNat_testBit, Nat.pow_succ]
    have h := Nat.mod_mul (x := n) (a := 2 ^ k) (b := 2)
    rw [h, Nat.mul_comm]
    omega
omit C in
theorem bitsB_get (n : Nat) : ∀ (k i : Nat), i < k → (bitsB n k)[i]? = some (n.testBit (k - 1 - i))
  | 0, _, h => absurd h (by omega)
  | k + 1, 0, _ => rfl
  | k + 1, i + 1, h => by
    rw [bitsB, List.getElem?_cons_succ, bitsB_get n k i (by omega)]
    rw [show k + 1 - 1 - (i + 1) = k - 1 - i by omega]
omit C in
theorem bitsB_num : ∀ (bs : List Bool), bitsB (numB bs) bs.length = bs := by
  intro bs
  have hl := bitsB_len (numB bs) bs.length
  have hn := numB_bits (numB bs) bs.length
  rw [Nat.mod_eq_of_lt (numB_lt bs)] at hn
  generalize bitsB (numB bs) bs.length = cs at hl hn
  induction bs generalizing cs with
  | nil => exact List.length_eq_zero_iff.mp hl
  | cons b r ih =>
    cases cs with
    | nil => simp at hl
    | cons c q =>
      have e : ∀ (x : Bool) (l : List Bool), numB (x :: l) = x.toNat * 2 ^ l.length + numB l := fun x l => by
        show l.foldl _ (2 * 0 + x.toNat) = _
        rw [foldB, Nat.mul_zero, Nat.zero_add]
      have hl2 : q.length = r.length := by simpa using hl
      rw [e, e, hl2] at hn
      have h1 := numB_lt q
      have h2 := numB_lt r
      rw [hl2] at h1
      cases b <;> cases c <;> simp at hn
      · rw [ih _ hl2 hn]
      · omega
      · omega
      · rw [ih _ hl2 (by omega)]
end
end My

namespace My
section
variable {w W : Nat} (C : Ck w W)
/-! ### the order, threes, fours -/
structure IsOrder (w W d : Nat) : Prop where
  pos : 1 ≤ d
  at_ : pw w W d = 1
  ne : ∀ i, 0 < i → i < d → pw w W i ≠ 1
theorem order_uniq {d e : Nat} (a : IsOrder w W d) (b : IsOrder w W e) : d = e := by
  rcases Nat.lt_trichotomy d e with h | h | h
  · exact absurd a.at_ (b.ne d a.pos h)
  · exact h
  · exact absurd b.at_ (a.ne e b.pos h)
def Three (w W p : Nat) : Prop := ∃ q, 0 < q ∧ q < p ∧ pw w W q = pw w W p ^^^ 1
def Four (w W p : Nat) : Prop := ∃ o q, 0 < o ∧ o < q ∧ q < p ∧ pw w W o ^^^ pw w W q = pw w W p ^^^ 1
/-- the first place that has a property, the bound if there is none -/
structure IsFirst (P : Nat → Prop) (n t : Nat) : Prop where
  le : t ≤ n
  ne : ∀ p, p < t → ¬ P p
  at_ : t < n → P t
theorem first_uniq {P : Nat → Prop} {n s t : Nat} (a : IsFirst P n s) (b : IsFirst P n t) : s = t := by
  rcases Nat.lt_trichotomy s t with h | h | h
  · exact absurd (a.at_ (by have := b.le; omega)) (b.ne s h)
  · exact h
  · exact absurd (b.at_ (by have := a.le; omega)) (a.ne t h)
def IsLongest (w W few L : Nat) : Prop := (few = 3 ∧ IsOrder w W L) ∨ (few = 4 ∧ ∃ d, IsOrder w W d ∧ IsFirst (Three w W) d L) ∨ (few = 5 ∧ ∃ d t, IsOrder w W d ∧ IsFirst (Three w W) d t ∧ IsFirst (Four w W) t L)
theorem longest_uniq {few s t : Nat} (a : IsLongest w W few s) (b : IsLongest w W few t) : s = t := by
  rcases a with ⟨e, a⟩ | ⟨e, d, a, a1⟩ | ⟨e, d, u, a, a1, a2⟩ <;> rcases b with ⟨f, b⟩ | ⟨f, d', b, b1⟩ | ⟨f, d', u', b, b1, b2⟩ <;> first | omega | skip
  · exact order_uniq a b
  · cases order_uniq a b; exact first_uniq a1 b1
  · cases order_uniq a b
    cases first_uniq a1 b1
    exact first_uniq a2 b2
include C
theorem back2 {a b k : Nat} (h : pw w W (a + k) ^^^ pw w W (b + k) = 0) : pw w W a ^^^ pw w W b = 0 := xor_eq0.mpr (pw_back C (xor_eq0.mp h))
theorem back3 {a b c k : Nat} (h : pw w W (a + k) ^^^ pw w W (b + k) ^^^ pw w W (c + k) = 0) : pw w W a ^^^ pw w W b ^^^ pw w W c = 0 := by
  induction k with
  | zero => exact h
  | succ k ih =>
    refine ih (sh_zero C (Nat.xor_lt_two_pow (Nat.xor_lt_two_pow (pw_lt C _) (pw_lt C _)) (pw_lt C _)) ?_)
    rw [sh_xor C (Nat.xor_lt_two_pow (pw_lt C _) (pw_lt C _)) (pw_lt C _), sh_xor C (pw_lt C _) (pw_lt C _), ← pw_succ, ← pw_succ, ← pw_succ]
    exact h
theorem back4 {a b c e k : Nat} (h : pw w W (a + k) ^^^ pw w W (b + k) ^^^ pw w W (c + k) ^^^ pw w W (e + k) = 0) : pw w W a ^^^ pw w W b ^^^ pw w W c ^^^ pw w W e = 0 := by
  induction k with
  | zero => exact h
  | succ k ih =>
    have x2 := fun i j => Nat.xor_lt_two_pow (pw_lt C i) (pw_lt C j)
    have x3 := fun i j l => Nat.xor_lt_two_pow (x2 i j) (pw_lt C l)
    refine ih (sh_zero C (Nat.xor_lt_two_pow (x3 _ _ _) (pw_lt C _)) ?_)
    rw [sh_xor C (x3 _ _ _) (pw_lt C _), sh_xor C (x2 _ _) (pw_lt C _), sh_xor C (pw_lt C _) (pw_lt C _), ← pw_succ, ← pw_succ, ← pw_succ, ← pw_succ]
    exact h
theorem order_ex : ∃ d, IsOrder w W d ∧ d < 2 ^ w := by
  obtain ⟨d, h1, h2, h3⟩ := pw_again C
  have key : ∀ n, 1 ≤ n → n ≤ d → pw w W n = 1 → ∃ e, IsOrder w W e ∧ e ≤ n := by
    intro n
    induction n using Nat.strongRecOn with
    | _ n ih =>
      intro a1 a2 a3
      by_cases c : ∃ i, 0 < i ∧ i < n ∧ pw w W i = 1
      · obtain ⟨i, c1, c2, c3⟩ := c
        obtain ⟨e, he, hl⟩ := ih i c2 c1 (by omega) c3
        exact ⟨e, he, by omega⟩
      · exact ⟨n, ⟨a1, a3, fun i c1 c2 c3 => c ⟨i, c1, c2, c3⟩⟩, Nat.le_refl _⟩
  obtain ⟨e, he, hl⟩ := key d h1 (Nat.le_refl _) h3
  exact ⟨e, he, by omega⟩
theorem no2 {d a b : Nat} (O : IsOrder w W d) (hab : a < b) (hb : b < d) : pw w W a ≠ pw w W b := fun h => by
  have := pw_back C (a := 0) (b := b - a) (k := a) (by rw [Nat.zero_add, show b - a + a = b by omega]; exact h)
  rw [pw_zero C] at this
  exact O.ne (b - a) (by omega) (by omega) this.symm
theorem pw_inj {d a b : Nat} (O : IsOrder w W d) (ha : a < d) (hb : b < d) (h : pw w W a = pw w W b) : a = b := by
  rcases Nat.lt_trichotomy a b with c | c | c
  · exact absurd h (no2 C O c hb)
  · exact c
  · exact absurd h.symm (no2 C O c ha)
theorem no3 {t a b c : Nat} (T : ∀ p, p < t → ¬ Three w W p) (hab : a < b) (hbc : b < c) (hc : c < t) : pw w W a ^^^ pw w W b ^^^ pw w W c ≠ 0 := fun h => by
  have := back3 C (a := 0) (b := b - a) (c := c - a) (k := a) (by rw [Nat.zero_add, show b - a + a = b by omega, show c - a + a = c by omega]; exact h)
  rw [pw_zero C] at this
  refine T (c - a) (by omega) ⟨b - a, by omega, by omega, ?_⟩
  refine xor_eq0.mp ?_
  rw [← this]
  ac_rfl
theorem no4 {t a b c e : Nat} (T : ∀ p, p < t → ¬ Four w W p) (hab : a < b) (hbc : b < c) (hce : c < e) (he : e < t) : pw w W a ^^^ pw w W b ^^^ pw w W c ^^^ pw w W e ≠ 0 := fun h => by
  have := back4 C (a := 0) (b := b - a) (c := c - a) (e := e - a) (k := a) (by rw [Nat.zero_add, show b - a + a = b by omega, show c - a + a = c by omega, show e - a + a = e by omega]; exact h)
  rw [pw_zero C] at this
  refine T (e - a) (by omega) ⟨b - a, c - a, by omega, by omega, by omega, ?_⟩
  refine xor_eq0.mp ?_
  rw [← this]
  ac_rfl
theorem no3' {t a b c : Nat} (T : ∀ p, p < t → ¬ Three w W p) (ha : a < t) (hbc : b < c) (hc : c < t) (h1 : a ≠ b) (h2 : a ≠ c) : pw w W a ≠ pw w W b ^^^ pw w W c := fun h => by
  have z := xor_eq0.mpr h
  rcases Nat.lt_or_ge a b with d | d
  · exact no3 C T d hbc hc (by rw [← z]; ac_rfl)
  · rcases Nat.lt_or_ge a c with e | e
    · exact no3 C T (a := b) (b := a) (c := c) (by omega) e hc (by rw [← z]; ac_rfl)
    · exact no3 C T (a := b) (b := c) (c := a) hbc (by omega) ha (by rw [← z]; ac_rfl)
theorem no4' {t a b c e : Nat} (T : ∀ p, p < t → ¬ Four w W p) (hab : a < b) (hb : b < t) (hce : c < e) (he : e < t) (h1 : a < c) (h2 : a ≠ e) (h3 : b ≠ c) (h4 : b ≠ e) : pw w W a ^^^ pw w W b ≠ pw w W c ^^^ pw w W e := fun h => by
  have z := xor_eq0.mpr h
  rcases Nat.lt_or_ge b c with d | d
  · exact no4 C T hab d hce he (by rw [← z]; ac_rfl)
  · rcases Nat.lt_or_ge b e with f | f
    · exact no4 C T (a := a) (b := c) (c := b) (e := e) h1 (by omega) f he (by rw [← z]; ac_rfl)
    · exact no4 C T (a := a) (b := c) (c := e) (e := b) h1 hce (by omega) hb (by rw [← z]; ac_rfl)
/-! ### what mends -/
omit C in
def valP (w W : Nat) (xs : List Nat) : Nat := xs.foldl (fun v x => v ^^^ pw w W x) 0
omit C in
/-- lists of at most two places, rising -/
def Small2 (N : Nat) (xs : List Nat) : Prop := xs = [] ∨ (∃ a, a < N ∧ xs = [a]) ∨ ∃ a b, a < b ∧ b < N ∧ xs = [a, b]
omit C in
def Small1 (N : Nat) (xs : List Nat) : Prop := xs = [] ∨ ∃ a, a < N ∧ xs = [a]
theorem one_uniq {L N : Nat} (O : IsLongest w W 3 L) (hN : N ≤ L) {xs ys : List Nat} (hx : Small1 N xs) (hy : Small1 N ys) (h : valP w W xs = valP w W ys) : xs = ys := by
  have O' : IsOrder w W L := by
    rcases O with ⟨_, h⟩ | ⟨e, _⟩ | ⟨e, _⟩
    · exact h
    · omega
    · omega
  rcases hx with rfl | ⟨a, ha, rfl⟩ <;> rcases hy with rfl | ⟨b, hb, rfl⟩
  · rfl
  · exact absurd (by simpa [valP] using h.symm) (pw_ne C b)
  · exact absurd (by simpa [valP] using h) (pw_ne C a)
  · rw [pw_inj C O' (a := a) (b := b) (by omega) (by omega) (by simpa [valP] using h)]
theorem two_uniq {L N : Nat} (O : IsLongest w W 5 L) (hN : N ≤ L) {xs ys : List Nat} (hx : Small2 N xs) (hy : Small2 N ys) (h : valP w W xs = valP w W ys) : xs = ys := by
  obtain ⟨d, t, hO, h3, h4⟩ : ∃ d t, IsOrder w W d ∧ IsFirst (Three w W) d t ∧ IsFirst (Four w W) t L := by
    rcases O with ⟨e, _⟩ | ⟨e, _⟩ | ⟨_, h⟩
    · omega
    · omega
    · exact h
  have l1 := h3.le
  have l2 := h4.le
  have T3 := h3.ne
  have T4 := h4.ne
  have inj := fun {a b : Nat} (ha : a < N) (hb : b < N) (h : pw w W a = pw w W b) => pw_inj C hO (a := a) (b := b) (by omega) (by omega) h
  have v0 : valP w W [] = 0 := rfl
  have v1 : ∀ a, valP w W [a] = pw w W a := fun a => by simp [valP]
  have v2 : ∀ a b, valP w W [a, b] = pw w W a ^^^ pw w W b := fun a b => by simp [valP]
  have m3 : ∀ {a b c : Nat}, a < N → b < c → c < N → pw w W a = pw w W b ^^^ pw w W c → False := fun {a b c} ha hbc hc e => by
    by_cases e1 : a = b
    · subst e1
      refine pw_ne C c ?_
      have : pw w W a ^^^ pw w W a = pw w W a ^^^ (pw w W a ^^^ pw w W c) := by rw [← e]
      rw [Nat.xor_self, ← Nat.xor_assoc, Nat.xor_self, Nat.zero_xor] at this
      exact this.symm
    · by_cases e2 : a = c
      · subst e2
        refine pw_ne C b ?_
        have : pw w W a ^^^ pw w W a = (pw w W b ^^^ pw w W a) ^^^ pw w W a := by rw [← e]
        rw [Nat.xor_self, Nat.xor_assoc, Nat.xor_self, Nat.xor_zero] at this
        exact this.symm
      · exact no3' C (t := t) T3 (by omega) hbc (by omega) e1 e2 e
  have m4 : ∀ {a b c e : Nat}, a < b → b < N → c < e → e < N → pw w W a ^^^ pw w W b = pw w W c ^^^ pw w W e → a < c → False := fun {a b c e} hab hb hce he z hac => by
    by_cases e2 : a = e
    · omega
    by_cases e3 : b = c
    · subst e3
      rw [Nat.xor_comm] at z
      have : pw w W a = pw w W e := by
        have : pw w W b ^^^ (pw w W b ^^^ pw w W a) = pw w W b ^^^ (pw w W b ^^^ pw w W e) := by rw [z]
        rw [← Nat.xor_assoc, ← Nat.xor_assoc, Nat.xor_self, Nat.zero_xor, Nat.zero_xor] at this
        exact this
      have := inj (by omega) he this
      omega
    by_cases e4 : b = e
    · subst e4
      have : pw w W a = pw w W c := by
        have : (pw w W a ^^^ pw w W b) ^^^ pw w W b = (pw w W c ^^^ pw w W b) ^^^ pw w W b := by rw [z]
        rw [Nat.xor_assoc, Nat.xor_assoc, Nat.xor_self, Nat.xor_zero, Nat.xor_zero] at this
        exact this
      have := inj (by omega) (by omega) this
      omega
    · exact no4' C (t := L) T4 hab (by omega) hce (by omega) hac e2 e3 e4 z
  rcases hx with rfl | ⟨a, ha, rfl⟩ | ⟨a, b, hab, hb, rfl⟩ <;> rcases hy with rfl | ⟨c, hc, rfl⟩ | ⟨c, e, hce, he, rfl⟩ <;> simp only [v0, v1, v2] at h
  · rfl
  · exact absurd h.symm (pw_ne C c)
  · have := inj (a := c) (b := e) (by omega) he (xor_eq0.mp h.symm)
    omega
  · exact absurd h (pw_ne C a)
  · rw [inj ha hc h]
  · exact (m3 ha hce he h).elim
  · have := inj (a := a) (b := b) (by omega) hb (xor_eq0.mp h)
    omega
  · exact (m3 hc hab hb h.symm).elim
  · rcases Nat.lt_trichotomy a c with q | q | q
    · exact (m4 hab hb hce he h q).elim
    · subst q
      have : pw w W b = pw w W e := by
        have : pw w W a ^^^ (pw w W a ^^^ pw w W b) = pw w W a ^^^ (pw w W a ^^^ pw w W e) := by rw [h]
        rw [← Nat.xor_assoc, ← Nat.xor_assoc, Nat.xor_self, Nat.zero_xor, Nat.zero_xor] at this
        exact this
      rw [inj hb he this]
    · exact (m4 hce he hab hb h.symm q).elim
end
end My

namespace My
/-! ### products -/
def prodN : Nat → Nat → Nat → Nat
  | 0, _, _ => 0
  | k + 1, a, b => 2 * prodN k a (b / 2) ^^^ (if b % 2 = 1 then a else 0)
/-- the product of two sums of powers -/
def prod (a b : Nat) : Nat := prodN (b.log2 + 1) a b
theorem prodN_zero (a : Nat) : ∀ k, prodN k a 0 = 0
  | 0 => rfl
  | k + 1 => by
    rw [prodN, Nat.zero_div, prodN_zero a k, if_neg (by decide)]
    rfl
theorem prodN_stab (a : Nat) : ∀ (k j b : Nat), b < 2 ^ k → b < 2 ^ j → prodN k a b = prodN j a b
  | 0, j, b, h, _ => by
    have e : b = 0 := by omega
    subst e
    rw [prodN_zero, prodN_zero]
  | k + 1, 0, b, _, h => by
    have e : b = 0 := by omega
    subst e
    rw [prodN_zero, prodN_zero]
  | k + 1, j + 1, b, h1, h2 => by
    rw [Nat.pow_succ] at h1 h2
    rw [prodN, prodN, prodN_stab a k j (b / 2) (by omega) (by omega)]
theorem prod_fuel {a k b : Nat} (h : b < 2 ^ k) : prod a b = prodN k a b := prodN_stab a _ _ _ Nat.lt_log2_self h
theorem prod_step (a b : Nat) : prod a b = 2 * prod a (b / 2) ^^^ (if b % 2 = 1 then a else 0) := by
  have h : b < 2 ^ (b.log2 + 1) := Nat.lt_log2_self
  rw [prod_fuel (k := b.log2) (b := b / 2) (by rw [Nat.pow_succ] at h; omega)]
  rfl
theorem prod_zero (a : Nat) : prod a 0 = 0 := prodN_zero a _
theorem prod_bit (a m c : Nat) (h : c < 2) : prod a (2 * m + c) = 2 * prod a m ^^^ (if c = 1 then a else 0) := by
  rw [prod_step, show (2 * m + c) / 2 = m by omega, show (2 * m + c) % 2 = c by omega]
theorem two_xor (x y : Nat) : 2 * (x ^^^ y) = 2 * x ^^^ 2 * y := by
  have := xor_bit x y 0 0 (by omega) (by omega)
  simp only [Nat.add_zero, Nat.xor_self] at this
  exact this.symm
theorem prod_xorl (a c : Nat) : ∀ b, prod (a ^^^ c) b = prod a b ^^^ prod c b := by
  intro b
  induction b using Nat.strongRecOn with
  | _ b ih =>
    by_cases h : b = 0
    · subst h
      rw [prod_zero, prod_zero, prod_zero]
      rfl
    · rw [prod_step, ih (b / 2) (by omega), prod_step a b, prod_step c b, two_xor]
      split <;> (try simp only [Nat.xor_zero]) <;> ac_rfl
theorem prod_dbl (a : Nat) : ∀ b, prod (2 * a) b = 2 * prod a b := by
  intro b
  induction b using Nat.strongRecOn with
  | _ b ih =>
    by_cases h : b = 0
    · subst h
      rw [prod_zero, prod_zero]
    · rw [prod_step, ih (b / 2) (by omega), prod_step a b, two_xor]
      split <;> simp
theorem prod_one : ∀ b, prod 1 b = b := by
  intro b
  induction b using Nat.strongRecOn with
  | _ b ih =>
    by_cases h : b = 0
    · subst h
      exact prod_zero 1
    · rw [prod_step, ih (b / 2) (by omega)]
      have e := xor_bit (b / 2) 0 0 (b % 2) (by omega) (by omega)
      rw [Nat.add_zero, Nat.mul_zero, Nat.zero_add, Nat.xor_zero, Nat.zero_xor] at e
      have c : b % 2 = 0 ∨ b % 2 = 1 := by omega
      rcases c with c | c
      · rw [c] at e ⊢
        rw [if_neg (by decide), Nat.xor_zero]
        omega
      · rw [c] at e ⊢
        rw [if_pos rfl, e]
        omega
theorem prod_zerol : ∀ b, prod 0 b = 0 := by
  intro b
  induction b using Nat.strongRecOn with
  | _ b ih =>
    by_cases h : b = 0
    · subst h
      exact prod_zero 0
    · rw [prod_step, ih (b / 2) (by omega)]
      split <;> rfl
theorem prod_comm : ∀ a b, prod a b = prod b a := by
  intro a
  induction a using Nat.strongRecOn with
  | _ a ih =>
    intro b
    by_cases h : a = 0
    · subst h
      rw [prod_zero, prod_zerol]
    · have e := xor_bit (a / 2) 0 0 (a % 2) (by omega) (by omega)
      rw [Nat.add_zero, Nat.mul_zero, Nat.zero_add, Nat.xor_zero, Nat.zero_xor] at e
      have ea : a = 2 * (a / 2) ^^^ a % 2 := by rw [e]; omega
      rw [prod_step b a]
      conv => lhs; rw [ea]
      rw [prod_xorl, prod_dbl, ih (a / 2) (by omega)]
      congr 1
      have c : a % 2 = 0 ∨ a % 2 = 1 := by omega
      rcases c with c | c
      · rw [c, if_neg (by decide), prod_zerol]
      · rw [c, if_pos rfl, prod_one]
theorem prod_lt {a b k j : Nat} (ha : a < 2 ^ k) (hb : b < 2 ^ j) : prod a b < 2 ^ (k + j) := by
  induction j generalizing b with
  | zero =>
    have : b = 0 := by omega
    subst this
    rw [prod_zero]
    exact Nat.pow_pos (by omega)
  | succ j ih =>
    rw [Nat.pow_succ] at hb
    rw [prod_step]
    have h1 := ih (b := b / 2) (by omega)
    have e : k + (j + 1) = (k + j) + 1 := by omega
    have h2 : 2 * prod a (b / 2) < 2 ^ (k + (j + 1)) := by rw [e, Nat.pow_succ]; omega
    have h3 : a < 2 ^ (k + (j + 1)) := Nat.lt_of_lt_of_le ha (Nat.pow_le_pow_right (by decide) (by omega))
    refine Nat.xor_lt_two_pow h2 ?_
    split
    · exact h3
    · exact Nat.pow_pos (by omega)
section
variable {w W : Nat}
/-- the rest of a product, by the first one's rest -/
def mulN (w W : Nat) : Nat → Nat → Nat → Nat
  | 0, _, _ => 0
  | k + 1, a, b => sh w W (mulN w W k a (b / 2)) ^^^ (if b % 2 = 1 then a else 0)
def mulR (w W a b : Nat) : Nat := rem w W (prod a b)
def shn (w W : Nat) : Nat → Nat → Nat
  | 0, a => a
  | k + 1, a => sh w W (shn w W k a)
variable (C : Ck w W)
include C
theorem mulR_step (a b : Nat) (ha : a < 2 ^ w) : mulR w W a b = sh w W (mulR w W a (b / 2)) ^^^ (if b % 2 = 1 then a else 0) := by
  unfold mulR
  rw [prod_step, rem_xor C, rem_dbl]
  congr 1
  split
  · exact rem_small C a ha
  · exact rem_zero
theorem rem_shlN (n k : Nat) : rem w W (n * 2 ^ k) = shn w W k (rem w W n) := by
  induction k with
  | zero => rw [Nat.pow_zero, Nat.mul_one]; rfl
  | succ k ih =>
    rw [Nat.pow_succ, ← Nat.mul_assoc, Nat.mul_comm, rem_dbl, ih]
    rfl
theorem mulR_xor (a b c : Nat) : mulR w W a (b ^^^ c) = mulR w W a b ^^^ mulR w W a c := by
  unfold mulR
  rw [prod_comm a, prod_xorl, rem_xor C, prod_comm b, prod_comm c]
theorem mulR_lt (a b : Nat) : mulR w W a b < 2 ^ w := rem_lt C _
/-- a product's rest by the rest of the one -/
theorem mulR_rem (a b : Nat) : rem w W (prod (rem w W a) b) = rem w W (prod a b) := by
  induction b using Nat.strongRecOn with
  | _ b ih =>
    by_cases h : b = 0
    · subst h
      rw [prod_zero, prod_zero]
    · rw [prod_step, prod_step a b, rem_xor C, rem_xor C, rem_dbl, rem_dbl, ih (b / 2) (by omega)]
      congr 1
      split
      · exact rem_small C _ (rem_lt C _)
      · rfl
theorem mulR_W (a : Nat) : mulR w W a W = 0 := by
  unfold mulR
  rw [prod_comm, ← mulR_rem C, rem_self C, prod_zerol]
  exact rem_zero
theorem mulR_remr (a b : Nat) : mulR w W a (rem w W b) = mulR w W a b := by
  unfold mulR
  rw [prod_comm, mulR_rem C, prod_comm]
theorem mulR_pow (a m : Nat) (ha : a < 2 ^ w) : mulR w W a (2 ^ m) = shn w W m a := by
  unfold mulR
  have e : prod a (2 ^ m) = a * 2 ^ m := by
    clear ha
    induction m with
    | zero => rw [prod_comm, Nat.pow_zero, prod_one, Nat.mul_one]
    | succ m ih =>
      rw [prod_step, Nat.pow_succ, Nat.mul_div_cancel _ (by decide), Nat.mul_mod_left, if_neg (by decide), Nat.xor_zero, ih]
      rw [Nat.mul_comm 2, Nat.mul_assoc]
  rw [e, rem_shlN C, rem_small C a ha]
theorem mulR_pw (a m : Nat) (ha : a < 2 ^ w) : mulR w W a (pw w W m) = shn w W m a := by
  unfold pw
  rw [mulR_remr C, mulR_pow C a m ha]
omit C in
theorem shn_pw (k m : Nat) : shn w W k (pw w W m) = pw w W (m + k) := by
  induction k with
  | zero => rfl
  | succ k ih =>
    show sh w W (shn w W k (pw w W m)) = _
    rw [ih, ← pw_succ]
    rfl
theorem pw_mul (j k : Nat) : mulR w W (pw w W j) (pw w W k) = pw w W (j + k) := by
  rw [mulR_pw C _ _ (pw_lt C j), shn_pw]
end
end My

namespace My
open PySem PySem.Spec PyProof.Rows L2 Pre
theorem tyx_insC {K : PySem.W.Frag} {H : Hp} {a C dx : Addr} {fs : List (Str × V)} (c : C8.InsC K C) (h : H a = some (.ins C dx fs)) : TyX K H (.ref a) (.ref C) := .base (.ins h c.cl c.ha c.hn c.htk c.hm)
/-! ### numbers that are not negative -/
theorem bx (a b : Nat) : Builtin.bitXor (a : Int) (b : Int) = ((a ^^^ b : Nat) : Int) := by
  rw [Bits.bitXor_pp (by omega) (by omega)]
  rfl
theorem shrI (a k : Nat) : (a : Int) / 2 ^ ((k : Int)).toNat = ((a >>> k : Nat) : Int) := by
  rw [Int.toNat_natCast, Nat.shiftRight_eq_div_pow, Int.natCast_ediv, Int.natCast_pow]
  rfl
theorem shlI (a k : Nat) : (a : Int) * 2 ^ ((k : Int)).toNat = ((a <<< k : Nat) : Int) := by
  rw [Int.toNat_natCast, Nat.shiftLeft_eq, Int.natCast_mul, Int.natCast_pow]
  rfl
theorem and1 (n : Nat) : Builtin.bitAnd (n : Int) 1 = ((n % 2 : Nat) : Int) := by
  rw [bitAnd_m1]
  omega
theorem small1000' {n : Nat} (h : n ≤ 10000) : n < sizeLine := by rw [sizeLine_eq]; omega
theorem pow17 {w : Nat} (h : w ≤ 16) : 2 ^ w ≤ 65536 := Nat.le_trans (Nat.pow_le_pow_right (by decide) h) (by decide)
theorem seq_ne {H : Hp} {p : Addr} {o : HO} (h : H p = some o) : H p ≠ none := by rw [h]; exact fun z => nomatch z
local macro_rules | `(tactic| walk_at "go") => `(tactic| repeat (first | (with_reducible first | refine iteT ?_ | refine iteF ?_ | refine iteNtt ?_ | refine iteNff ?_ | refine iteET (by omega) ?_ | refine iteEF (by omega) ?_ | refine iteENT (by omega) ?_ | refine iteENF (by omega) ?_ | refine iteDT (by omega) ?_ | refine iteDF (by omega) ?_ | refine iteNT (by omega) ?_ | refine iteNF (by omega) ?_) | refine ⟨_, rfl, ?_⟩ | refine ⟨_, _, rfl, rfl, ?_⟩ | refine ⟨_, _, rfl, ?_⟩ | refine ⟨rfl, ?_⟩ | refine .inl ⟨_, rfl, ?_⟩ | refine .inr ⟨_, rfl, ?_⟩))
local macro_rules | `(tactic| walk_at "b") => `(tactic| try dsimp (config := { proj := false, iota := false, eta := false, zeta := false }) only)
section
variable {P : Program} {w : World} {K : PySem.W.Frag} {mg : Str → Option Value} {base : Heap}
/-! ### texts of bits -/
theorem fm_noneB {α β : Type} (l : List α) : (l.map fun _ => (none : Option β)).filterMap id = [] := by
  induction l with
  | nil => rfl
  | cons n r ih => simp
def sp_is_bits : Sp := fun vs H Q _ => ∃ bs : List Bool, vs = [.str (bS bs)] ∧ bs.length ≤ 10000 ∧ ∀ H', Same H H' → Q (.bl true) H'
theorem sign_in (b : Bool) : decide (sgn b ∈ ((("01" : String) : Str)).cps.toList) = true := by
  have e : (("01" : String) : Str).cps.toList = [48, 49] := by decide +kernel
  rw [e]
  cases b <;> decide
def sp_check_bits : Sp := fun vs H Q _ => ∃ bs : List Bool, vs = [.str (bS bs)] ∧ bs.length ≤ 10000 ∧ ∀ H', Same H H' → Q .non H'
def sp_bits_of : Sp := fun vs H Q _ => ∃ (n k : Nat), vs = [.int n, .int k] ∧ k ≤ 1000 ∧ ∀ H', Same H H' → Q (.str (bS (bitsB n k))) H'
theorem G_bits_of (T : Top K mg) : FnOk P w K mg base CX0 1 T.f_bits_of T.fd_bits_of ["number", "many"] sp_bits_of := by
  refine T.F_bits_of.ok sc_bits_of (fun vs H Q E h => by obtain ⟨n, k, rfl, _⟩ := h; rfl) (fun cdv A outer s H vs Q E hr h => ?_)
  obtain ⟨n, k, rfl, hk, q⟩ := h
  refine ⟨_, PSs.nox (pss_one (ps_ret (pe_join pe_str (pe_lc (own := [("at", 2)]) (g := gName 2) (tt := tYes) (by rfl) sc_bits_of.nd (pi_range1 (by rfl) T.n_range (pa_cons (pv 1) pa_nil)) (blkOk_by (own := [("at", 2)]) (N := N_bits_of) (sc := defScope s_bits_of) (by decide +kernel)) (fun _ _ _ _ _ => (pg_name (i := 2) sc_bits_of.nd rfl (by first | exact Or.inl rfl | exact Or.inr rfl))) (fun _ _ _ _ _ => pts_nil) (fun _ _ _ _ _ => (pe_ix ix_str pe_str (pe_op op_and (pe_op op_shr (pv 0) (pe_op op_sub (pe_op op_sub (pv 1) pe_int) (pv 2))) pe_int) (fun _ _ => rfl))))))), ?_⟩
  refine ⟨⟨_, rfl⟩, _, rfl, _, rfl, by omega, by omega, fun D nD => ?_⟩
  refine lc_mapR (lo := 0) (n := ((k : Int)).toNat) ((bitsB n k).map fun b => V.str (bS [b])) nD (by rw [List.length_map, bitsB_len]; rfl) (small1000' (by omega)) (fun x => rfl) ?_ ?_
  · intro i y H' hi hy s Qt qt
    rw [Int.toNat_natCast] at hi
    rw [List.getElem?_map, bitsB_get n k i hi] at hy
    cases hy
    refine ⟨_, rfl, _, rfl, _, _, rfl, rfl, _, rfl, _, _, rfl, rfl, _, _, rfl, rfl, by omega, _, _, rfl, rfl, ?_⟩
    have e1 : ((k : Int) - 1 - (0 + (i : Int))) = ((k - 1 - i : Nat) : Int) := by omega
    dsimp only
    rw [e1, shrI, and1]
    have e2 : n >>> (k - 1 - i) % 2 = (n.testBit (k - 1 - i)).toNat := by rw [Nat.toNat_testBit, Nat.shiftRight_eq_div_pow]
    rw [e2]
    have e01 : (("01" : String) : Str) = bS [false, true] := by decide +kernel
    refine ⟨_, _, sgn (n.testBit (k - 1 - i)), rfl, rfl, by rw [e01, bS_len]; decide, ?_, qt _ (Same.refl _)⟩
    rw [e01]
    exact bS_atI (by cases n.testBit (k - 1 - i) <;> rfl)
  · intro H' s hD
    refine ⟨_, D, (bitsB n k).map fun b => bS [b], rfl, rfl, .inl (.inl (.inl ?_)), ?_, ?_⟩
    · rw [hD, List.map_map]
      rfl
    · have e0 : ((("" : String) : Str)).length = 0 := by rw [str_nil]; rfl
      rw [List.map_map, e0, Nat.mul_zero]
      have : ∀ l : List Bool, (l.map ((fun z : Str => z.length) ∘ fun b => bS [b])).sum = l.length := fun l => by
        induction l with
        | nil => rfl
        | cons b r ih => rw [List.map_cons, List.sum_cons, ih, List.length_cons]; show 1 + _ = _; omega
      have hz : ((bitsB n k).map ((fun x : Str => x.length) ∘ fun b => bS [b])).sum = k := by rw [this, bitsB_len]
      exact Nat.le_trans (Nat.le_of_eq hz) (by omega)
    · rw [join_bits]
      exact q _ s
/-! ### checks -/
def sp_check_number : Sp := fun vs H Q _ => ∃ (i lo : Int) (hi : Option Int), vs = [.int i, .int lo, (match hi with | some j => .int j | none => .non)] ∧ lo ≤ i ∧ (∀ j, hi = some j → i ≤ j) ∧ Q .non H
theorem G_check_number (T : Top K mg) : FnOk P w K mg base CX0 3 T.f_check_number T.fd_check_number ["number", "low", "high"] sp_check_number := by
  refine T.F_check_number.ok sc_check_number (fun vs H Q E h => by obtain ⟨i, lo, hi, rfl, _⟩ := h; rfl) (fun cdv A outer s H vs Q E hr h => ?_)
  obtain ⟨i, lo, hi, rfl, h0, h1, q⟩ := h
  refine ⟨_, PSs.nox (pss_one (ps_if (pt_not (pt_val (pe_call (G_is_between T) (hr.mono (by decide)) (by rfl) T.g_is_between T.F_is_between.kp T.b_is_between .nil pass0 (pa_cons (pv 0) (pa_cons (pv 1) (pa_cons (pv 2) pa_nil))))))
    (pss_one ps_never)
    pss_nil)), ?_⟩
  refine ⟨_, rfl, _, rfl, _, rfl, i, lo, hi, rfl, _, rfl, ?_⟩
  rw [decide_eq_true ⟨h0, h1⟩]
  exact iteF q
/-- a check of the width wd and the sum W -/
def CheckAt (C : Addr) (H : Hp) (a : Addr) (wd W : Nat) : Prop := Ck wd W ∧ wd ≤ 16 ∧ ∃ dx, H a = some (.ins C dx [("size", .int wd), ("tail", .int (W - 2 ^ wd : Nat))])
theorem CheckAt.same {C : Addr} {H H' : Hp} {a : Addr} {wd W : Nat} (h : CheckAt C H a wd W) (s : Same H H') : CheckAt C H' a wd W := by
  obtain ⟨h1, h2, dx, h3⟩ := h
  exact ⟨h1, h2, dx, s _ _ h3⟩
theorem CheckAt.but {C g : Addr} {H H' : Hp} {a : Addr} {wd W : Nat} (h : CheckAt C H a wd W) (n : a ≠ g) (s : But g H H') : CheckAt C H' a wd W := by
  obtain ⟨h1, h2, dx, h3⟩ := h
  exact ⟨h1, h2, dx, s _ _ n h3⟩
theorem CheckAt.ne {C g : Addr} {H : Hp} {a : Addr} {wd W : Nat} {xs : List V} (h : CheckAt C H a wd W) (hg : H g = some (.lst xs)) : a ≠ g := by
  obtain ⟨h1, h2, dx, h3⟩ := h
  exact ne_of h3 hg (by intro z; cases z)
def sp_Check___init__ (C : Addr) : Sp := fun vs H Q _ => ∃ (x dx : Addr) (wd l : Nat), vs = [.ref x, .int wd, .int l] ∧ H x = some (.ins C dx []) ∧ 1 ≤ wd ∧ wd ≤ 16 ∧ l < 2 ^ wd ∧ l % 2 = 1 ∧
  ∀ H', (∀ b o, b ≠ x → H b = some o → H' b = some o) → CheckAt C H' x wd (2 ^ wd + l) → Q .non H'
theorem ck_of {wd l : Nat} (h : 1 ≤ wd) (hl : l < 2 ^ wd) (ho : l % 2 = 1) : Ck wd (2 ^ wd + l) := by
  have e : 2 ^ (wd + 1) = 2 ^ wd * 2 := Nat.pow_succ ..
  have e2 : 2 ^ wd = 2 ^ (wd - 1) * 2 := by
    rw [← Nat.pow_succ, show (wd - 1).succ = wd by omega]
  exact ⟨h, by omega, by omega, by omega⟩
theorem G_Check___init__ (T : Top K mg) : FnOk P w K mg base CX0 4 T.f_Check___init__ T.fd_Check___init__ ["self", "width", "low"] (sp_Check___init__ T.C_Check) := by
  refine T.F_Check___init__.ok sc_Check___init__ (fun vs H Q E h => by obtain ⟨x, dx, wd, l, rfl, _⟩ := h; rfl) (fun cdv A outer s H vs Q E hr h => ?_)
  obtain ⟨x, dx, wd, l, rfl, hx, h1, h2, h3, h4, q⟩ := h
  refine ⟨_, PSs.nox (pss_cons (ps_expr (pe_call (G_check_number T) (hr.mono (by decide)) (by rfl) T.g_check_number T.F_check_number.kp T.b_check_number .nil pass0 (pa_cons (pv 1) (pa_cons pe_int (pa_cons (pe_glob (v := .int 16) rfl T.m_MOST_WIDTH ⟨_, rfl⟩) pa_nil)))))
  (pss_cons (ps_expr (pe_call (G_check_number T) (hr.mono (by decide)) (by rfl) T.g_check_number T.F_check_number.kp T.b_check_number .nil pass0 (pa_cons (pv 2) (pa_cons pe_int (pa_cons (pe_op op_sub (pe_op op_shl pe_int (pv 1)) pe_int) pa_nil)))))
  (pss_cons (ps_if (pt_cmpR op_eq (pe_op op_mod (pv 2) pe_int) pe_int (nomark _))
    (pss_one ps_never)
    pss_nil)
  (pss_cons (ps_fld (pv 0) (pv 1) rfl)
  (pss_one (ps_fld (pv 0) (pv 2) rfl)))))), ?_⟩
  refine ⟨_, rfl, wd, 1, some 16, rfl, by omega, (fun j h => by cases h; omega), ?_⟩
  refine ⟨_, rfl, _, rfl, _, _, rfl, rfl, ⟨by omega, by omega, by decide⟩, _, _, rfl, rfl, l, 1, some _, rfl, by omega, (fun j h => by
    cases h
    rw [Int.one_mul, Int.toNat_natCast]
    have : ((2 ^ wd : Nat) : Int) = 2 ^ wd := by rw [Int.natCast_pow]; rfl
    omega), ?_⟩
  refine ⟨_, rfl, _, _, rfl, rfl, (by show (0 : Int) < 2; decide), rfl, _, rfl, ?_⟩
  refine iteEF (by omega) ?_
  refine ⟨_, rfl, _, rfl, x, T.C_Check, dx, [], rfl, hx, T.cl_Check, T.na_Check_size, by decide, ?_⟩
  refine ⟨_, rfl, _, rfl, x, T.C_Check, dx, _, rfl, upd_same, T.cl_Check, T.na_Check_tail, (by show 1 < 1000; decide), ?_⟩
  refine q _ (fun b o nb hb => ?_) ⟨ck_of h1 h3 h4, h2, dx, ?_⟩
  · rw [upd_ne nb, upd_ne nb]
    exact hb
  · rw [upd_same, show 2 ^ wd + l - 2 ^ wd = l by omega]
    rfl
def sp_check_check (C : Addr) : Sp := fun vs H Q _ => ∃ (a : Addr) (wd W : Nat), vs = [.ref a] ∧ CheckAt C H a wd W ∧ Q .non H
theorem G_check_check (T : Top K mg) : FnOk P w K mg base CX0 1 T.f_check_check T.fd_check_check ["check"] (sp_check_check T.C_Check) := by
  refine T.F_check_check.ok sc_check_check (fun vs H Q E h => by obtain ⟨a, wd, W, rfl, _⟩ := h; rfl) (fun cdv A outer s H vs Q E hr h => ?_)
  obtain ⟨a, wd, W, rfl, hC, q⟩ := h
  refine ⟨_, PSs.nox (pss_one (ps_if (pt_not (pt_val (pe_callB (k_isi K rfl) (by rfl) T.n_isinstance (by decide +kernel) (pa_cons (pv 0) (pa_cons (pe_glob (v := .ref T.C_Check) rfl T.gc_Check rfl) pa_nil)))))
    (pss_one ps_never)
    pss_nil)), ?_⟩
  obtain ⟨_, _, dx, ha⟩ := hC
  refine ⟨_, rfl, _, _, _, _, true, rfl, .own _, tyx_insC T.ic_Check ha, T.ic_Check.me, true, rfl, iteF ?_⟩
  exact q
def sp_sum_of (C : Addr) : Sp := fun vs H Q _ => ∃ (a : Addr) (wd W : Nat), vs = [.ref a] ∧ CheckAt C H a wd W ∧ Q (.int W) H
theorem G_sum_of (T : Top K mg) : FnOk P w K mg base CX0 1 T.f_sum_of T.fd_sum_of ["check"] (sp_sum_of T.C_Check) := by
  refine T.F_sum_of.ok sc_sum_of (fun vs H Q E h => by obtain ⟨a, wd, W, rfl, _⟩ := h; rfl) (fun cdv A outer s H vs Q E hr h => ?_)
  obtain ⟨a, wd, W, rfl, hC, q⟩ := h
  refine ⟨_, PSs.nox (pss_one (ps_ret (pe_op op_add (pe_op op_shl pe_int (pe_fld (pv 0) rfl)) (pe_fld (pv 0) rfl)))), ?_⟩
  obtain ⟨hK, hw, dx, ha⟩ := hC
  refine ⟨_, rfl, a, T.C_Check, dx, _, _, rfl, ha, T.cl_Check, T.na_Check_size, rfl, _, _, rfl, rfl, ⟨by omega, by omega, by decide⟩, _, rfl, a, T.C_Check, dx, _, _, rfl, ha, T.cl_Check, T.na_Check_tail, rfl, _, _, rfl, rfl, ?_⟩
  have e : (1 : Int) * 2 ^ ((wd : Int)).toNat + ((W - 2 ^ wd : Nat) : Int) = (W : Int) := by
    have h := hK.lo
    rw [Int.one_mul, Int.toNat_natCast]
    have : ((2 ^ wd : Nat) : Int) = 2 ^ wd := by rw [Int.natCast_pow]; rfl
    omega
  dsimp only
  rw [e]
  exact q
def sp_shifted (C : Addr) : Sp := fun vs H Q _ => ∃ (a : Addr) (wd W n : Nat), vs = [.ref a, .int n] ∧ CheckAt C H a wd W ∧ n < 2 ^ wd ∧ Q (.int (sh wd W n)) H
theorem G_shifted (T : Top K mg) : FnOk P w K mg base CX0 2 T.f_shifted T.fd_shifted ["check", "one"] (sp_shifted T.C_Check) := by
  refine T.F_shifted.ok sc_shifted (fun vs H Q E h => by obtain ⟨a, wd, W, n, rfl, _⟩ := h; rfl) (fun cdv A outer s H vs Q E hr h => ?_)
  obtain ⟨a, wd, W, n, rfl, hC, hn, q⟩ := h
  refine ⟨_, PSs.nox (pss_one (ps_ret (pe_ifExp (pt_cmpR op_eq (pe_op op_shr (pe_op op_mul (pv 1) pe_int) (pe_fld (pv 0) rfl)) pe_int (nomark _)) (pe_op op_xor (pe_op op_mul (pv 1) pe_int) (pe_call (G_sum_of T) (hr.mono (by decide)) (by rfl) T.g_sum_of T.F_sum_of.kp T.b_sum_of .nil pass0 (pa_cons (pv 0) pa_nil))) (pe_op op_mul (pv 1) pe_int)))), ?_⟩
  obtain ⟨hK, hw, dx, ha⟩ := id hC
  have h17 := pow17 hw
  have e2 : (n : Int) * 2 = ((2 * n : Nat) : Int) := by omega
  refine ⟨_, rfl, _, _, rfl, rfl, .inl ⟨by omega, by omega⟩, _, rfl, a, T.C_Check, dx, _, _, rfl, ha, T.cl_Check, T.na_Check_size, rfl, _, _, rfl, rfl, by omega, rfl, _, rfl, ?_⟩
  unfold sh red at q
  have ed : (n : Int) * 2 / 2 ^ ((wd : Int)).toNat = (((2 * n) >>> wd : Nat) : Int) := by rw [e2, shrI]
  by_cases c1 : (2 * n) >>> wd = 1
  · refine iteET (ed.trans (by rw [c1]; rfl)) ?_
    rw [if_pos c1] at q
    refine ⟨_, rfl, _, _, rfl, rfl, .inl ⟨by omega, by omega⟩, _, rfl, a, wd, W, rfl, hC, _, _, rfl, rfl, ?_⟩
    dsimp only
    rw [e2, bx]
    exact q
  · refine iteEF (fun z => c1 (by have z2 := ed.symm.trans z; omega)) ?_
    rw [if_neg c1] at q
    refine ⟨_, rfl, _, _, rfl, rfl, .inl ⟨by omega, by omega⟩, ?_⟩
    dsimp only
    rw [e2]
    exact q
theorem restB_take {wd W : Nat} {bs : List Bool} {i : Nat} {b : Bool} (h : bs[i]? = some b) : restB wd W (bs.take (i + 1)) = red wd W (2 * restB wd W (bs.take i) + b.toNat) := by
  rw [List.take_add_one, h]
  exact restB_snoc _ _
theorem bool_int (b : Bool) : (if b = true then (1 : Int) else 0) = ((b.toNat : Nat) : Int) := by cases b <;> rfl
def sp_rest_of (C : Addr) : Sp := fun vs H Q _ => ∃ (a : Addr) (wd W : Nat) (bs : List Bool), vs = [.ref a, .str (bS bs)] ∧ CheckAt C H a wd W ∧ Q (.int (restB wd W bs)) H
/-- the word of a row -/
def wordB (wd W : Nat) (bs : List Bool) : Nat := restB wd W (bs ++ List.replicate wd false)
def sp_word (C : Addr) : Sp := fun vs H Q _ => ∃ (a : Addr) (wd W : Nat) (bs : List Bool), vs = [.ref a, .str (bS bs)] ∧ CheckAt C H a wd W ∧ bs.length ≤ 1000 ∧ ∀ H', Same H H' → Q (.int (wordB wd W bs)) H'
def sp_sealed (C : Addr) : Sp := fun vs H Q _ => ∃ (a : Addr) (wd W : Nat) (bs : List Bool), vs = [.ref a, .str (bS bs)] ∧ CheckAt C H a wd W ∧ bs.length ≤ 1000 ∧ ∀ H', Same H H' → Q (.str (bS (bs ++ bitsB (wordB wd W bs) wd))) H'
end
end My

namespace My
open PySem PySem.Spec PyProof.Rows L2 Pre
theorem bl_iff {n m : Nat} : Builtin.Int.intBits (n : Int) ≤ m ↔ n < 2 ^ m := by
  rw [intBits_le_iff]
  rfl
theorem bl_W {wd W : Nat} (h : Ck wd W) : Builtin.Int.intBits (W : Int) = wd + 1 := by
  have h1 := bl_iff.mpr h.hi
  have h2 : ¬ Builtin.Int.intBits (W : Int) ≤ wd := fun z => by
    have := bl_iff.mp z
    have := h.lo
    omega
  omega
theorem rest_turn {wd W l : Nat} (h : Ck wd W) (c : wd + 1 ≤ Builtin.Int.intBits (l : Int)) : l ^^^ (W <<< (Builtin.Int.intBits (l : Int) - (wd + 1))) < l ∧ rem wd W (l ^^^ (W <<< (Builtin.Int.intBits (l : Int) - (wd + 1)))) = rem wd W l := by
  refine ⟨?_, ?_⟩
  · generalize hk : Builtin.Int.intBits (l : Int) - (wd + 1) = k
    have e : Builtin.Int.intBits (l : Int) = wd + k + 1 := by omega
    have h1 : l < 2 ^ (wd + k + 1) := bl_iff.mp (by omega)
    have h2 : 2 ^ (wd + k) ≤ l := by
      have : ¬ l < 2 ^ (wd + k) := fun z => by
        have := bl_iff.mpr z
        omega
      omega
    have hl := h.lo
    have hh := h.hi
    have h3 : W <<< k < 2 ^ (wd + k + 1) := by
      rw [Nat.shiftLeft_eq, show wd + k + 1 = wd + 1 + k by omega, Nat.pow_add]
      exact Nat.mul_lt_mul_of_pos_right hh (Nat.pow_pos (by omega))
    have h4 : 2 ^ (wd + k) ≤ W <<< k := by
      rw [Nat.shiftLeft_eq, Nat.pow_add]
      exact Nat.mul_le_mul_right _ (by omega)
    exact Nat.lt_of_lt_of_le (xor_low h1 h3 h2 h4) h2
  · rw [rem_xor h, rem_shl h _ _ (rem_self h), Nat.xor_zero]
local macro_rules | `(tactic| walk_at "go") => `(tactic| repeat (first | (with_reducible first | refine iteT ?_ | refine iteF ?_ | refine iteNtt ?_ | refine iteNff ?_ | refine iteET (by omega) ?_ | refine iteEF (by omega) ?_ | refine iteENT (by omega) ?_ | refine iteENF (by omega) ?_ | refine iteDT (by omega) ?_ | refine iteDF (by omega) ?_ | refine iteNT (by omega) ?_ | refine iteNF (by omega) ?_) | refine ⟨_, rfl, ?_⟩ | refine ⟨_, _, rfl, rfl, ?_⟩ | refine ⟨_, _, rfl, ?_⟩ | refine ⟨rfl, ?_⟩ | refine .inl ⟨_, rfl, ?_⟩ | refine .inr ⟨_, rfl, ?_⟩))
local macro_rules | `(tactic| walk_at "b") => `(tactic| try dsimp (config := { proj := false, iota := false, eta := false, zeta := false }) only)
section
variable {P : Program} {w : World} {K : PySem.W.Frag} {mg : Str → Option Value} {base : Heap}
theorem numB_take {bs : List Bool} {i : Nat} {b : Bool} (h : bs[i]? = some b) : numB (bs.take (i + 1)) = 2 * numB (bs.take i) + b.toNat := by
  rw [List.take_add_one, h]
  exact numB_snoc _ _
def sp_law_number : Sp := fun vs H Q _ => ∃ (bs : List Bool), vs = [.str (bS bs)] ∧ Q (.int (numB bs)) H
def sp_law_bits : Sp := fun vs H Q _ => ∃ (n k : Nat), vs = [.int n, .int k] ∧ k ≤ 1000 ∧ ∀ H', Same H H' → Q (.str (bS (bitsB n k))) H'
def sp_law_drawn : Sp := fun vs H Q _ => ∃ (g : Addr) (n wd : Nat), vs = [.ref g, .int wd] ∧ GenAt H g n ∧ n ≤ 10 ^ 12 ∧ 1 ≤ wd ∧ wd ≤ 16 ∧ ∀ (l : Nat) H', l < 2 ^ wd → l % 2 = 1 → GenAt H' g (n + 100) → But g H H' → Q (.int l) H'
theorem G_law_drawn (T : Top K mg) : FnOk P w K mg base CX0 3 T.f_law_drawn T.fd_law_drawn ["_law_generator_here", "_law_width"] sp_law_drawn := by
  refine T.F_law_drawn.ok sc_law_drawn (fun vs H Q E h => by obtain ⟨g, n, wd, rfl, _⟩ := h; rfl) (fun cdv A outer s H vs Q E hr h => ?_)
  obtain ⟨g, n, wd, rfl, hg, hn, h1, h2, q⟩ := h
  refine ⟨_, PSs.nox (pss_one (ps_ret (pe_op op_add pe_int (pe_op op_mul pe_int (pe_call (G_law_random T) (hr.mono (by decide)) (by rfl) T.g_law_random T.F_law_random.kp T.b_law_random .nil pass0 (pa_cons (pv 0) (pa_cons (pe_op op_shl pe_int (pe_op op_sub (pv 1) pe_int)) pa_nil))))))), ?_⟩
  have e2 : 2 ^ wd = 2 ^ (wd - 1) * 2 := by
    rw [← Nat.pow_succ, show (wd - 1).succ = wd by omega]
  have h17 := pow17 (w := wd) h2
  have eb : (1 : Int) * 2 ^ ((wd : Int) - 1).toNat = ((2 ^ (wd - 1) : Nat) : Int) := by
    rw [Int.one_mul, show ((wd : Int) - 1).toNat = wd - 1 by omega, Int.natCast_pow]
    rfl
  have hp : 0 < 2 ^ (wd - 1) := Nat.pow_pos (by omega)
  refine ⟨_, rfl, _, rfl, _, _, rfl, rfl, _, _, rfl, rfl, ⟨by omega, by omega, by decide⟩, g, _, n, rfl, hg, hn, ?_, ?_, ?_⟩
  · omega
  · omega
  · intro d H1 d0 d1 hg1 b1
    refine ⟨_, _, rfl, rfl, .inl ⟨by decide, by decide⟩, _, _, rfl, rfl, ?_⟩
    have e3 : 1 + 2 * d = ((1 + 2 * d.toNat : Nat) : Int) := by omega
    dsimp only
    rw [e3]
    exact q _ _ (by omega) (by omega) hg1 b1
def sp_law_row : Sp := fun vs H Q _ => ∃ (g : Addr) (n k : Nat), vs = [.ref g, .int k] ∧ GenAt H g n ∧ n ≤ 10 ^ 12 ∧ k ≤ 1000 ∧ ∀ (bs : List Bool) H', bs.length = k → GenAt H' g (n + 100) → But g H H' → Q (.str (bS bs)) H'
end
end My

namespace My
open PySem PySem.Spec PyProof.Rows L2 Pre
local macro_rules | `(tactic| walk_at "go") => `(tactic| repeat (first | (with_reducible first | refine iteT ?_ | refine iteF ?_ | refine iteNtt ?_ | refine iteNff ?_ | refine iteET (by omega) ?_ | refine iteEF (by omega) ?_ | refine iteENT (by omega) ?_ | refine iteENF (by omega) ?_ | refine iteDT (by omega) ?_ | refine iteDF (by omega) ?_ | refine iteNT (by omega) ?_ | refine iteNF (by omega) ?_) | refine ⟨_, rfl, ?_⟩ | refine ⟨_, _, rfl, rfl, ?_⟩ | refine ⟨_, _, rfl, ?_⟩ | refine ⟨rfl, ?_⟩ | refine .inl ⟨_, rfl, ?_⟩ | refine .inr ⟨_, rfl, ?_⟩))
local macro_rules | `(tactic| walk_at "b") => `(tactic| try dsimp (config := { proj := false, iota := false, eta := false, zeta := false }) only)
section
variable {P : Program} {w : World} {K : PySem.W.Frag} {mg : Str → Option Value} {base : Heap}
def sp_law_rest : Sp := fun vs H Q _ => ∃ (wd W n : Nat), vs = [.int W, .int n] ∧ Ck wd W ∧ wd ≤ 16 ∧ n < 2 ^ 1000 ∧ Q (.int (rem wd W n)) H
theorem G_law_rest (T : Top K mg) : FnOk P w K mg base CX0 1 T.f_law_rest T.fd_law_rest ["_law_whole", "_law_number"] sp_law_rest := by
  refine T.F_law_rest.ok sc_law_rest (fun vs H Q E h => by obtain ⟨wd, W, n, rfl, _⟩ := h; rfl) (fun cdv A outer s H vs Q E hr h => ?_)
  obtain ⟨wd, W, n, rfl, hK, hw, hn, q⟩ := h
  refine ⟨_, PSs.nox (pss_cons (ps_set (i := 2) sc_law_rest.nd rfl (by first | exact Or.inl rfl | exact Or.inr rfl) (pv 1))
  (pss_cons (ps_while PassesOwn.never (pt_cmpR op_ge (pe_bits (pv 2)) (pe_bits (pv 0)) (nomark _))
    (pss_one (ps_set (i := 2) sc_law_rest.nd rfl (by first | exact Or.inl rfl | exact Or.inr rfl) (pe_op op_xor (pv 2) (pe_op op_shl (pv 0) (pe_op op_sub (pe_bits (pv 2)) (pe_bits (pv 0))))))))
  (pss_one (ps_ret (pv 2))))), ?_⟩
  have h17 := pow17 (w := wd + 1 - 1) (by omega)
  have hW : W < 2 ^ 17 := by
    have := hK.hi
    have e : 2 ^ (wd + 1) = 2 ^ wd * 2 := Nat.pow_succ ..
    simp at h17
    omega
  refine ⟨_, rfl, ?_⟩
  refine ⟨fun m σ H1 => ∃ l : Nat, σ = [some (.int W), some (.int n), some (.int l)] ∧ H1 = H ∧ m = l ∧ l < 2 ^ 1000 ∧ rem wd W l = rem wd W n, ⟨n, n, rfl, rfl, rfl, hn, rfl⟩, ?_⟩
  rintro m σ H1 ⟨l, rfl, rfl, hm, hl, hr⟩
  refine ⟨_, rfl, _, rfl, _, rfl, _, rfl, _, _, rfl, rfl, _, rfl, ite2 (fun c => ?_) (fun c => ?_)⟩
  · have c1 : wd + 1 ≤ Builtin.Int.intBits (l : Int) := by
      have := of_decide_eq_true c
      rw [bl_W hK] at this
      omega
    obtain ⟨t1, t2⟩ := rest_turn hK c1
    have hb : Builtin.Int.intBits (l : Int) ≤ 1000 := bl_iff.mpr hl
    refine ⟨fun σ' H' => ∃ l' : Nat, σ' = [some (.int W), some (.int n), some (.int l')] ∧ H' = H1 ∧ l' < l ∧ l' < 2 ^ 1000 ∧ rem wd W l' = rem wd W n, fun σ' H' ⟨l', e1, e2, e3, e4, e5⟩ => ⟨l', by omega, l', e1, e2, rfl, e4, e5⟩, ?_⟩
    have ek : ((Builtin.Int.intBits (l : Int) : Nat) : Int) - ((Builtin.Int.intBits (W : Int) : Nat) : Int) = ((Builtin.Int.intBits (l : Int) - (wd + 1) : Nat) : Int) := by
      rw [bl_W hK]
      omega
    refine ⟨_, rfl, _, rfl, _, rfl, _, rfl, _, rfl, _, rfl, _, _, rfl, rfl, _, _, rfl, rfl, ⟨by omega, by omega, by omega⟩, _, _, rfl, rfl, ?_⟩
    dsimp only
    rw [ek, shlI, bx]
    exact ⟨_, rfl, rfl, t1, by omega, t2.trans hr⟩
  · have c1 : Builtin.Int.intBits (l : Int) ≤ wd := by
      have : ¬ ((Builtin.Int.intBits (l : Int) : Nat) : Int) ≥ ((Builtin.Int.intBits (W : Int) : Nat) : Int) := fun z => c (decide_eq_true z)
      rw [bl_W hK] at this
      omega
    rw [← hr, rem_small hK _ (bl_iff.mp c1)] at q
    exact ⟨_, rfl, q⟩
end
end My

namespace My
open PySem PySem.Spec PyProof.Rows L2 Pre
theorem k_all {X : Cx} (K : PySem.W.Frag) (h : X.K = K) (hc : X.calm = true) : CallR X (.builtin "all") (rAll K) := by subst h; exact cr_all hc
theorem DtA.boolsE {H : Hp} : ∀ {bs : List Bool} {vs : List V}, DtA H vs (bs.map PyData.bool) → vs = bs.map V.bl
  | [], _, h => by cases h; rfl
  | b :: bs, _, h => by
    cases h with
    | cons a c =>
      cases a
      rw [DtA.boolsE c]
      rfl
theorem all_true (n : Nat) : (List.replicate n true).all id = true := by
  induction n with
  | zero => rfl
  | succ n ih => rw [List.replicate_succ, List.all_cons, ih]; rfl
theorem prod_mod (a b i : Nat) : prod a (b % 2 ^ (i + 1)) = prod a (b % 2 ^ i) ^^^ (if b >>> i % 2 = 1 then a <<< i else 0) := by
  have hi : b % 2 ^ i < 2 ^ i := Nat.mod_lt _ (Nat.pow_pos (by decide))
  have e : b % 2 ^ (i + 1) = b % 2 ^ i ^^^ ((b >>> i % 2) <<< i) := by
    refine Nat.eq_of_testBit_eq fun j => ?_
    rw [Nat.testBit_xor, Nat.testBit_mod_two_pow, Nat.testBit_mod_two_pow, Nat.testBit_shiftLeft]
    have hb : ∀ k, (b >>> i % 2).testBit k = (decide (k = 0) && b.testBit i) := fun k => by
      have : b >>> i % 2 = (b.testBit i).toNat := by rw [Nat.toNat_testBit, Nat.shiftRight_eq_div_pow]
      rw [this]
      cases b.testBit i <;> cases k <;> simp [Nat.testBit_succ]
    rw [hb]
    rcases Nat.lt_trichotomy j i with c | c | c
    · simp [show j < i + 1 by omega, c, show ¬ i ≤ j by omega]
    · subst c
      simp
    · simp [show ¬ j < i + 1 by omega, show ¬ j < i by omega, show ¬ j - i = 0 by omega]
  rw [e, prod_comm, prod_xorl, prod_comm _ a]
  congr 1
  have c : b >>> i % 2 = 0 ∨ b >>> i % 2 = 1 := by omega
  rcases c with c | c
  · rw [c, if_neg (by decide), Nat.zero_shiftLeft, prod_zerol]
  · rw [c, if_pos rfl, prod_comm]
    have : ∀ k, prod a (1 <<< k) = a <<< k := fun k => by
      induction k with
      | zero => rw [Nat.shiftLeft_zero, Nat.shiftLeft_zero, prod_comm, prod_one]
      | succ k ih =>
        rw [Nat.shiftLeft_succ, Nat.shiftLeft_succ, ← ih]
        have := prod_bit a (1 <<< k) 0 (by decide)
        simp only [Nat.add_zero] at this
        rw [this, if_neg (by decide), Nat.xor_zero]
    exact this i
/-- ways that meet again, whatever they stored -/
theorem joinS {b : Bool} {A : Prop} {R : L2.St → Hp → Prop} {σ : L2.St} {H : Hp} (Pv : L2.St → Hp → Prop) (cont : ∀ σ' H', Pv σ' H' → R σ' H') (h1 : b = true → (∀ σ' H', Pv σ' H' → R σ' H') → A) (h2 : b = false → Pv σ H) : if b = true then A else R σ H := by
  cases b with
  | true => rw [if_pos rfl]; exact h1 rfl cont
  | false => rw [if_neg (by decide)]; exact cont _ _ (h2 rfl)
local macro_rules | `(tactic| walk_at "go") => `(tactic| repeat (first | (with_reducible first | refine iteT ?_ | refine iteF ?_ | refine iteNtt ?_ | refine iteNff ?_ | refine iteET (by omega) ?_ | refine iteEF (by omega) ?_ | refine iteENT (by omega) ?_ | refine iteENF (by omega) ?_ | refine iteDT (by omega) ?_ | refine iteDF (by omega) ?_ | refine iteNT (by omega) ?_ | refine iteNF (by omega) ?_) | refine ⟨_, rfl, ?_⟩ | refine ⟨_, _, rfl, rfl, ?_⟩ | refine ⟨_, _, rfl, ?_⟩ | refine ⟨rfl, ?_⟩ | refine .inl ⟨_, rfl, ?_⟩ | refine .inr ⟨_, rfl, ?_⟩))
local macro_rules | `(tactic| walk_at "b") => `(tactic| try dsimp (config := { proj := false, iota := false, eta := false, zeta := false }) only)
section
variable {P : Program} {w : World} {K : PySem.W.Frag} {mg : Str → Option Value} {base : Heap}
/-- ascending places -/
def Rising (ts : List Nat) : Prop := ts.Pairwise (· < ·) ∧ (∀ t ∈ ts, t ≤ 10 ^ 18) ∧ ts.length ≤ 1000
def natI (ts : List Nat) : List Int := ts.map fun (t : Nat) => (t : Int)
theorem nat_at {ts : List Nat} {i : Nat} {x : V} (h : ((natI ts).map V.int)[i]? = some x) : ∃ t, ts[i]? = some t ∧ x = .int (t : Int) := by
  obtain ⟨n, hn, rfl⟩ := int_at h
  unfold natI at hn
  rw [List.getElem?_map] at hn
  obtain ⟨t, ht, rfl⟩ := Option.map_eq_some_iff.mp hn
  exact ⟨t, ht, rfl⟩
theorem nat_len (ts : List Nat) : ((natI ts).map V.int).length = ts.length := by unfold natI; rw [List.length_map, List.length_map]
theorem rd_listC {K : PySem.W.Frag} {H : Hp} {a : Addr} {xs : List V} (h : Rd H a (.lst xs)) : TyX K H (.ref a) (.type "list") := by
  rcases h with h | ⟨o, h⟩
  · exact .base (.lst h)
  · exact .base (.frz h)
def sp_are_places (K : PySem.W.Frag) : Sp := fun vs H Q _ => ∃ (a : Addr) (ts : List Nat), vs = [.ref a] ∧ H a = some (.lst ((natI ts).map V.int)) ∧ Rising ts ∧ ∀ H', Same H H' → Q (.bl true) H'
def sp_check_places : Sp := fun vs H Q _ => ∃ (a : Addr) (ts : List Nat), vs = [.ref a] ∧ H a = some (.lst ((natI ts).map V.int)) ∧ Rising ts ∧ ∀ H', Same H H' → Q .non H'
def sp_check_rest (C : Addr) : Sp := fun vs H Q _ => ∃ (a : Addr) (wd W n : Nat), vs = [.ref a, .int n] ∧ CheckAt C H a wd W ∧ n < 2 ^ wd ∧ Q .non H
theorem shr_half (b k : Nat) : b >>> (k + 1) = b >>> k / 2 := Nat.shiftRight_succ b k
def sp_rest_times (C : Addr) : Sp := fun vs H Q _ => ∃ (a : Addr) (wd W m n : Nat), vs = [.ref a, .int m, .int n] ∧ CheckAt C H a wd W ∧ m < 2 ^ wd ∧ n < 2 ^ wd ∧ Q (.int (mulR wd W m n)) H
def sp_power_of (C : Addr) : Sp := fun vs H Q _ => ∃ (a : Addr) (wd W n : Nat), vs = [.ref a, .int n] ∧ CheckAt C H a wd W ∧ Q (.int (pw wd W n)) H
def sp_sum_at (C : Addr) (K : PySem.W.Frag) : Sp := fun vs H Q _ => ∃ (a b : Addr) (wd W : Nat) (ts : List Nat), vs = [.ref a, .ref b] ∧ CheckAt C H a wd W ∧ SqL K H b ((natI ts).map V.int) ∧ Q (.int (valP wd W ts)) H
theorem valP_take {wd W : Nat} {ts : List Nat} {i t : Nat} (h : ts[i]? = some t) : valP wd W (ts.take (i + 1)) = valP wd W (ts.take i) ^^^ pw wd W t := by
  rw [List.take_add_one, h]
  unfold valP
  rw [List.foldl_append]
  rfl
def sp_rest (C : Addr) : Sp := fun vs H Q _ => ∃ (a : Addr) (wd W : Nat) (bs : List Bool), vs = [.ref a, .str (bS bs)] ∧ CheckAt C H a wd W ∧ bs.length ≤ 1000 ∧ ∀ H', Same H H' → Q (.int (restB wd W bs)) H'
def sp_is_right (C : Addr) : Sp := fun vs H Q _ => ∃ (a : Addr) (wd W : Nat) (bs : List Bool), vs = [.ref a, .str (bS bs)] ∧ CheckAt C H a wd W ∧ bs.length ≤ 1000 ∧ ∀ H', Same H H' → Q (.bl (decide (restB wd W bs = 0))) H'
theorem dec_nat (n m : Nat) : decide (V.int ((n : Nat) : Int) = V.int ((m : Nat) : Int)) = decide (n = m) := by
  by_cases h : n = m
  · rw [decide_eq_true h, decide_eq_true (by rw [h])]
  · rw [decide_eq_false h, decide_eq_false (fun z => h (by have := V.int.inj z; omega))]
def sp_power (C : Addr) : Sp := fun vs H Q _ => ∃ (a : Addr) (wd W n : Nat), vs = [.ref a, .int n] ∧ CheckAt C H a wd W ∧ n ≤ 10 ^ 18 ∧ Q (.int (pw wd W n)) H
def sp_joined_word (C : Addr) : Sp := fun vs H Q _ => ∃ (a : Addr) (wd W m n k : Nat), vs = [.ref a, .int m, .int n, .int k] ∧ CheckAt C H a wd W ∧ m < 2 ^ wd ∧ n < 2 ^ wd ∧ k ≤ 10 ^ 18 ∧ Q (.int (shn wd W k m ^^^ n : Nat)) H
def sp_turned_word (C : Addr) : Sp := fun vs H Q _ => ∃ (a b : Addr) (wd W m : Nat) (ts : List Nat), vs = [.ref a, .int m, .ref b] ∧ CheckAt C H a wd W ∧ m < 2 ^ wd ∧ H b = some (.lst ((natI ts).map V.int)) ∧ Rising ts ∧ ∀ H', Same H H' → Q (.int (m ^^^ valP wd W (ts.map fun t => t + wd) : Nat)) H'
def sp_law_product : Sp := fun vs H Q _ => ∃ (m n : Nat), vs = [.int m, .int n] ∧ m < 2 ^ 20 ∧ n < 2 ^ 1000 ∧ Q (.int (prod m n)) H
def sp_law_power : Sp := fun vs H Q _ => ∃ (wd W n : Nat), vs = [.int W, .int n] ∧ Ck wd W ∧ wd ≤ 16 ∧ Q (.int (pw wd W n)) H
end
end My

namespace My
open PySem PySem.Spec PyProof.Rows L2 Pre
/-- a dict comprehension over a walk -/
theorem dc_it {J : It} {n : Nat} {G : Hp → Prop} {Y : Nat → Hp → V → Hp → Prop} (w : Walk J n G Y) {g : TG} {tt : TT} {tk tv : TE} {vs : List Nat} {σ : L2.St} {H1 : Hp} {D : Addr} {Qd : Hp → Prop} (Pv : Nat → Hp → Prop) (h0 : Pv 0 (upd H1 D (.dK []))) (hG : ∀ i H, i ≤ n → Pv i H → G H)
    (hs : ∀ i x H H', i < n → Pv i H → Y i H x H' → g x (wipe σ vs) H' fun σ2 H2 => wipe σ2 vs = wipe σ vs ∧ tt σ2 H2 fun b H3 =>
      if b = true then tk σ2 H3 fun y H4 => tv σ2 H4 fun z H5 => ∃ kvs k, y = kV k ∧ H5 D = some (.dK kvs) ∧ kvs.length < sizeLine ∧ Pv (i + 1) (upd H5 D (.dK (putK kvs k z))) else Pv (i + 1) H3) (hd : ∀ H, Pv n H → Qd H) :
    ∃ W : Nat → Nat → Hp → Prop, (∃ m, W 0 m (upd H1 D (.dK []))) ∧ ∀ i m H, W i m H →
      (J.stop i H ∧ Qd H) ∨ (J.go i H ∧ ∃ Nx : Hp → Prop, (∀ H', Nx H' → ∃ m', m' < m ∧ W (i + 1) m' H') ∧ ∀ x H', J.yld i H x H' → g x (wipe σ vs) H' fun σ2 H2 => wipe σ2 vs = wipe σ vs ∧ tt σ2 H2 fun b H3 =>
        if b = true then tk σ2 H3 fun y H4 => tv σ2 H4 fun z H5 => ∃ kvs k, y = kV k ∧ H5 D = some (.dK kvs) ∧ kvs.length < sizeLine ∧ Nx (upd H5 D (.dK (putK kvs k z))) else Nx H3) := by
  refine ⟨fun i m H => m + i = n ∧ Pv i H, ⟨n, by omega, h0⟩, ?_⟩
  rintro i m H ⟨hm, p⟩
  have q := hG i H (by omega) p
  rcases Nat.lt_or_ge i n with c | c
  · exact .inr ⟨w.goes i H c q, Pv (i + 1), fun H' p' => ⟨m - 1, by omega, by omega, p'⟩, fun x H' y => hs i x H H' c p (w.yields i H x H' c q y)⟩
  · have e : i = n := by omega
    subst e
    exact .inl ⟨w.stops H q, hd H p⟩
/-! ### powers in a list -/
def powsL (wd W d : Nat) : List Int := (List.range d).map fun i => ((pw wd W i : Nat) : Int)
theorem powsL_len (wd W d : Nat) : (powsL wd W d).length = d := by simp [powsL]
theorem powsL_at {wd W d i : Nat} (h : i < d) : (powsL wd W d)[i]? = some ((pw wd W i : Nat) : Int) := by simp [powsL, h]
theorem powsL_next (wd W d : Nat) : powsL wd W (d + 1) = powsL wd W d ++ [((pw wd W d : Nat) : Int)] := by simp [powsL, List.range_succ]
theorem powsL_atI {wd W d i : Nat} (h : i < d) : atI ((powsL wd W d).map V.int) (i : Int) = some (.int ((pw wd W i : Nat) : Int)) := atI_nat (by rw [List.getElem?_map, powsL_at h]; rfl)
/-- a dict of the first d powers' places -/
def SpotsD (wd W d : Nat) (kvs : List (Key × V)) : Prop := kvs.length ≤ d ∧ (∀ i, i < d → valV kvs (.inl ((pw wd W i : Nat) : Int)) = some (.int i)) ∧ ∀ x : Int, (∀ i, i < d → ((pw wd W i : Nat) : Int) ≠ x) → valV kvs (.inl x) = none
theorem inl_ne {a b : Int} (h : a ≠ b) : (Sum.inl a : Key) ≠ Sum.inl b := fun z => h (Sum.inl.inj z)
theorem SpotsD.next {wd W d e : Nat} {kvs : List (Key × V)} (C : Ck wd W) (O : IsOrder wd W e) (hd : d < e) (h : SpotsD wd W d kvs) : SpotsD wd W (d + 1) (putK kvs (.inl ((pw wd W d : Nat) : Int)) (.int d)) := by
  obtain ⟨h1, h2, h3⟩ := h
  refine ⟨?_, fun i hi => ?_, fun x hx => ?_⟩
  · have := length_putK kvs (.inl ((pw wd W d : Nat) : Int)) (.int d)
    omega
  · rw [valV_put]
    by_cases c : i = d
    · subst c
      rw [if_pos rfl]
    · rw [if_neg (inl_ne fun z => no2 C O (a := i) (b := d) (by omega) hd (by omega))]
      exact h2 i (by omega)
  · rw [valV_put, if_neg (inl_ne fun z => hx d (by omega) z.symm)]
    exact h3 x fun i hi => hx i (by omega)
/-- spots.get(x, 0) of it -/
theorem SpotsD.get {wd W d : Nat} {kvs : List (Key × V)} (h : SpotsD wd W d kvs) (x : Nat) : ∃ i : Nat, (valV kvs (.inl (x : Int))).getD (.int 0) = .int i ∧ ((i < d ∧ pw wd W i = x) ∨ (i = 0 ∧ ∀ j, j < d → pw wd W j ≠ x)) := by
  by_cases c : ∃ i, i < d ∧ pw wd W i = x
  · obtain ⟨i, hi, rfl⟩ := c
    exact ⟨i, by rw [h.2.1 i hi]; rfl, .inl ⟨hi, rfl⟩⟩
  · refine ⟨0, ?_, .inr ⟨rfl, fun j hj z => c ⟨j, hj, z⟩⟩⟩
    rw [h.2.2 x fun i hi z => c ⟨i, hi, by omega⟩]
    rfl
local macro_rules | `(tactic| walk_at "go") => `(tactic| repeat (first | (with_reducible first | refine iteT ?_ | refine iteF ?_ | refine iteNtt ?_ | refine iteNff ?_ | refine iteET (by omega) ?_ | refine iteEF (by omega) ?_ | refine iteENT (by omega) ?_ | refine iteENF (by omega) ?_ | refine iteDT (by omega) ?_ | refine iteDF (by omega) ?_ | refine iteNT (by omega) ?_ | refine iteNF (by omega) ?_) | refine ⟨_, rfl, ?_⟩ | refine ⟨_, _, rfl, rfl, ?_⟩ | refine ⟨_, _, rfl, ?_⟩ | refine ⟨rfl, ?_⟩ | refine .inl ⟨_, rfl, ?_⟩ | refine .inr ⟨_, rfl, ?_⟩))
local macro_rules | `(tactic| walk_at "b") => `(tactic| try dsimp (config := { proj := false, iota := false, eta := false, zeta := false }) only)
section
variable {P : Program} {w : World} {K : PySem.W.Frag} {mg : Str → Option Value} {base : Heap}
def sp_powers_of (C : Addr) : Sp := fun vs H Q _ => ∃ (a : Addr) (wd W : Nat), vs = [.ref a] ∧ CheckAt C H a wd W ∧ ∀ (d : Nat) H' p, IsOrder wd W d → d < 2 ^ wd → Same H H' → H p = none → H' p = some (.lst ((powsL wd W d).map V.int)) → Q (.ref p) H'
theorem G_powers_of (T : Top K mg) : FnOk P w K mg base CX0 3 T.f_powers_of T.fd_powers_of ["check"] (sp_powers_of T.C_Check) := by
  refine T.F_powers_of.ok sc_powers_of (fun vs H Q E h => by obtain ⟨a, wd, W, rfl, _⟩ := h; rfl) (fun cdv A outer s H vs Q E hr h => ?_)
  obtain ⟨a, wd, W, rfl, hC, q⟩ := h
  refine ⟨_, PSs.nox (pss_cons (ps_par (by rfl) sc_powers_of.nd (i := 1) (j := 2) rfl rfl (by decide) rfl rfl (pa_cons (pe_lst (pa_cons pe_int pa_nil)) (pa_cons (pe_call (G_shifted T) (hr.mono (by decide)) (by rfl) T.g_shifted T.F_shifted.kp T.b_shifted .nil pass0 (pa_cons (pv 0) (pa_cons pe_int pa_nil))) pa_nil)) (by rfl))
  (pss_cons (ps_while PassesOwn.never (pt_cmpR op_ne (pv 2) pe_int (nomark _))
    (pss_cons (ps_expr (pe_bm PySem.F.plainAttrs_list PySem.F.slot_list_append PySem.F.type_list_append mt_append (pv 1) (pa_cons (pv 2) pa_nil)))
  (pss_one (ps_set (i := 2) sc_powers_of.nd rfl (by first | exact Or.inl rfl | exact Or.inr rfl) (pe_call (G_shifted T) (hr.mono (by decide)) (by rfl) T.g_shifted T.F_shifted.kp T.b_shifted .nil pass0 (pa_cons (pv 0) (pa_cons (pv 2) pa_nil)))))))
  (pss_one (ps_ret (pv 1))))), ?_⟩
  obtain ⟨hK, hw, dx, ha⟩ := id hC
  have h17 := pow17 hw
  obtain ⟨d, hO, hd⟩ := order_ex hK
  refine ⟨(show 1 ≤ sizeLine by decide), fun p np => ?_⟩
  obtain ⟨H1, e1, s1, h1⟩ := fresh (.lst [V.int 1]) np
  rw [e1]
  have p1 : pw wd W 1 = sh wd W 1 := by rw [pw_succ, pw_zero hK]
  have one_lt : 1 < 2 ^ wd := by
    have := pw_lt hK 0
    rwa [pw_zero hK] at this
  refine ⟨_, rfl, a, wd, W, 1, rfl, hC.same s1, one_lt, ?_⟩
  rw [← p1]
  refine ⟨_, _, rfl, ?_⟩
  refine ⟨fun m σ H2 => ∃ i : Nat, σ = [some (.ref a), some (.ref p), some (.int (pw wd W i))] ∧ m + i = d ∧ 1 ≤ i ∧ Same H H2 ∧ H2 p = some (.lst ((powsL wd W i).map V.int)), ⟨d - 1, 1, rfl, by have := hO.pos; omega, Nat.le_refl _, s1, ?_⟩, ?_⟩
  · rw [h1]
    show _ = some (HO.lst [V.int ((pw wd W 0 : Nat) : Int)])
    rw [pw_zero hK]
    rfl
  rintro m σ H2 ⟨i, rfl, hm, hi, s2, h2⟩
  by_cases c : pw wd W i = 1
  · refine ⟨_, rfl, rfl, _, rfl, iteENF (by rw [c]; rfl) ?_⟩
    have ei : i = d := by
      by_cases z : i < d
      · exact absurd c (hO.ne i (by omega) z)
      · omega
    subst ei
    exact ⟨_, rfl, q i _ p hO hd s2 np h2⟩
  · refine ⟨_, rfl, rfl, _, rfl, iteENT (fun z => c (by omega)) ?_⟩
    have li : i < d := by
      by_cases z : i < d
      · exact z
      · have : i = d := by omega
        subst this
        exact absurd hO.at_ c
    refine ⟨fun σ' H' => ∃ i' : Nat, σ' = [some (.ref a), some (.ref p), some (.int (pw wd W i'))] ∧ i' = i + 1 ∧ Same H H' ∧ H' p = some (.lst ((powsL wd W i').map V.int)), fun σ' H' ⟨i', e1, e2, e3, e4⟩ => ⟨m - 1, by omega, i', e1, by omega, by omega, e3, e4⟩, ?_⟩
    refine ⟨_, rfl, .inl ⟨rfl, _, .inl (.inl h2)⟩, _, rfl, p, _, _, rfl, rfl, h2, by rw [List.length_map, powsL_len]; exact Nat.lt_of_lt_of_le (show i < 65536 by omega) (by decide), ?_⟩
    have s3 : Same H (upd H2 p (.lst ((powsL wd W i).map V.int ++ [V.int (pw wd W i)]))) := same_over np s2
    refine ⟨_, rfl, _, rfl, a, wd, W, pw wd W i, rfl, hC.same s3, pw_lt hK i, ?_⟩
    rw [← pw_succ]
    refine ⟨i + 1, rfl, rfl, s3, ?_⟩
    rw [upd_same, powsL_next, List.map_append]
    rfl
def sp_spots_of (K : PySem.W.Frag) : Sp := fun vs H Q _ => ∃ (a : Addr) (wd W d : Nat), vs = [.ref a] ∧ SqL K H a ((powsL wd W d).map V.int) ∧ Ck wd W ∧ IsOrder wd W d ∧ d ≤ 2048 ∧ ∀ H' p kvs, Same H H' → H p = none → H' p = some (.dK kvs) → SpotsD wd W d kvs → Q (.ref p) H'
def sp_least_of_three (K : PySem.W.Frag) : Sp := fun vs H Q _ => ∃ (a b : Addr) (wd W d : Nat) (kvs : List (Key × V)), vs = [.ref a, .ref b] ∧ SqL K H a ((powsL wd W d).map V.int) ∧ H b = some (.dK kvs) ∧ SpotsD wd W d kvs ∧ ∀ (t : Nat) H', Same H H' → IsFirst (Three wd W) d t → Q (.int t) H'
end
end My

namespace My
section
variable {w W : Nat} (C : Ck w W)
theorem first_ex (P : Nat → Prop) (n : Nat) : ∃ t, IsFirst P n t := by
  induction n with
  | zero => exact ⟨0, Nat.le_refl _, fun p h => absurd h (by omega), fun h => absurd h (by omega)⟩
  | succ n ih =>
    obtain ⟨t, h1, h2, h3⟩ := ih
    by_cases c : t < n
    · exact ⟨t, by omega, h2, fun _ => h3 c⟩
    · have e : t = n := by omega
      subst e
      by_cases d : P t
      · exact ⟨t, by omega, h2, fun _ => d⟩
      · exact ⟨t + 1, Nat.le_refl _, fun p hp => by
          by_cases z : p < t
          · exact h2 p z
          · rw [show p = t by omega]; exact d, fun h => absurd h (by omega)⟩
/-- the order, the first three, the first four -/
def Bounds (w W d t f : Nat) : Prop := IsOrder w W d ∧ IsFirst (Three w W) d t ∧ IsFirst (Four w W) t f
theorem bounds_ex (C : Ck w W) : ∃ d t f, Bounds w W d t f := by
  obtain ⟨d, hd, _⟩ := order_ex C
  obtain ⟨t, ht⟩ := first_ex (Three w W) d
  obtain ⟨f, hf⟩ := first_ex (Four w W) t
  exact ⟨d, t, f, hd, ht, hf⟩
theorem bounds_longest {d t f few L : Nat} (h : Bounds w W d t f) (hL : IsLongest w W few L) : (few = 3 ∧ L = d) ∨ (few = 4 ∧ L = t) ∨ (few = 5 ∧ L = f) := by
  rcases hL with ⟨e, a⟩ | ⟨e, d', a, a1⟩ | ⟨e, d', t', a, a1, a2⟩
  · exact .inl ⟨e, order_uniq a h.1⟩
  · cases order_uniq a h.1
    exact .inr (.inl ⟨e, first_uniq a1 h.2.1⟩)
  · cases order_uniq a h.1
    cases first_uniq a1 h.2.1
    exact .inr (.inr ⟨e, first_uniq a2 h.2.2⟩)
def distF (d t f n : Nat) : Option Nat := if d < n then some 2 else if t < n then some 3 else if f < n then some 4 else none
include C
theorem pw_add (k : Nat) {i j : Nat} (h : pw w W i = pw w W j) : pw w W (i + k) = pw w W (j + k) := by
  rw [← shn_pw, ← shn_pw, h]
theorem pw_mod {d : Nat} (O : IsOrder w W d) (n : Nat) : pw w W n = pw w W (n % d) := by
  induction n using Nat.strongRecOn with
  | _ n ih =>
    by_cases h : n < d
    · rw [Nat.mod_eq_of_lt h]
    · have hp := O.pos
      have e := pw_add C (n - d) (i := d) (j := 0) (by rw [O.at_, pw_zero C])
      rw [show d + (n - d) = n by omega, Nat.zero_add] at e
      rw [e, ih (n - d) (by omega)]
      congr 1
      exact (Nat.mod_eq_sub_mod (by omega)).symm
theorem pw_same {d : Nat} (O : IsOrder w W d) (a k : Nat) : pw w W a = pw w W (a + k) ↔ k % d = 0 := by
  have hp := O.pos
  constructor
  · intro h
    have := pw_back C (a := 0) (b := k) (k := a) (by rw [Nat.zero_add, Nat.add_comm k a]; exact h)
    rw [pw_zero C, pw_mod C O k] at this
    by_cases z : k % d = 0
    · exact z
    · exact absurd this.symm (O.ne _ (by omega) (Nat.mod_lt _ (by omega)))
  · intro h
    have : pw w W 0 = pw w W k := by rw [pw_mod C O k, h]
    have := pw_add C a this
    rw [Nat.zero_add, Nat.add_comm] at this
    exact this
/-! ### the first ones -/
omit C in
structure First3 (w W n o q : Nat) : Prop where
  h0 : 0 < o
  h1 : o < q
  h2 : q < n
  at_ : pw w W q = pw w W o ^^^ 1
  ne : ∀ o', 0 < o' → o' < o → ¬ ∃ q', o' < q' ∧ q' < n ∧ pw w W q' = pw w W o' ^^^ 1
omit C in
structure First4 (w W n o q l : Nat) : Prop where
  h0 : 0 < o
  h1 : o < q
  h2 : q < l
  h3 : l < n
  at_ : pw w W l = pw w W o ^^^ pw w W q ^^^ 1
  ne : ∀ o' q', 0 < o' → o' < q' → (o' < o ∨ (o' = o ∧ q' < q)) → ¬ ∃ l', q' < l' ∧ l' < n ∧ pw w W l' = pw w W o' ^^^ pw w W q' ^^^ 1
theorem first3_uniq {d n o q o' q' : Nat} (O : IsOrder w W d) (hn : n ≤ d) (a : First3 w W n o q) (b : First3 w W n o' q') : o = o' ∧ q = q' := by
  have e : o = o' := by
    rcases Nat.lt_trichotomy o o' with h | h | h
    · exact absurd ⟨q, a.h1, a.h2, a.at_⟩ (b.ne o a.h0 h)
    · exact h
    · exact absurd ⟨q', b.h1, b.h2, b.at_⟩ (a.ne o' b.h0 h)
  subst e
  have := a.h2
  have := b.h2
  exact ⟨rfl, pw_inj C O (by omega) (by omega) (by rw [a.at_, b.at_])⟩
theorem first4_uniq {d n o q l o' q' l' : Nat} (O : IsOrder w W d) (hn : n ≤ d) (a : First4 w W n o q l) (b : First4 w W n o' q' l') : o = o' ∧ q = q' ∧ l = l' := by
  have e : o = o' ∧ q = q' := by
    rcases Nat.lt_trichotomy o o' with h | h | h
    · exact absurd ⟨l, a.h2, a.h3, a.at_⟩ (b.ne o q a.h0 a.h1 (.inl h))
    · rcases Nat.lt_trichotomy q q' with k | k | k
      · exact absurd ⟨l, a.h2, a.h3, a.at_⟩ (b.ne o q a.h0 a.h1 (.inr ⟨h, k⟩))
      · exact ⟨h, k⟩
      · exact absurd ⟨l', b.h2, b.h3, b.at_⟩ (a.ne o' q' b.h0 b.h1 (.inr ⟨h.symm, k⟩))
    · exact absurd ⟨l', b.h2, b.h3, b.at_⟩ (a.ne o' q' b.h0 b.h1 (.inl h))
  obtain ⟨rfl, rfl⟩ := e
  have := a.h3
  have := b.h3
  exact ⟨rfl, rfl, pw_inj C O (by omega) (by omega) (by rw [a.at_, b.at_])⟩
omit C in
theorem three_some {d t f n : Nat} (h : Bounds w W d t f) (ht : t < n) (hn : n ≤ d) : ∃ o q, 0 < o ∧ o < q ∧ q < n ∧ pw w W q = pw w W o ^^^ 1 := by
  obtain ⟨q, h1, h2, h3⟩ := h.2.1.at_ (by omega)
  refine ⟨q, t, h1, h2, ht, ?_⟩
  rw [h3, Nat.xor_assoc, Nat.xor_self, Nat.xor_zero]
omit C in
theorem four_some {d t f n : Nat} (h : Bounds w W d t f) (hf : f < n) (hn : n ≤ t) : ∃ o q l, 0 < o ∧ o < q ∧ q < l ∧ l < n ∧ pw w W l = pw w W o ^^^ pw w W q ^^^ 1 := by
  obtain ⟨o, q, h1, h2, h3, h4⟩ := h.2.2.at_ (by omega)
  refine ⟨o, q, f, h1, h2, h3, hf, ?_⟩
  rw [h4, Nat.xor_assoc, Nat.xor_self, Nat.xor_zero]
omit C in
/-- what is told of the first unseen ones -/
def LeastUn (w W d t f n : Nat) : Option (List Nat) → Prop
  | none => distF d t f n = none
  | some xs => (distF d t f n = some 2 ∧ xs = [0, d]) ∨ (distF d t f n = some 3 ∧ ∃ o q, First3 w W n o q ∧ xs = [0, o, q]) ∨ (distF d t f n = some 4 ∧ ∃ o q l, First4 w W n o q l ∧ xs = [0, o, q, l])
omit C in
theorem dist_cases {d t f n : Nat} : (distF d t f n = some 2 ∧ d < n) ∨ (distF d t f n = some 3 ∧ n ≤ d ∧ t < n) ∨ (distF d t f n = some 4 ∧ n ≤ d ∧ n ≤ t ∧ f < n) ∨ (distF d t f n = none ∧ n ≤ d ∧ n ≤ t ∧ n ≤ f) := by
  unfold distF
  by_cases a : d < n
  · exact .inl ⟨if_pos a, a⟩
  · by_cases b : t < n
    · exact .inr (.inl ⟨by rw [if_neg a, if_pos b], by omega, b⟩)
    · by_cases c : f < n
      · exact .inr (.inr (.inl ⟨by rw [if_neg a, if_neg b, if_pos c], by omega, by omega, c⟩))
      · exact .inr (.inr (.inr ⟨by rw [if_neg a, if_neg b, if_neg c], by omega, by omega, by omega⟩))
theorem least_uniq {d t f n : Nat} (O : IsOrder w W d) {x y : Option (List Nat)} (a : LeastUn w W d t f n x) (b : LeastUn w W d t f n y) : x = y := by
  cases x with
  | none =>
    cases y with
    | none => rfl
    | some ys =>
      have a' : distF d t f n = none := a
      rcases b with ⟨b, _⟩ | ⟨b, _⟩ | ⟨b, _⟩ <;> rw [a'] at b <;> cases b
  | some xs =>
    cases y with
    | none =>
      have b' : distF d t f n = none := b
      rcases a with ⟨a, _⟩ | ⟨a, _⟩ | ⟨a, _⟩ <;> rw [b'] at a <;> cases a
    | some ys =>
      rcases a with ⟨a, rfl⟩ | ⟨a, o, q, h, rfl⟩ | ⟨a, o, q, l, h, rfl⟩ <;> rcases b with ⟨b, rfl⟩ | ⟨b, o', q', k, rfl⟩ | ⟨b, o', q', l', k, rfl⟩ <;> rw [a] at b <;> first | (cases b; done) | skip
      · have hn : n ≤ d := by rcases dist_cases (d := d) (t := t) (f := f) (n := n) with z | z | z | z <;> first | (rw [a] at z; cases z.1; done) | exact z.2.1
        obtain ⟨rfl, rfl⟩ := first3_uniq C O hn h k
        rfl
      · have hn : n ≤ d := by rcases dist_cases (d := d) (t := t) (f := f) (n := n) with z | z | z | z <;> first | (rw [a] at z; cases z.1; done) | exact z.2.1
        obtain ⟨rfl, rfl, rfl⟩ := first4_uniq C O hn h k
        rfl
/-- it is unseen, and rises -/
theorem least_unseen_zero {d t f n : Nat} (B : Bounds w W d t f) {xs : List Nat} (h : LeastUn w W d t f n (some xs)) : valP w W xs = 0 ∧ xs.Pairwise (· < ·) ∧ xs.length ≤ 4 ∧ ∀ x ∈ xs, x ≤ d := by
  have hp := B.1.pos
  have hc := dist_cases (d := d) (t := t) (f := f) (n := n)
  rcases h with ⟨a, rfl⟩ | ⟨a, o, q, h, rfl⟩ | ⟨a, o, q, l, h, rfl⟩
  · refine ⟨?_, by simp; omega, by simp, fun x hx => ?_⟩
    · simp [valP, pw_zero C, B.1.at_]
    · simp at hx; omega
  · have hn : n ≤ d := by rcases hc with z | z | z | z <;> first | (rw [a] at z; cases z.1; done) | exact z.2.1
    have h0 := h.h0
    have h1 := h.h1
    have h2 := h.h2
    refine ⟨?_, by simp; omega, by simp, fun x hx => ?_⟩
    · simp only [valP, List.foldl_cons, List.foldl_nil, pw_zero C, h.at_, Nat.zero_xor]
      rw [show (1 ^^^ pw w W o ^^^ (pw w W o ^^^ 1)) = (1 ^^^ 1) ^^^ (pw w W o ^^^ pw w W o) by ac_rfl, Nat.xor_self, Nat.xor_self]
      rfl
    · simp at hx; omega
  · have hn : n ≤ d := by rcases hc with z | z | z | z <;> first | (rw [a] at z; cases z.1; done) | exact z.2.1
    have h0 := h.h0
    have h1 := h.h1
    have h2 := h.h2
    have h3 := h.h3
    refine ⟨?_, by simp; omega, by simp, fun x hx => ?_⟩
    · simp only [valP, List.foldl_cons, List.foldl_nil, pw_zero C, h.at_, Nat.zero_xor]
      rw [show (1 ^^^ pw w W o ^^^ pw w W q ^^^ (pw w W o ^^^ pw w W q ^^^ 1)) = (1 ^^^ 1) ^^^ (pw w W o ^^^ pw w W o) ^^^ (pw w W q ^^^ pw w W q) by ac_rfl]
      simp only [Nat.xor_self]
    · simp at hx; omega
end
end My

namespace My
open PySem PySem.Spec PyProof.Rows L2 Pre
def optV : Option Nat → V
  | some k => .int k
  | none => .non
theorem spot_cond {wd W d n j x q : Nat} (C : Ck wd W) (O : IsOrder wd W d) (hn : n ≤ d) (hj : (j < d ∧ pw wd W j = x) ∨ (j = 0 ∧ ∀ i, i < d → pw wd W i ≠ x)) : (q < j ∧ j < n) ↔ ∃ l, q < l ∧ l < n ∧ pw wd W l = x := by
  constructor
  · rintro ⟨h1, h2⟩
    rcases hj with ⟨h3, h4⟩ | ⟨h3, _⟩
    · exact ⟨j, h1, h2, h4⟩
    · omega
  · rintro ⟨l, h1, h2, h3⟩
    rcases hj with ⟨h4, h5⟩ | ⟨_, h5⟩
    · have := pw_inj C O (a := l) (b := j) (by omega) h4 (by rw [h3, h5])
      omega
    · exact absurd h3 (h5 l (by omega))
def onesN (n k : Nat) : List Nat := (List.range k).filter fun i => n.testBit i
theorem ones_sel (n k : Nat) : ((List.range k).map fun i => if n.testBit i = true then some (V.int (i : Int)) else none).filterMap id = (natI (onesN n k)).map V.int := by
  unfold onesN natI
  induction List.range k with
  | nil => rfl
  | cons i l ih =>
    by_cases c : n.testBit i = true
    · rw [List.map_cons, if_pos c, List.filter_cons_of_pos c, List.map_cons, List.map_cons, ← ih]
      rfl
    · rw [List.map_cons, if_neg c, List.filter_cons_of_neg c, ← ih]
      rfl
theorem bit_int (n i : Nat) : Builtin.bitAnd ((n : Int) / 2 ^ ((i : Int)).toNat) 1 = (((n.testBit i).toNat : Nat) : Int) := by
  rw [shrI, and1, Nat.toNat_testBit, Nat.shiftRight_eq_div_pow]
theorem bit_mod (n i : Nat) : (n : Int) / 2 ^ ((i : Int)).toNat % 2 = (((n.testBit i).toNat : Nat) : Int) := by
  rw [shrI, Nat.toNat_testBit, Nat.shiftRight_eq_div_pow]
  omega
def No4 (wd W n : Nat) : Prop := ∀ o q, 0 < o → o < q → ¬ ∃ l, q < l ∧ l < n ∧ pw wd W l = pw wd W o ^^^ pw wd W q ^^^ 1
local macro_rules | `(tactic| walk_at "go") => `(tactic| repeat (first | (with_reducible first | refine iteT ?_ | refine iteF ?_ | refine iteNtt ?_ | refine iteNff ?_ | refine iteET (by omega) ?_ | refine iteEF (by omega) ?_ | refine iteENT (by omega) ?_ | refine iteENF (by omega) ?_ | refine iteDT (by omega) ?_ | refine iteDF (by omega) ?_ | refine iteNT (by omega) ?_ | refine iteNF (by omega) ?_) | refine ⟨_, rfl, ?_⟩ | refine ⟨_, _, rfl, rfl, ?_⟩ | refine ⟨_, _, rfl, ?_⟩ | refine ⟨rfl, ?_⟩ | refine .inl ⟨_, rfl, ?_⟩ | refine .inr ⟨_, rfl, ?_⟩))
local macro_rules | `(tactic| walk_at "b") => `(tactic| try dsimp (config := { proj := false, iota := false, eta := false, zeta := false }) only)
section
variable {P : Program} {w : World} {K : PySem.W.Frag} {mg : Str → Option Value} {base : Heap}
def sp_unseen (C : Addr) (K : PySem.W.Frag) : Sp := fun vs H Q _ => ∃ (a b : Addr) (wd W : Nat) (ts : List Nat), vs = [.ref a, .ref b] ∧ CheckAt C H a wd W ∧ H b = some (.lst ((natI ts).map V.int)) ∧ Rising ts ∧ ∀ H', Same H H' → Q (.bl (decide (valP wd W ts = 0))) H'
def sp_order (C : Addr) : Sp := fun vs H Q _ => ∃ (a : Addr) (wd W : Nat), vs = [.ref a] ∧ CheckAt C H a wd W ∧ ∀ (d : Nat) H', Same H H' → IsOrder wd W d → Q (.int d) H'
theorem G_order (T : Top K mg) : FnOk P w K mg base CX0 4 T.f_order T.fd_order ["check"] (sp_order T.C_Check) := by
  refine T.F_order.ok sc_order (fun vs H Q E h => by obtain ⟨a, wd, W, rfl, _⟩ := h; rfl) (fun cdv A outer s H vs Q E hr h => ?_)
  obtain ⟨a, wd, W, rfl, hC, q⟩ := h
  refine ⟨_, PSs.nox (pss_cons (ps_expr (pe_call (G_check_check T) (hr.mono (by decide)) (by rfl) T.g_check_check T.F_check_check.kp T.b_check_check .nil pass0 (pa_cons (pv 0) pa_nil)))
  (pss_one (ps_ret (pe_callB (k_len K rfl) (by rfl) T.n_len (by decide +kernel) (pa_cons (pe_call (G_powers_of T) (hr.mono (by decide)) (by rfl) T.g_powers_of T.F_powers_of.kp T.b_powers_of .nil pass0 (pa_cons (pv 0) pa_nil)) pa_nil))))), ?_⟩
  refine ⟨_, rfl, a, wd, W, rfl, hC, ?_⟩
  refine ⟨_, rfl, a, wd, W, rfl, hC, fun d H1 p hO hd s1 np h1 => ?_⟩
  refine ⟨p, _, rfl, .inl (.inl (.inl h1)), ?_⟩
  rw [List.length_map, powsL_len]
  exact q d _ s1 hO
def sp_distance (C : Addr) (K : PySem.W.Frag) : Sp := fun vs H Q _ => ∃ (a : Addr) (wd W n d t f : Nat), vs = [.ref a, .int n] ∧ CheckAt C H a wd W ∧ Bounds wd W d t f ∧ d ≤ 2048 ∧ n ≤ 10 ^ 18 ∧ ∀ H', Same H H' → Q (optV (distF d t f n)) H'
def sp_first_four (K : PySem.W.Frag) : Sp := fun vs H Q _ => ∃ (a b : Addr) (wd W d n : Nat) (kvs : List (Key × V)), vs = [.ref a, .ref b, .int n] ∧ SqL K H a ((powsL wd W d).map V.int) ∧ H b = some (.dK kvs) ∧ SpotsD wd W d kvs ∧ Ck wd W ∧ IsOrder wd W d ∧ n ≤ d ∧ d ≤ 2048 ∧
  (∀ H' p o q l, Same H H' → H p = none → First4 wd W n o q l → H' p = some (.lst ((natI [0, o, q, l]).map V.int)) → Q (.ref p) H') ∧ (∀ H', Same H H' → No4 wd W n → Q .non H')
def sp_ones_in : Sp := fun vs H Q _ => ∃ n : Nat, vs = [.int n] ∧ n < 2 ^ 1000 ∧ ∀ H' p, Same H H' → H p = none → H' p = some (.lst ((natI (onesN n (Builtin.Int.intBits (n : Int)))).map V.int)) → Q (.ref p) H'
theorem G_ones_in (T : Top K mg) : FnOk P w K mg base CX0 1 T.f_ones_in T.fd_ones_in ["number"] sp_ones_in := by
  refine T.F_ones_in.ok sc_ones_in (fun vs H Q E h => by obtain ⟨n, rfl, _⟩ := h; rfl) (fun cdv A outer s H vs Q E hr h => ?_)
  obtain ⟨n, rfl, hn, q⟩ := h
  refine ⟨_, PSs.nox (pss_one (ps_ret (pe_lc (own := [("place", 1)]) (g := gName 1) (by rfl) sc_ones_in.nd (pi_range1 (by rfl) T.n_range (pa_cons (pe_bits (pv 0)) pa_nil)) (blkOk_by (own := [("place", 1)]) (N := N_ones_in) (sc := defScope s_ones_in) (by decide +kernel)) (fun _ _ _ _ _ => (pg_name (i := 1) sc_ones_in.nd rfl (by first | exact Or.inl rfl | exact Or.inr rfl))) (fun _ _ _ _ _ => (pts_one (pt_cmpR op_eq (pe_op op_and (pe_op op_shr (pv 0) (pv 1)) pe_int) pe_int (nomark _)))) (fun _ _ _ _ _ => (pv 1))))), ?_⟩
  have hb : Builtin.Int.intBits (n : Int) ≤ 1000 := bl_iff.mpr hn
  obtain ⟨k, ek⟩ : ∃ k, Builtin.Int.intBits (n : Int) = k := ⟨_, rfl⟩
  rw [ek] at hb q
  refine ⟨_, rfl, _, rfl, _, rfl, by rw [ek]; omega, by rw [ek]; omega, fun D nD => ?_⟩
  rw [ek]
  refine lc_selR (lo := 0) (n := ((k : Int)).toNat) ((List.range k).map fun i => if n.testBit i = true then some (V.int (i : Int)) else none) nD (by rw [List.length_map, List.length_range]; rfl) (small1000' (by omega)) (fun x => rfl) ?_ ?_
  · intro i o H' hi ho s Qt qt
    rw [Int.toNat_natCast] at hi
    rw [List.getElem?_map, List.getElem?_range hi] at ho
    cases ho
    rw [show (0 + (i : Int)) = (i : Int) by omega]
    have eb := bit_int n i
    refine ⟨_, rfl, _, rfl, _, _, rfl, rfl, by omega, _, _, rfl, rfl, rfl, _, rfl, ?_⟩
    by_cases c : n.testBit i = true
    · refine iteET (eb.trans (by rw [c]; rfl)) ?_
      have z := qt H' (Same.refl _)
      dsimp only at z
      rw [if_pos c] at z
      exact ⟨_, rfl, z⟩
    · refine iteEF (fun z => c (by have z2 := eb.symm.trans z; cases h : n.testBit i <;> first | rfl | (rw [h] at z2; simp at z2))) ?_
      have z := qt H' (Same.refl _)
      dsimp only at z
      rw [if_neg c] at z
      exact z
  · intro H' s hD
    rw [ones_sel] at hD
    exact q _ D s nD hD
def sp_all_odd (C : Addr) : Sp := fun vs H Q _ => ∃ (a : Addr) (wd W : Nat), vs = [.ref a] ∧ CheckAt C H a wd W ∧ ∀ H', Same H H' → Q (.bl (decide ((onesN W (wd + 1)).length % 2 = 0))) H'
theorem G_all_odd (T : Top K mg) : FnOk P w K mg base CX0 2 T.f_all_odd T.fd_all_odd ["check"] (sp_all_odd T.C_Check) := by
  refine T.F_all_odd.ok sc_all_odd (fun vs H Q E h => by obtain ⟨a, wd, W, rfl, _⟩ := h; rfl) (fun cdv A outer s H vs Q E hr h => ?_)
  obtain ⟨a, wd, W, rfl, hC, q⟩ := h
  refine ⟨_, PSs.nox (pss_cons (ps_expr (pe_call (G_check_check T) (hr.mono (by decide)) (by rfl) T.g_check_check T.F_check_check.kp T.b_check_check .nil pass0 (pa_cons (pv 0) pa_nil)))
  (pss_one (ps_ret (pe_cmpR op_eq (pe_op op_mod (pe_callB (k_len K rfl) (by rfl) T.n_len (by decide +kernel) (pa_cons (pe_call (G_ones_in T) (hr.mono (by decide)) (by rfl) T.g_ones_in T.F_ones_in.kp T.b_ones_in .nil pass0 (pa_cons (pe_call (G_sum_of T) (hr.mono (by decide)) (by rfl) T.g_sum_of T.F_sum_of.kp T.b_sum_of .nil pass0 (pa_cons (pv 0) pa_nil)) pa_nil)) pa_nil)) pe_int) pe_int (nomark _))))), ?_⟩
  have hb := bl_W hC.1
  have hlt : W < 2 ^ 1000 := Nat.lt_of_lt_of_le hC.1.hi (Nat.pow_le_pow_right (by decide) (by have := hC.2.1; omega))
  refine ⟨_, rfl, a, wd, W, rfl, hC, ?_⟩
  refine ⟨_, rfl, a, wd, W, rfl, hC, W, rfl, hlt, fun H1 p s1 np h1 => ?_⟩
  rw [hb] at h1
  refine ⟨p, _, rfl, .inl (.inl (.inl h1)), _, _, rfl, rfl, (by show (0 : Int) < 2; decide), rfl, ?_⟩
  rw [nat_len]
  have e : decide (V.int (((onesN W (wd + 1)).length : Int) % 2) = V.int 0) = decide ((onesN W (wd + 1)).length % 2 = 0) := by
    have := dec_nat ((onesN W (wd + 1)).length % 2) 0
    rw [← this]
    congr 1
  have z := q _ s1
  rw [← e] at z
  exact z
end
end My

namespace My
section
variable {w W : Nat}
def mends0 (r : Nat) : List (List Nat) := if r = 0 then [[]] else []
def mends1 (w W r N : Nat) : List (List Nat) := ((List.range N).filter fun a => decide (pw w W a = r)).map fun a => [a]
def mends2 (w W r N : Nat) : List (List Nat) := (List.range N).flatMap fun a => ((List.range N).filter fun b => decide (pw w W b = r ^^^ pw w W a) && decide (a < b)).map fun b => [a, b]
def mendsL (w W r N most : Nat) : List (List Nat) := mends0 r ++ (if 0 < most then mends1 w W r N else []) ++ (if 1 < most then mends2 w W r N else [])
theorem mends0_mem {r : Nat} {xs : List Nat} : xs ∈ mends0 r ↔ xs = [] ∧ valP w W xs = r := by
  unfold mends0
  by_cases h : r = 0
  · subst h
    rw [if_pos rfl, List.mem_singleton]
    exact ⟨fun e => ⟨e, by rw [e]; rfl⟩, fun e => e.1⟩
  · rw [if_neg h]
    refine ⟨fun e => by simp at e, fun ⟨e, f⟩ => ?_⟩
    subst e
    exact absurd f.symm h
theorem mends1_mem {r N : Nat} {xs : List Nat} : xs ∈ mends1 w W r N ↔ ∃ a, a < N ∧ xs = [a] ∧ valP w W xs = r := by
  unfold mends1
  rw [List.mem_map]
  constructor
  · rintro ⟨a, ha, rfl⟩
    rw [List.mem_filter, List.mem_range, decide_eq_true_iff] at ha
    exact ⟨a, ha.1, rfl, by simpa [valP] using ha.2⟩
  · rintro ⟨a, ha, rfl, e⟩
    exact ⟨a, List.mem_filter.mpr ⟨List.mem_range.mpr ha, decide_eq_true (by simpa [valP] using e)⟩, rfl⟩
theorem xor_move {a b r : Nat} : b = r ^^^ a ↔ a ^^^ b = r := by
  constructor
  · rintro rfl
    rw [Nat.xor_comm r a, ← Nat.xor_assoc, Nat.xor_self, Nat.zero_xor]
  · rintro rfl
    rw [Nat.xor_comm a b, Nat.xor_assoc, Nat.xor_self, Nat.xor_zero]
theorem mends2_mem {r N : Nat} {xs : List Nat} : xs ∈ mends2 w W r N ↔ ∃ a b, a < b ∧ b < N ∧ xs = [a, b] ∧ valP w W xs = r := by
  unfold mends2
  rw [List.mem_flatMap]
  constructor
  · rintro ⟨a, ha, hx⟩
    obtain ⟨b, hb, rfl⟩ := List.mem_map.mp hx
    rw [List.mem_filter, List.mem_range, Bool.and_eq_true, decide_eq_true_iff, decide_eq_true_iff] at hb
    exact ⟨a, b, hb.2.2, hb.1, rfl, by simpa [valP] using xor_move.mp hb.2.1⟩
  · rintro ⟨a, b, hab, hb, rfl, e⟩
    refine ⟨a, List.mem_range.mpr (by omega), List.mem_map.mpr ⟨b, List.mem_filter.mpr ⟨List.mem_range.mpr hb, ?_⟩, rfl⟩⟩
    rw [Bool.and_eq_true, decide_eq_true_iff, decide_eq_true_iff]
    exact ⟨xor_move.mpr (by simpa [valP] using e), hab⟩
theorem mends_mem {r N most : Nat} {xs : List Nat} : xs ∈ mendsL w W r N most ↔ valP w W xs = r ∧ (xs = [] ∨ (0 < most ∧ ∃ a, a < N ∧ xs = [a]) ∨ (1 < most ∧ ∃ a b, a < b ∧ b < N ∧ xs = [a, b])) := by
  unfold mendsL
  rw [List.mem_append, List.mem_append, mends0_mem (w := w) (W := W)]
  have h1 : xs ∈ (if 0 < most then mends1 w W r N else []) ↔ 0 < most ∧ ∃ a, a < N ∧ xs = [a] ∧ valP w W xs = r := by
    by_cases h : 0 < most
    · rw [if_pos h, mends1_mem]; simp [h]
    · rw [if_neg h]; simp [h]
  have h2 : xs ∈ (if 1 < most then mends2 w W r N else []) ↔ 1 < most ∧ ∃ a b, a < b ∧ b < N ∧ xs = [a, b] ∧ valP w W xs = r := by
    by_cases h : 1 < most
    · rw [if_pos h, mends2_mem]; simp [h]
    · rw [if_neg h]; simp [h]
  rw [h1, h2]
  constructor
  · rintro ((⟨a, b⟩ | ⟨a, b, c, d, e⟩) | ⟨a, b, c, d, e, f, g⟩)
    · exact ⟨b, .inl a⟩
    · exact ⟨e, .inr (.inl ⟨a, b, c, d⟩)⟩
    · exact ⟨g, .inr (.inr ⟨a, b, c, d, e, f⟩)⟩
  · rintro ⟨v, a | ⟨a, b, c, d⟩ | ⟨a, b, c, d, e, f⟩⟩
    · exact .inl (.inl ⟨a, v⟩)
    · exact .inl (.inr ⟨a, b, c, d, v⟩)
    · exact .inr ⟨a, b, c, d, e, f, v⟩
theorem mends_nodup (r N most : Nat) : (mendsL w W r N most).Nodup := by
  have n0 : (mends0 r).Nodup := by
    unfold mends0
    split <;> simp
  have n1 : (mends1 w W r N).Nodup := by
    unfold mends1
    refine List.pairwise_map.mpr ((List.nodup_range.filter _).imp fun {a b} h e => h ?_)
    cases e
    rfl
  have n2 : (mends2 w W r N).Nodup := by
    unfold mends2
    refine List.pairwise_flatMap.mpr ⟨fun a _ => List.pairwise_map.mpr ((List.nodup_range.filter _).imp fun {b c} h e => h (by cases e; rfl)), List.nodup_range.imp fun {a b} h x hx y hy e => ?_⟩
    obtain ⟨c, _, rfl⟩ := List.mem_map.mp hx
    obtain ⟨d, _, rfl⟩ := List.mem_map.mp hy
    cases e
    exact h rfl
  unfold mendsL
  have m1 : (if 0 < most then mends1 w W r N else []).Nodup := by
    by_cases h : 0 < most
    · rw [if_pos h]; exact n1
    · rw [if_neg h]; simp
  have m2 : (if 1 < most then mends2 w W r N else []).Nodup := by
    by_cases h : 1 < most
    · rw [if_pos h]; exact n2
    · rw [if_neg h]; simp
  refine List.nodup_append.mpr ⟨List.nodup_append.mpr ⟨n0, m1, fun x hx y hy e => ?_⟩, m2, fun x hx y hy e => ?_⟩
  · subst e
    have a := (mends0_mem (w := w) (W := W)).mp hx
    split at hy
    · obtain ⟨b, _, e, _⟩ := mends1_mem.mp hy
      rw [a.1] at e
      simp at e
    · simp at hy
  · subst e
    split at hy
    · obtain ⟨b, c, _, _, e, _⟩ := mends2_mem.mp hy
      rw [e] at hx
      rcases List.mem_append.mp hx with z | z
      · have a := (mends0_mem (w := w) (W := W)).mp z
        simp at a
      · split at z
        · obtain ⟨b, _, e, _⟩ := mends1_mem.mp z
          simp at e
        · simp at z
    · simp at hy
theorem nodup_one {α : Type} {l : List α} (h : l.Nodup) (u : ∀ x ∈ l, ∀ y ∈ l, x = y) : l.length ≤ 1 := by
  match l, h, u with
  | [], _, _ => simp
  | [_], _, _ => simp
  | a :: b :: r, h, u =>
    have := u a (by simp) b (by simp)
    simp [this] at h
theorem mends_few (C : Ck w W) {r N most L : Nat} (h0 : 0 < most) (h2 : most < 3) (hL : IsLongest w W (2 * most + 1) L) (hN : N ≤ L) : (mendsL w W r N most).length ≤ 1 := by
  refine nodup_one (mends_nodup ..) fun x hx y hy => ?_
  have a := mends_mem.mp hx
  have b := mends_mem.mp hy
  have c : most = 1 ∨ most = 2 := by omega
  rcases c with rfl | rfl
  · refine one_uniq C hL hN ?_ ?_ (by rw [a.1, b.1])
    · rcases a.2 with h | h | h
      · exact .inl h
      · exact .inr h.2
      · omega
    · rcases b.2 with h | h | h
      · exact .inl h
      · exact .inr h.2
      · omega
  · refine two_uniq C hL hN ?_ ?_ (by rw [a.1, b.1])
    · rcases a.2 with h | h | h
      · exact .inl h
      · exact .inr (.inl h.2)
      · exact .inr (.inr h.2)
    · rcases b.2 with h | h | h
      · exact .inl h
      · exact .inr (.inl h.2)
      · exact .inr (.inr h.2)
theorem mends_only (C : Ck w W) {r N most L : Nat} (h0 : 0 < most) (h2 : most < 3) (hL : IsLongest w W (2 * most + 1) L) (hN : N ≤ L) {xs : List Nat} (hx : xs ∈ mendsL w W r N most) : mendsL w W r N most = [xs] := by
  have h := mends_few C (r := r) h0 h2 hL hN
  generalize mendsL w W r N most = l at h hx
  match l, h, hx with
  | [a], _, hx => rw [List.mem_singleton.mp hx]
/-- the law's third loop goes from the place behind on -/
theorem behind_filter (P : Nat → Bool) (a N : Nat) : ((List.range N).filter fun b => P b && decide (a < b)) = ((List.range (N - (a + 1))).map fun k => a + 1 + k).filter P := by
  have e : List.range N = (List.range (min N (a + 1))) ++ (List.range (N - (a + 1))).map fun k => a + 1 + k := by
    rcases Nat.lt_or_ge N (a + 1) with h | h
    · rw [Nat.min_eq_left (by omega), show N - (a + 1) = 0 by omega]
      simp
    · rw [Nat.min_eq_right h]
      have := List.range_add (n := a + 1) (m := N - (a + 1))
      rw [show a + 1 + (N - (a + 1)) = N by omega] at this
      exact this
  rw [e, List.filter_append]
  have z : (List.range (min N (a + 1))).filter (fun b => P b && decide (a < b)) = [] := by
    rw [List.filter_eq_nil_iff]
    intro b hb
    rw [List.mem_range] at hb
    simp
    intro _
    omega
  rw [z, List.nil_append]
  refine List.filter_congr fun b hb => ?_
  obtain ⟨k, _, rfl⟩ := List.mem_map.mp hb
  simp
  intro _
  omega
end
end My

namespace My
section
variable {w W : Nat} (C : Ck w W)
/-! ### sets of places as numbers -/
theorem ones_succ (n k : Nat) : onesN n (k + 1) = onesN n k ++ (if n.testBit k = true then [k] else []) := by
  unfold onesN
  rw [List.range_succ, List.filter_append]
  congr 1
  by_cases c : n.testBit k = true
  · rw [if_pos c, List.filter_cons_of_pos c, List.filter_nil]
  · rw [if_neg c, List.filter_cons_of_neg c, List.filter_nil]
theorem ones_mem {n k i : Nat} : i ∈ onesN n k ↔ i < k ∧ n.testBit i = true := by
  unfold onesN
  rw [List.mem_filter, List.mem_range]
theorem ones_more {n k : Nat} (h : n < 2 ^ k) : ∀ {j : Nat}, k ≤ j → onesN n j = onesN n k := by
  intro j
  induction j with
  | zero => intro l; rw [show k = 0 by omega]
  | succ j ih =>
    intro l
    by_cases e : k = j + 1
    · rw [e]
    · rw [ones_succ, ih (by omega), if_neg (by rw [Nat.testBit_lt_two_pow (Nat.lt_of_lt_of_le h (Nat.pow_le_pow_right (by decide) (by omega)))]; decide), List.append_nil]
theorem ones_rise (n k : Nat) : (onesN n k).Pairwise (· < ·) := List.Pairwise.filter _ List.pairwise_lt_range
theorem rising_eq : ∀ {xs ys : List Nat}, xs.Pairwise (· < ·) → ys.Pairwise (· < ·) → (∀ i, i ∈ xs ↔ i ∈ ys) → xs = ys
  | [], [], _, _, _ => rfl
  | [], y :: ys, _, _, h => absurd ((h y).mpr List.mem_cons_self) (by simp)
  | x :: xs, [], _, _, h => absurd ((h x).mp List.mem_cons_self) (by simp)
  | x :: xs, y :: ys, hx, hy, h => by
    rw [List.pairwise_cons] at hx hy
    have e : x = y := by
      rcases List.mem_cons.mp ((h x).mp List.mem_cons_self) with a | a
      · exact a
      · rcases List.mem_cons.mp ((h y).mpr List.mem_cons_self) with b | b
        · exact b.symm
        · have := hy.1 x a
          have := hx.1 y b
          omega
    subst e
    rw [rising_eq hx.2 hy.2 fun i => ⟨fun z => by
      rcases List.mem_cons.mp ((h i).mp (List.mem_cons_of_mem _ z)) with a | a
      · have := hx.1 i z; omega
      · exact a, fun z => by
      rcases List.mem_cons.mp ((h i).mpr (List.mem_cons_of_mem _ z)) with a | a
      · have := hy.1 i z; omega
      · exact a⟩]
def numS (ts : List Nat) : Nat := ts.foldr (fun t n => 2 ^ t ||| n) 0
theorem numS_bit (i : Nat) : ∀ ts : List Nat, (numS ts).testBit i = true ↔ i ∈ ts
  | [] => by simp [numS]
  | t :: ts => by
    show (2 ^ t ||| numS ts).testBit i = true ↔ _
    rw [Nat.testBit_or, Bool.or_eq_true, numS_bit i ts, Nat.testBit_two_pow, decide_eq_true_eq, List.mem_cons]
    constructor
    · rintro (h | h)
      · exact .inl h.symm
      · exact .inr h
    · rintro (h | h)
      · exact .inl h.symm
      · exact .inr h
theorem numS_lt {m : Nat} : ∀ {ts : List Nat}, (∀ t ∈ ts, t < m) → numS ts < 2 ^ m
  | [], _ => Nat.two_pow_pos m
  | t :: ts, h => Nat.or_lt_two_pow (Nat.pow_lt_pow_right (by decide) (h t List.mem_cons_self)) (numS_lt fun x hx => h x (List.mem_cons_of_mem _ hx))
theorem ones_num {ts : List Nat} {m : Nat} (h : ts.Pairwise (· < ·)) (b : ∀ t ∈ ts, t < m) : onesN (numS ts) m = ts :=
  rising_eq (ones_rise _ _) h fun i => by
    rw [ones_mem, numS_bit]
    exact ⟨fun z => z.2, fun z => ⟨b i z, z⟩⟩
theorem ones_ne {n m : Nat} (h0 : 0 < n) (h : n < 2 ^ m) : onesN n m ≠ [] := fun e => by
  have : n = 0 := Nat.eq_of_testBit_eq fun i => by
    rw [Nat.zero_testBit]
    by_cases l : i < m
    · cases c : n.testBit i with
      | false => rfl
      | true =>
        have := ones_mem.mpr ⟨l, c⟩
        rw [e] at this
        simp at this
    · exact Nat.testBit_lt_two_pow (Nat.lt_of_lt_of_le h (Nat.pow_le_pow_right (by decide) (by omega)))
  omega
theorem mod_succ (n k : Nat) : n % 2 ^ (k + 1) = (n % 2 ^ k) ^^^ (if n.testBit k = true then 2 ^ k else 0) := by
  apply Nat.eq_of_testBit_eq
  intro i
  rw [Nat.testBit_xor, Nat.testBit_mod_two_pow, Nat.testBit_mod_two_pow]
  by_cases c : n.testBit k = true
  · rw [if_pos c, Nat.testBit_two_pow]
    rcases Nat.lt_trichotomy i k with h | h | h
    · simp [h, show i < k + 1 by omega, show ¬ k = i by omega]
    · subst h; simp [c]
    · simp [show ¬ i < k by omega, show ¬ i < k + 1 by omega, show ¬ k = i by omega]
  · rw [if_neg c, Nat.zero_testBit]
    rcases Nat.lt_trichotomy i k with h | h | h
    · simp [h, show i < k + 1 by omega]
    · subst h; simp at c; simp [c]
    · simp [show ¬ i < k by omega, show ¬ i < k + 1 by omega]
theorem valP_snoc (xs : List Nat) (k : Nat) : valP w W (xs ++ [k]) = valP w W xs ^^^ pw w W k := by
  unfold valP
  rw [List.foldl_append]
  rfl
include C
theorem valP_moved (n s : Nat) : ∀ k, valP w W ((onesN n k).map (· + s)) = rem w W ((n % 2 ^ k) * 2 ^ s)
  | 0 => by
    rw [Nat.pow_zero, Nat.mod_one, Nat.zero_mul, rem_zero]
    rfl
  | k + 1 => by
    rw [ones_succ, mod_succ]
    by_cases c : n.testBit k = true
    · rw [if_pos c, if_pos c, List.map_append, List.map_cons, List.map_nil, valP_snoc, valP_moved n s k, ← Nat.shiftLeft_eq (_ ^^^ _), Nat.shiftLeft_xor_distrib, Nat.shiftLeft_eq, Nat.shiftLeft_eq, rem_xor C, ← Nat.pow_add]
      rfl
    · rw [if_neg c, if_neg c, List.append_nil, Nat.xor_zero, valP_moved n s k]
theorem valP_ones {n k : Nat} (h : n < 2 ^ k) : valP w W (onesN n k) = rem w W n := by
  have e := valP_moved C n 0 k
  rw [Nat.pow_zero, Nat.mul_one, Nat.mod_eq_of_lt h] at e
  rw [← e]
  congr 1
  exact (List.map_id' _).symm
theorem valP_far {n k : Nat} (s : Nat) (h : n < 2 ^ k) (z : rem w W n = 0) : valP w W ((onesN n k).map (· + s)) = 0 := by
  rw [valP_moved C, Nat.mod_eq_of_lt h, ← Nat.shiftLeft_eq]
  exact rem_shl C n s z
/-! ### the least unseen ones -/
theorem un_len {d t f m : Nat} (B : Bounds w W d t f) : ∀ {xs : List Nat}, xs.Pairwise (· < ·) → (∀ x ∈ xs, x < m) → valP w W xs = 0 → xs ≠ [] →
    2 ≤ xs.length ∧ (m ≤ d → 3 ≤ xs.length) ∧ (m ≤ d → m ≤ t → 4 ≤ xs.length) ∧ (m ≤ d → m ≤ t → m ≤ f → 5 ≤ xs.length)
  | [], _, _, _, h => absurd rfl h
  | [a], _, _, h, _ => absurd (by rw [← h]; show _ = 0 ^^^ pw w W a; rw [Nat.zero_xor]) (pw_ne C a)
  | [a, b], hp, hm, h, _ => by
    have hb := hm b (by simp)
    have hab : a < b := by simp at hp; exact hp
    have e : pw w W a = pw w W b := by
      have : 0 ^^^ pw w W a ^^^ pw w W b = 0 := h
      rw [Nat.zero_xor] at this
      exact xor_eq0.mp this
    have no : ¬ m ≤ d := fun l => no2 C B.1 hab (by omega) e
    exact ⟨Nat.le_refl _, fun z => absurd z no, fun z => absurd z no, fun z => absurd z no⟩
  | [a, b, c], hp, hm, h, _ => by
    have hc := hm c (by simp)
    have hab : a < b ∧ b < c := by simp at hp; omega
    have e : pw w W a ^^^ pw w W b ^^^ pw w W c = 0 := by
      have : 0 ^^^ pw w W a ^^^ pw w W b ^^^ pw w W c = 0 := h
      rw [Nat.zero_xor] at this
      exact this
    have no : ¬ m ≤ t := fun l => no3 C B.2.1.ne hab.1 hab.2 (by omega) e
    exact ⟨by simp, fun _ => Nat.le_refl _, fun _ z => absurd z no, fun _ z => absurd z no⟩
  | [a, b, c, e], hp, hm, h, _ => by
    have he := hm e (by simp)
    have hab : a < b ∧ b < c ∧ c < e := by simp at hp; omega
    have z : pw w W a ^^^ pw w W b ^^^ pw w W c ^^^ pw w W e = 0 := by
      have : 0 ^^^ pw w W a ^^^ pw w W b ^^^ pw w W c ^^^ pw w W e = 0 := h
      rw [Nat.zero_xor] at this
      exact this
    have no : ¬ m ≤ f := fun l => no4 C B.2.2.ne hab.1 hab.2.1 hab.2.2 (by omega) z
    exact ⟨by simp, fun _ => by simp, fun _ _ => Nat.le_refl _, fun _ _ y => absurd y no⟩
  | a :: b :: c :: e :: g :: r, _, _, _, _ => by simp only [List.length_cons]; omega
theorem least_len {d t f m n : Nat} (B : Bounds w W d t f) (n0 : 0 < n) (nm : n < 2 ^ m) (z : rem w W n = 0) :
    (distF d t f m = none → 5 ≤ (onesN n m).length) ∧ ∀ k, distF d t f m = some k → k ≤ (onesN n m).length := by
  have h := un_len C B (ones_rise n m) (fun x hx => (ones_mem.mp hx).1) (by rw [valP_ones C nm, z]) (ones_ne n0 nm)
  refine ⟨fun e => ?_, fun k e => ?_⟩ <;> rcases dist_cases (d := d) (t := t) (f := f) (n := m) with y | y | y | y <;> rw [e] at y
  · cases y.1
  · cases y.1
  · cases y.1
  · exact h.2.2.2 y.2.1 y.2.2.1 y.2.2.2
  · cases y.1; exact h.1
  · cases y.1; exact h.2.1 y.2.1
  · cases y.1; exact h.2.2.1 y.2.1 y.2.2.1
  · cases y.1
omit C in
theorem least_lt {d t f n : Nat} (h0 : 1 ≤ d) {xs : List Nat} (h : LeastUn w W d t f n (some xs)) : ∀ x ∈ xs, x < n := by
  rcases h with ⟨a, rfl⟩ | ⟨a, o, q, h, rfl⟩ | ⟨a, o, q, l, h, rfl⟩
  · rcases dist_cases (d := d) (t := t) (f := f) (n := n) with y | y | y | y <;> first | (rw [a] at y; cases y.1; done) | skip
    intro x hx
    simp at hx
    omega
  · have := h.h1
    have := h.h2
    intro x hx
    simp at hx
    omega
  · have := h.h1
    have := h.h2
    have := h.h3
    intro x hx
    simp at hx
    omega
omit C in
theorem least_size {d t f n : Nat} {xs : List Nat} (h : LeastUn w W d t f n (some xs)) : distF d t f n = some xs.length := by
  rcases h with ⟨a, rfl⟩ | ⟨a, o, q, h, rfl⟩ | ⟨a, o, q, l, h, rfl⟩ <;> exact a
omit C in
theorem least_ex {d t f n : Nat} (B : Bounds w W d t f) : ∃ r, LeastUn w W d t f n r := by
  rcases dist_cases (d := d) (t := t) (f := f) (n := n) with y | y | y | y
  · exact ⟨some [0, d], .inl ⟨y.1, rfl⟩⟩
  · obtain ⟨o, q, h1, h2, h3, h4⟩ := three_some B y.2.2 y.2.1
    obtain ⟨x, hx⟩ := first_ex (fun o => 0 < o ∧ ∃ q, o < q ∧ q < n ∧ pw w W q = pw w W o ^^^ 1) n
    have hxn : x < n := by
      by_cases c : x < n
      · exact c
      · exact absurd ⟨h1, q, h2, h3, h4⟩ (hx.ne o (by omega))
    obtain ⟨k0, q', k1, k2, k3⟩ := hx.at_ hxn
    exact ⟨some [0, x, q'], .inr (.inl ⟨y.1, x, q', ⟨k0, k1, k2, k3, fun o' p0 p1 z => hx.ne o' p1 ⟨p0, z⟩⟩, rfl⟩)⟩
  · obtain ⟨o, q, l, h1, h2, h3, h4, h5⟩ := four_some B y.2.2.2 y.2.2.1
    obtain ⟨x, hx⟩ := first_ex (fun o => 0 < o ∧ ∃ q, o < q ∧ ∃ l, q < l ∧ l < n ∧ pw w W l = pw w W o ^^^ pw w W q ^^^ 1) n
    have hxn : x < n := by
      by_cases c : x < n
      · exact c
      · exact absurd ⟨h1, q, h2, l, h3, h4, h5⟩ (hx.ne o (by omega))
    obtain ⟨k0, q', k1, l', k2, k3, k4⟩ := hx.at_ hxn
    obtain ⟨u, hu⟩ := first_ex (fun q => x < q ∧ ∃ l, q < l ∧ l < n ∧ pw w W l = pw w W x ^^^ pw w W q ^^^ 1) n
    have hun : u < n := by
      by_cases c : u < n
      · exact c
      · exact absurd ⟨k1, l', k2, k3, k4⟩ (hu.ne q' (by omega))
    obtain ⟨j0, l2, j1, j2, j3⟩ := hu.at_ hun
    refine ⟨some [0, x, u, l2], .inr (.inr ⟨y.1, x, u, l2, ⟨k0, j0, j1, j2, j3, fun o' q' p0 p1 p2 z => ?_⟩, rfl⟩)⟩
    rcases p2 with p2 | ⟨rfl, p2⟩
    · exact hx.ne o' p2 ⟨p0, q', p1, z⟩
    · exact hu.ne q' p2 ⟨p1, z⟩
  · exact ⟨none, y.1⟩
/-- the least one is one of the sets -/
theorem least_num {d t f m : Nat} (B : Bounds w W d t f) {xs : List Nat} (h : LeastUn w W d t f m (some xs)) :
    0 < numS xs ∧ numS xs < 2 ^ m ∧ rem w W (numS xs) = 0 ∧ onesN (numS xs) m = xs := by
  obtain ⟨z1, z2, _, _⟩ := least_unseen_zero C B h
  have hl := least_lt B.1.pos h
  have e := ones_num z2 hl
  have lt := numS_lt hl
  refine ⟨?_, lt, ?_, e⟩
  · rcases Nat.eq_zero_or_pos (numS xs) with z | z
    · have hne : xs ≠ [] := by
        have := least_size h
        rcases h with ⟨_, rfl⟩ | ⟨_, o, q, _, rfl⟩ | ⟨_, o, q, l, _, rfl⟩ <;> simp
      rw [z] at e
      have : onesN 0 m = [] := by unfold onesN; simp
      rw [this] at e
      exact absurd e.symm hne
    · exact z
  · rw [← valP_ones C lt, e, z1]
def lexI (ts : List Nat) : List Int := ts.map fun (t : Nat) => (t : Int)
omit C in
theorem lex_cons {a b : Nat} {xs ys : List Nat} (h : a < b ∨ (a = b ∧ lexI xs ≤ lexI ys)) : lexI (a :: xs) ≤ lexI (b :: ys) := by
  show ((a : Int) :: lexI xs) ≤ ((b : Int) :: lexI ys)
  rw [List.cons_le_cons_iff]
  rcases h with h | ⟨h, k⟩
  · exact .inl (by omega)
  · exact .inr ⟨by omega, k⟩
omit C in
theorem lex_refl (xs : List Nat) : lexI xs ≤ lexI xs := List.le_refl _
theorem un_lex {d t f m : Nat} (B : Bounds w W d t f) {xs : List Nat} (h : LeastUn w W d t f m (some xs)) {ys : List Nat} (hp : ys.Pairwise (· < ·)) (hm : ∀ y ∈ ys, y < m) (hv : valP w W ys = 0) (hl : ys.length = xs.length) : lexI xs ≤ lexI ys := by
  have hc := dist_cases (d := d) (t := t) (f := f) (n := m)
  rcases h with ⟨a, rfl⟩ | ⟨a, o, q, h, rfl⟩ | ⟨a, o, q, l, h, rfl⟩
  · match ys, hl with
    | [x, y], _ =>
      have hab : x < y := by simp at hp; exact hp
      rcases Nat.eq_zero_or_pos x with e | e
      · subst e
        refine lex_cons (.inr ⟨rfl, ?_⟩)
        have z : pw w W 0 = pw w W y := by
          have : 0 ^^^ pw w W 0 ^^^ pw w W y = 0 := hv
          rw [Nat.zero_xor] at this
          exact xor_eq0.mp this
        have : ¬ y < d := fun c => no2 C B.1 hab c z
        by_cases c : d = y
        · exact lex_cons (.inr ⟨c, lex_refl _⟩)
        · exact lex_cons (.inl (by omega))
      · exact lex_cons (.inl e)
  · have hn : m ≤ d := by rcases hc with z | z | z | z <;> first | (rw [a] at z; cases z.1; done) | exact z.2.1
    match ys, hl with
    | [x, y, u], _ =>
      have hab : x < y ∧ y < u := by simp at hp; omega
      have hu := hm u (by simp)
      rcases Nat.eq_zero_or_pos x with e | e
      · subst e
        refine lex_cons (.inr ⟨rfl, ?_⟩)
        have z : pw w W u = pw w W y ^^^ 1 := by
          have : 0 ^^^ pw w W 0 ^^^ pw w W y ^^^ pw w W u = 0 := hv
          rw [Nat.zero_xor, pw_zero C] at this
          rw [← xor_eq0.mp this, Nat.xor_comm]
        rcases Nat.lt_trichotomy o y with c | c | c
        · exact lex_cons (.inl c)
        · subst c
          have : q = u := pw_inj C B.1 (by have := h.h2; omega) (by omega) (by rw [h.at_, z])
          subst this
          exact lex_refl _
        · exact absurd ⟨u, hab.2, hu, z⟩ (h.ne y hab.1 c)
      · exact lex_cons (.inl e)
  · have hn : m ≤ d := by rcases hc with z | z | z | z <;> first | (rw [a] at z; cases z.1; done) | exact z.2.1
    match ys, hl with
    | [x, y, u, v], _ =>
      have hab : x < y ∧ y < u ∧ u < v := by simp at hp; omega
      have hu := hm v (by simp)
      rcases Nat.eq_zero_or_pos x with e | e
      · subst e
        refine lex_cons (.inr ⟨rfl, ?_⟩)
        have z : pw w W v = pw w W y ^^^ pw w W u ^^^ 1 := by
          have : 0 ^^^ pw w W 0 ^^^ pw w W y ^^^ pw w W u ^^^ pw w W v = 0 := hv
          rw [Nat.zero_xor, pw_zero C] at this
          rw [← xor_eq0.mp this]
          ac_rfl
        rcases Nat.lt_trichotomy o y with c | c | c
        · exact lex_cons (.inl c)
        · subst c
          refine lex_cons (.inr ⟨rfl, ?_⟩)
          rcases Nat.lt_trichotomy q u with c | c | c
          · exact lex_cons (.inl c)
          · subst c
            have : l = v := pw_inj C B.1 (by have := h.h3; omega) (by omega) (by rw [h.at_, z])
            subst this
            exact lex_refl _
          · exact absurd ⟨v, hab.2.2, hu, z⟩ (h.ne o u hab.1 hab.2.1 (.inr ⟨rfl, c⟩))
        · exact absurd ⟨v, hab.2.2, hu, z⟩ (h.ne y u hab.1 hab.2.1 (.inl c))
      · exact lex_cons (.inl e)
/-! ### longest, by all sets -/
omit C in
def Hit (w W few c a : Nat) : Prop := pw w W a = pw w W c ∨ (3 < few ∧ ∃ b, b < a ∧ pw w W a ^^^ pw w W b = pw w W c) ∨ (4 < few ∧ ∃ b e, b < a ∧ e < b ∧ pw w W a ^^^ pw w W b ^^^ pw w W e = pw w W c)
theorem hit_no {few L c a : Nat} (hL : IsLongest w W few L) (hc : c < L) (ha : a < c) : ¬ Hit w W few c a := by
  have three : ∀ {t : Nat}, (∀ p, p < t → ¬ Three w W p) → c < t → ¬ ∃ b, b < a ∧ pw w W a ^^^ pw w W b = pw w W c := by
    rintro t T h ⟨b, hb, z⟩
    exact no3 C T hb ha h (by rw [← z, Nat.xor_comm (pw w W b), Nat.xor_self])
  rcases hL with ⟨e, h⟩ | ⟨e, d, h, h1⟩ | ⟨e, d, t, h, h1, h2⟩ <;> rintro (z | ⟨l, z⟩ | ⟨l, b, g, hb, hg, z⟩) <;> first | omega | skip
  · exact no2 C h ha hc z
  · exact no2 C h ha (by have := h1.le; omega) z
  · exact three h1.ne hc z
  · exact no2 C h ha (by have := h1.le; have := h2.le; omega) z
  · exact three h1.ne (by have := h2.le; omega) z
  · refine no4 C h2.ne hg hb ha hc ?_
    rw [← z]
    rw [show pw w W g ^^^ pw w W b ^^^ pw w W a = pw w W a ^^^ pw w W b ^^^ pw w W g by ac_rfl, Nat.xor_self]
theorem hit_at {few L : Nat} (hL : IsLongest w W few L) : 1 ≤ L ∧ ∃ a, a < L ∧ Hit w W few L a := by
  have one : ∀ {d : Nat}, IsOrder w W d → 1 ≤ d ∧ ∃ a, a < d ∧ Hit w W few d a := fun {d} h => ⟨h.pos, 0, h.pos, .inl (by rw [h.at_, pw_zero C])⟩
  have two : ∀ {d t : Nat}, 3 < few → IsOrder w W d → IsFirst (Three w W) d t → 1 ≤ t ∧ ∃ a, a < t ∧ Hit w W few t a := by
    intro d t l h h1
    by_cases c : t < d
    · obtain ⟨q, q0, q1, q2⟩ := h1.at_ c
      exact ⟨by omega, q, q1, .inr (.inl ⟨l, 0, q0, by rw [q2, pw_zero C, Nat.xor_assoc, Nat.xor_self, Nat.xor_zero]⟩)⟩
    · have : t = d := by have := h1.le; omega
      subst this
      exact one h
  rcases hL with ⟨e, h⟩ | ⟨e, d, h, h1⟩ | ⟨e, d, t, h, h1, h2⟩
  · exact one h
  · exact two (by omega) h h1
  · by_cases c : L < t
    · obtain ⟨o, q, q0, q1, q2, q3⟩ := h2.at_ c
      refine ⟨by omega, q, q2, .inr (.inr ⟨by omega, o, 0, q1, q0, ?_⟩)⟩
      rw [Nat.xor_comm (pw w W q), q3, pw_zero C, Nat.xor_assoc, Nat.xor_self, Nat.xor_zero]
    · have : L = t := by have := h2.le; omega
      subst this
      exact two (by omega) h h1
/-! ### an even check, even sets -/
omit C in
theorem par_xor (x y : Nat) : ∀ k, (onesN (x ^^^ y) k).length % 2 = ((onesN x k).length + (onesN y k).length) % 2
  | 0 => rfl
  | k + 1 => by
    have ih := par_xor x y k
    rw [ones_succ, ones_succ, ones_succ, Nat.testBit_xor]
    cases x.testBit k <;> cases y.testBit k <;> simp <;> omega
omit C in
theorem par_dbl (a b k : Nat) (hb : b < 2) : (onesN (2 * a + b) (k + 1)).length = (onesN a k).length + b := by
  induction k with
  | zero =>
    rw [ones_succ]
    have : (2 * a + b).testBit 0 = decide (b = 1) := by rw [Nat.testBit_zero]; congr 1; rw [eq_iff_iff]; omega
    rw [this]
    rcases (by omega : b = 0 ∨ b = 1) with rfl | rfl <;> rfl
  | succ k ih =>
    rw [ones_succ, ones_succ a k, List.length_append, List.length_append, ih]
    have : (2 * a + b).testBit (k + 1) = a.testBit k := by rw [Nat.testBit_succ]; congr 1; omega
    rw [this]
    cases a.testBit k <;> simp <;> omega
theorem par_rem (hW : (onesN W (w + 1)).length % 2 = 0) : ∀ k n, n < 2 ^ k → (onesN (rem w W n) w).length % 2 = (onesN n k).length % 2
  | 0, n, h => by
    have : n = 0 := by simpa using h
    subst this
    rw [rem_zero]
    have : onesN 0 w = [] := by unfold onesN; simp
    rw [this]
    rfl
  | k + 1, n, h => by
    have h2 : n / 2 < 2 ^ k := by rw [Nat.pow_succ] at h; omega
    have ih := par_rem hW k (n / 2) h2
    have e1 := par_dbl (n / 2) (n % 2) k (by omega)
    rw [show 2 * (n / 2) + n % 2 = n by omega] at e1
    have hr := rem_lt C (n / 2)
    have hx : 2 * rem w W (n / 2) + n % 2 < 2 ^ (w + 1) := by rw [Nat.pow_succ]; omega
    have e2 := par_dbl (rem w W (n / 2)) (n % 2) w (by omega)
    rw [rem_step, ← ones_more (red_lt C hx) (Nat.le_succ w)]
    have e3 : (onesN (red w W (2 * rem w W (n / 2) + n % 2)) (w + 1)).length % 2 = (onesN (2 * rem w W (n / 2) + n % 2) (w + 1)).length % 2 := by
      by_cases c : 2 ^ w ≤ 2 * rem w W (n / 2) + n % 2
      · rw [red_hi C hx c, par_xor]
        omega
      · rw [red_id C (Nat.lt_of_not_le c)]
    show (onesN (red w W (2 * rem w W (n / 2) + n % 2)) (w + 1)).length % 2 = _
    rw [e3, e2, e1]
    omega
theorem par_even (hW : (onesN W (w + 1)).length % 2 = 0) {n k : Nat} (h : n < 2 ^ k) (z : rem w W n = 0) : (onesN n k).length % 2 = 0 := by
  rw [← par_rem C hW k n h, z]
  have : onesN 0 w = [] := by unfold onesN; simp
  rw [this]
  rfl
end
end My

namespace My
open PySem PySem.Spec PyProof.Rows L2 Pre
/-! ### sum of a dict's values; x[i] op= v of lists; dict of a list of pairs; walks over a dict's keys -/
section
variable {prog : Program} {w : World} {A : Around} {κ : Type} [DecidableEq κ] {knd : KeyKind prog w κ}
theorem walks_vals (hh : A.handled = none) (I d : Addr) (dI : d ≠ I) (l : List (κ × Value)) (ep : Nat) :
    WalksS prog w A I [I, d] [I] (fun a b => b = a) l.length (fun i v => ∃ k, l[i]? = some (k, v)) (fun i s => s.heap.IsValIter I d i l.length ep ∧ s.heap.DictAt knd d l ep) where
  sub := fun b m => by rw [List.mem_singleton.mp m]; exact List.mem_cons_self
  grefl := fun _ => rfl
  gtrans := fun _ _ _ p q => q.trans p
  frame := fun _ _ _ _ st _ keeps => ⟨st.1.at fun o e => keeps I List.mem_cons_self o e, st.2.at' fun o e => keeps d (List.mem_cons_of_mem _ List.mem_cons_self) o e⟩
  item := fun i s _ _ lt st go => by
    obtain ⟨⟨k, x⟩, hx⟩ : ∃ p, l[i]? = some p := ⟨l[i], List.getElem?_eq_getElem lt⟩
    exact wpAny_pyNext_values_item st.1 st.2 hx fun g' v' same => go x _ ⟨k, hx⟩ ⟨v', st.2.extBut same.extBut dI⟩ ⟨fun b o nb e => same.extBut b o (fun z => nb (List.mem_singleton.mpr z)) e, rfl, rfl, rfl, Nat.le_refl _⟩
  done := fun s _ _ st go => wpAny_pyNext_values_end hh st.1 st.2 (List.getElem?_eq_none (Nat.le_refl _)) fun g' ext => go _ ⟨fun b o nb e => ext b o (fun z => nb (List.mem_singleton.mpr z)) e, rfl, rfl, rfl, Nat.le_refl _⟩
  self := fun _ _ _ _ st go => wpAny_pyIter_valiter st.1 go
end
theorem pre_sum (ns : List Int) : ∀ n, n ≤ ns.length → preSum (fun j => ns.getD j 0) n = (ns.take n).sum
  | 0, _ => by rw [List.take_zero]; rfl
  | n + 1, h => by
    have hx : ns[n]? = some ns[n] := List.getElem?_eq_getElem h
    show preSum (fun j => ns.getD j 0) n + ns.getD n 0 = _
    rw [pre_sum ns n (Nat.le_of_succ_le h), sum_take hx, List.getD_eq_getElem?_getD, hx]
    rfl
section
variable {X : Cx}
/-- sum(d.values()), d a dict of whole numbers -/
def tSumVals (td : TE) : TE := fun σ H Q => td σ H fun x H1 => ∃ (d : Addr) (kvs : List (Key × V)) (ns : List Int), x = .ref d ∧ Rd H1 d (.dK kvs) ∧ kvs.map (·.2) = ns.map V.int ∧ Q (.int ns.sum) H1
theorem pe_sumVals {e : Expr} {td : TE} {p0 apos cpos pos : Pos} (hc : X.calm = true) (hgs : Gl X "sum") (hms : X.mg "sum" = none) (he : PE X e td)
    (hbase : attributeBase e "values" X.env (eval e X.env) = eval e X.env := by rfl) (hline : (apos.endLine == cpos.line) = true := by rfl)
    (hs1 : starEach [.Call (.Attribute e "values" apos) [] [] cpos] X.env = (false, eval (.Call (.Attribute e "values" apos) [] [] cpos) X.env) :: starEach [] X.env := by rfl)
    (hp1 : (backTo pos (starEach [] X.env)).any (·.1) = false := by rfl) :
    PE X (.Call (.Name "sum" p0) [.Call (.Attribute e "values" apos) [] [] cpos] [] pos) (tSumVals td) := by
  refine ⟨fun pins s σ H Q I h => wpAny_Call_Name_kw (ld_blt I hgs hms boot_sum (PyProof.Rows.callWith_builtin1 ?_ hs1 hp1))⟩
  rw [hs1]
  show wpAny _ _ (spliced ((false, eval (.Call (.Attribute e "values" apos) [] [] cpos) X.env) :: backTo pos (starEach [] X.env))) _ _ s
  refine Calls.spliced_cons (wpAny_Call_method (T := "dict") (id := "dict.values") hbase rfl hline F.plainAttrs_dict F.slot_dict_values F.type_dict_values (thn (he.run pins s σ H _ I h) fun u s1 h1 => ?_))
  obtain ⟨x, H1, I1, rx, d, kvs, ns, ex, hd, hn, q⟩ := h1
  subst ex
  obtain rfl : u = Value.ref d := rx
  obtain ⟨_, hs, vs, kv, hm⟩ := dk_rd I1.hok hd
  refine ⟨hm.typeIs, hm.mapOf.noDict, ?_⟩
  show wpAny _ _ (callWith cpos (.builtin "dict.values") [.ref d] [] []) _ X.xe s1
  refine method_meetsIn F.slot_dict_values F.entry_dict_values rfl (PySem.evalArgs_none ⟨rfl, hm.typeIs, F.args_dict_values_1 _, _, meets_dict_values (mixKind X.prog X.w) d hs, ⟨vs, hm⟩, ?_⟩)
  refine Calls.spliced_nil ?_
  obtain ⟨ep, ha⟩ := hm.dictAt
  have hl : vs.length = kvs.length := (Paired.length kv).symm
  have hln : kvs.length = ns.length := by have := congrArg List.length hn; rwa [List.length_map, List.length_map] at this
  have dl : d < s1.heap.objs.size := by obtain ⟨o, _, ho, _⟩ := ha; exact Heap.lt_size ho
  refine call_sum_walkAnyS (wpAny_pyIter_values (d := d) (knd := mixKind X.prog X.w) ⟨_, Heap.get?_push_size _ rfl, rfl, rfl⟩ (ha.push _) ?_)
  have hz : (s1.heap.push { cls := .type "dict_values", data := .fields #[.ref d] }).objs.size = s1.heap.objs.size + 1 := Heap.size_push ..
  refine ⟨(s1.heap.push { cls := .type "dict_values", data := .fields #[.ref d] }).objs.size, _, _, _, _, _, _, fun j => ns.getD j 0, rfl, walks_vals (knd := mixKind X.prog X.w) (A := X.A.in1) (show X.A.in1.handled = none from I1.ok.hd hc) _ d (Nat.ne_of_lt (by rw [hz]; exact Nat.lt_succ_of_lt dl)) vs ep, ⟨⟨_, Heap.get?_push_size _ rfl, rfl, rfl⟩, (ha.push _).push _⟩, fun b hb => ?_, fun i v hv => ?_, fun s' t' hmv => ?_⟩
  · show b < (Heap.push (Heap.push s1.heap _) _).objs.size
    rw [Heap.size_push]
    rcases List.mem_cons.mp hb with rfl | hb
    · exact Nat.lt_succ_self _
    · rw [List.mem_singleton.mp hb, hz]
      exact Nat.lt_succ_of_lt (Nat.lt_succ_of_lt dl)
  · obtain ⟨k, hk⟩ := hv
    have hi : i < vs.length := (List.getElem?_eq_some_iff.mp hk).1
    have hi2 : i < kvs.length := by omega
    obtain ⟨u2, hu2, ru2⟩ := kv_get kv (i := i) (k := kvs[i].1) (v := kvs[i].2) (List.getElem?_eq_getElem hi2)
    rw [hk] at hu2
    cases hu2
    have e2 : kvs[i].2 = V.int (ns.getD i 0) := by
      have e3 := congrArg (fun l => l[i]?) hn
      simp only [List.getElem?_map, List.getElem?_eq_getElem hi2, List.getElem?_eq_getElem (show i < ns.length by omega), Option.map_some] at e3
      rw [Option.some.inj e3, List.getD_eq_getElem?_getD, List.getElem?_eq_getElem (show i < ns.length by omega)]
      rfl
    rw [e2] at ru2
    exact ru2
  · have es : preSum (fun j => ns.getD j 0) vs.length = ns.sum := by rw [hl, hln, pre_sum ns _ (Nat.le_refl _), List.take_length]
    rw [es, Moved.eq_with hmv]
    exact ⟨.int _, H1, I1.kept (t' := s'.toks) (fun b o e => hmv.heap b o (fun z => Nat.lt_irrefl _ (Nat.lt_of_succ_lt (show s1.heap.objs.size + 1 < s1.heap.objs.size from hz ▸ (List.mem_singleton.mp z) ▸ Heap.lt_size e))) (Heap.get?_push_of_some _ (Heap.get?_push_of_some _ e))), ⟨t', rfl⟩, q⟩
theorem k_dictP (K : PySem.W.Frag) (h : X.K = K) (hc : X.calm = true) : CallR X (.type "dict") (fun xs H Q => ∃ (a : Addr) (ps : List Addr) (kvs : List (Key × V)), xs = [.ref a] ∧ SqL K H a (ps.map V.ref) ∧ Paired (fun p kv => SqT K H p [kV kv.1, kv.2]) ps kvs ∧
    ∀ p, H p = none → Q (.ref p) (upd H p (.dK (mergeK [] kvs)))) := by
  subst h
  exact call_dictP hc
/-- xs[j], j from the left -/
def rGetL (K : PySem.W.Frag) : V → V → Hp → VK → Prop := fun x y H Q => ∃ (p : Addr) (xs : List V) (j : Nat) (v : V), x = .ref p ∧ y = .int (j : Int) ∧ SqL K H p xs ∧ xs[j]? = some v ∧ Q v H
theorem k_getL (K : PySem.W.Frag) (h : X.K = K) : PGet X (rGetL K) := by
  subst h
  intro pins s σ H o i ov iv Q I ro ri hw
  obtain ⟨p, xs, j, v, eo, ei, hq, hv, q⟩ := hw
  subst eo ei
  cases ro
  obtain ⟨t, rfl⟩ := ri
  obtain ⟨its, r, pl, hz⟩ := I.list hq
  obtain ⟨u, hu, ru⟩ := r.get hv
  have hj : j < its.length := (List.getElem?_eq_some_iff.mp hu).1
  have hl := r.length
  have h63 := line63
  exact wpAny_getItem_list pl.isList (Int.natCast_nonneg j) (by omega) (x := u) (by simpa using hu) ⟨v, H, I, ru, q⟩
end
end My

namespace My
open PySem PySem.Spec PyProof.Rows L2 Pre
local macro_rules | `(tactic| walk_at "go") => `(tactic| repeat (first | (with_reducible first | refine iteT ?_ | refine iteF ?_ | refine iteNtt ?_ | refine iteNff ?_ | refine iteET (by omega) ?_ | refine iteEF (by omega) ?_ | refine iteENT (by omega) ?_ | refine iteENF (by omega) ?_ | refine iteDT (by omega) ?_ | refine iteDF (by omega) ?_ | refine iteNT (by omega) ?_ | refine iteNF (by omega) ?_) | refine ⟨_, rfl, ?_⟩ | refine ⟨_, _, rfl, rfl, ?_⟩ | refine ⟨_, _, rfl, ?_⟩ | refine ⟨rfl, ?_⟩ | refine .inl ⟨_, rfl, ?_⟩ | refine .inr ⟨_, rfl, ?_⟩))
local macro_rules | `(tactic| walk_at "b") => `(tactic| try dsimp (config := { proj := false, iota := false, eta := false, zeta := false }) only)
section
variable {P : Program} {w : World} {K : PySem.W.Frag} {mg : Str → Option Value} {base : Heap}
/-! ### common divisors and fractions, of whole numbers of either sign -/
def sp_common_divisor : Sp := fun vs H Q _ => ∃ a b : Int, vs = [.int a, .int b] ∧ Q (.int (Int.gcd a b : Nat)) H
theorem abs_int (a : Int) : (if a < 0 then -a else a) = (a.natAbs : Int) := by split <;> omega
theorem G_common_divisor (T : Top K mg) : FnOk P w K mg base CX0 1 T.f_common_divisor T.fd_common_divisor ["one", "other"] sp_common_divisor := by
  refine T.F_common_divisor.ok sc_common_divisor (fun vs H Q E h => by obtain ⟨a, b, rfl, _⟩ := h; rfl) (fun cdv A outer s H vs Q E hr h => ?_)
  obtain ⟨a, b, rfl, q⟩ := h
  refine ⟨_, PSs.nox (pss_cons (ps_par (by rfl) sc_common_divisor.nd (i := 0) (j := 1) rfl rfl (by decide) rfl rfl (pa_cons (pe_callB call_abs (by rfl) T.n_abs (by decide +kernel) (pa_cons (pv 0) pa_nil)) (pa_cons (pe_callB call_abs (by rfl) T.n_abs (by decide +kernel) (pa_cons (pv 1) pa_nil)) pa_nil)) (by rfl))
  (pss_cons (ps_while PassesOwn.never (pt_cmpR op_ne (pv 1) pe_int (nomark _))
    (pss_one (ps_par (by rfl) sc_common_divisor.nd (i := 0) (j := 1) rfl rfl (by decide) rfl rfl (pa_cons (pv 1) (pa_cons (pe_op op_mod (pv 0) (pv 1)) pa_nil)) (by rfl))))
  (pss_one (ps_ret (pv 0))))), ?_⟩
  refine ⟨_, rfl, _, rfl, _, rfl, _, rfl, _, _, rfl, ?_⟩
  rw [abs_int, abs_int]
  refine ⟨fun m σ H2 => ∃ x y : Nat, σ = [some (.int x), some (.int y)] ∧ y = m ∧ Nat.gcd x y = Int.gcd a b ∧ H2 = H, ⟨b.natAbs, a.natAbs, b.natAbs, rfl, rfl, rfl, rfl⟩, ?_⟩
  rintro m σ H2 ⟨x, y, rfl, rfl, hg, rfl⟩
  refine ⟨_, rfl, rfl, _, rfl, ?_⟩
  by_cases hy : y = 0
  · subst hy
    refine iteENF rfl ⟨_, rfl, ?_⟩
    rw [← hg, Nat.gcd_zero_right] at q
    exact q
  · refine iteENT (by omega) ?_
    refine ⟨fun σ' H' => ∃ x' y' : Nat, σ' = [some (.int x'), some (.int y')] ∧ y' < y ∧ Nat.gcd x' y' = Int.gcd a b ∧ H' = H2, fun σ' H' ⟨x', y', e1, e2, e3, e4⟩ => ⟨y', e2, x', y', e1, rfl, e3, e4⟩, ?_⟩
    refine ⟨_, rfl, _, rfl, _, rfl, _, _, rfl, rfl, (by show (0 : Int) < _; omega), _, _, rfl, y, x % y, ?_, Nat.mod_lt _ (by omega), ?_, rfl⟩
    · show [some (V.int (y : Int)), some (.int ((x : Int) % (y : Int)))] = _
      rw [Int.natCast_emod]
    · rw [← hg, Nat.gcd_comm y, ← Nat.gcd_rec, Nat.gcd_comm]
/-- a fraction in lowest terms -/
def lowF (t u : Int) : Int × Int := (t / (Int.gcd t u : Nat), u / (Int.gcd t u : Nat))
def sp_fraction : Sp := fun vs H Q _ => ∃ t u : Int, vs = [.int t, .int u] ∧ 0 < u ∧ u < 2 ^ 1000 ∧ ∀ H' p, Same H H' → H p = none → H' p = some (.tup ([(lowF t u).1, (lowF t u).2].map V.int)) → Q (.ref p) H'
theorem G_fraction (T : Top K mg) : FnOk P w K mg base CX0 2 T.f_fraction T.fd_fraction ["top", "under"] sp_fraction := by
  refine T.F_fraction.ok sc_fraction (fun vs H Q E h => by obtain ⟨t, u, rfl, _⟩ := h; rfl) (fun cdv A outer s H vs Q E hr h => ?_)
  obtain ⟨t, u, rfl, hu, hz, q⟩ := h
  refine ⟨_, PSs.nox (pss_cons (ps_set (i := 2) sc_fraction.nd rfl (by first | exact Or.inl rfl | exact Or.inr rfl) (pe_call (G_common_divisor T) (hr.mono (by decide)) (by rfl) T.g_common_divisor T.F_common_divisor.kp T.b_common_divisor .nil pass0 (pa_cons (pv 0) (pa_cons (pv 1) pa_nil))))
  (pss_cons (ps_if (pt_cmpR op_lt (pv 1) pe_int (nomark _))
    (pss_one (ps_set (i := 2) sc_fraction.nd rfl (by first | exact Or.inl rfl | exact Or.inr rfl) (pe_op op_sub pe_int (pv 2))))
    pss_nil)
  (pss_one (ps_ret (pe_tup (pa_cons (pe_op op_fdivW (pv 0) (pv 2)) (pa_cons (pe_op op_fdivW (pv 1) (pv 2)) pa_nil))))))), ?_⟩
  have h1 : 0 < Int.gcd t u := Int.gcd_pos_of_ne_zero_right _ (by omega)
  have h2 : (Int.gcd t u : Int) ≤ u := Int.le_of_dvd hu (Int.gcd_dvd_right ..)
  have hw : ∀ x, CDivW x ((Int.gcd t u : Nat) : Int) := fun x => wide_div (b := 1000) (by omega) (by rw [Int.natAbs_natCast]; omega) (by decide) (by decide)
  walk_at "go"
  refine ⟨hw _, ?_⟩
  walk_at "go"
  refine ⟨hw _, (show 2 ≤ sizeLine by decide), fun p np => ?_⟩
  exact q _ p (same_upd np) np upd_same
theorem lowF_ok {t u : Int} (hu : 0 < u) : ∃ g : Int, 0 < g ∧ t = g * (lowF t u).1 ∧ u = g * (lowF t u).2 ∧ 0 < (lowF t u).2 := by
  have h1 : 0 < Int.gcd t u := Int.gcd_pos_of_ne_zero_right _ (by omega)
  have e1 := Int.mul_ediv_cancel' (Int.gcd_dvd_left (a := t) (b := u))
  have e2 := Int.mul_ediv_cancel' (Int.gcd_dvd_right (a := t) (b := u))
  refine ⟨(Int.gcd t u : Nat), by omega, e1.symm, e2.symm, ?_⟩
  show 0 < u / (Int.gcd t u : Nat)
  by_cases h : 0 < u / (Int.gcd t u : Nat)
  · exact h
  · have h3 : ((Int.gcd t u : Nat) : Int) * (u / (Int.gcd t u : Nat)) ≤ 0 := Int.mul_nonpos_of_nonneg_of_nonpos (by omega) (by omega)
    omega
theorem lowF_scale (t u : Int) {s : Int} (hs : 0 < s) : lowF (t * s) (u * s) = lowF t u := by
  unfold lowF
  rw [Int.gcd_mul_right]
  have e : ((t.gcd u * s.natAbs : Nat) : Int) = (t.gcd u : Nat) * s := by rw [Int.natCast_mul]; congr 1; omega
  rw [e, Int.mul_ediv_mul_of_pos_left _ _ hs, Int.mul_ediv_mul_of_pos_left _ _ hs]
/-- alike just if the products are -/
theorem lowF_eq {t u t' u' : Int} (hu : 0 < u) (hu' : 0 < u') : lowF t u = lowF t' u' ↔ t * u' = t' * u := by
  constructor
  · intro h
    obtain ⟨g, _, e1, e2, _⟩ := lowF_ok (t := t) hu
    obtain ⟨g', _, e1', e2', _⟩ := lowF_ok (t := t') hu'
    rw [h] at e1 e2
    generalize (lowF t' u').1 = x at *
    generalize (lowF t' u').2 = y at *
    rw [e1, e2, e1', e2']
    rw [Int.mul_assoc, Int.mul_assoc, Int.mul_left_comm x g' y, Int.mul_left_comm g g' , Int.mul_left_comm x g y]
  · intro h
    rw [← lowF_scale t u hu', ← lowF_scale t' u' hu, h, Int.mul_comm u u']
end
end My

set_option linter.all false
namespace My
/-! ### sums over all numbers below a bound -/
def sg : Nat → (Nat → Int) → Int
  | 0, _ => 0
  | n + 1, f => sg n f + f n
theorem sg_congr {f g : Nat → Int} : ∀ {n : Nat}, (∀ i, i < n → f i = g i) → sg n f = sg n g
  | 0, _ => rfl
  | n + 1, h => by
    show sg n f + f n = sg n g + g n
    rw [sg_congr (n := n) fun i hi => h i (by omega), h n (by omega)]
theorem sg_add (f g : Nat → Int) : ∀ n : Nat, sg n (fun i => f i + g i) = sg n f + sg n g
  | 0 => rfl
  | n + 1 => by
    show sg n (fun i => f i + g i) + (f n + g n) = (sg n f + f n) + (sg n g + g n)
    rw [sg_add f g n]
    omega
theorem sg_sub (f g : Nat → Int) : ∀ n : Nat, sg n (fun i => f i - g i) = sg n f - sg n g
  | 0 => rfl
  | n + 1 => by
    show sg n (fun i => f i - g i) + (f n - g n) = (sg n f + f n) - (sg n g + g n)
    rw [sg_sub f g n]
    omega
theorem sg_mul (c : Int) (f : Nat → Int) : ∀ n : Nat, sg n (fun i => c * f i) = c * sg n f
  | 0 => (Int.mul_zero c).symm
  | n + 1 => by
    show sg n (fun i => c * f i) + c * f n = c * (sg n f + f n)
    rw [sg_mul c f n, Int.mul_add]
theorem sg_zero : ∀ n : Nat, sg n (fun _ => 0) = 0
  | 0 => rfl
  | n + 1 => by
    show sg n (fun _ => 0) + 0 = 0
    rw [sg_zero n]
    rfl
theorem sg_split (f : Nat → Int) (a : Nat) : ∀ b : Nat, sg (a + b) f = sg a f + sg b (fun i => f (a + i))
  | 0 => (Int.add_zero _).symm
  | b + 1 => by
    show sg (a + b) f + f (a + b) = sg a f + (sg b (fun i => f (a + i)) + f (a + b))
    rw [sg_split f a b, Int.add_assoc]
theorem sg_front (f : Nat → Int) (n : Nat) : sg (n + 1) f = f 0 + sg n (fun i => f (i + 1)) := by
  rw [Nat.add_comm n 1, sg_split f 1 n]
  show (0 + f 0) + sg n (fun i => f (1 + i)) = _
  rw [Int.zero_add]
  congr 1
  exact sg_congr fun i _ => by rw [Nat.add_comm]
theorem sg_one {n p : Nat} (h : p < n) (x : Int) : sg n (fun i => if i = p then x else 0) = x := by
  induction n with
  | zero => omega
  | succ n ih =>
    show sg n _ + (if n = p then x else 0) = x
    by_cases e : n = p
    · rw [if_pos e, sg_congr (g := fun _ => 0) fun i hi => if_neg (by omega), sg_zero, Int.zero_add]
    · rw [if_neg e, ih (by omega), Int.add_zero]
theorem sg_nonneg {f : Nat → Int} : ∀ {n : Nat}, (∀ i, i < n → 0 ≤ f i) → 0 ≤ sg n f
  | 0, _ => Int.le_refl 0
  | n + 1, h => Int.add_nonneg (sg_nonneg fun i hi => h i (by omega)) (h n (by omega))
/-! ### signs by the ones in common -/
def sb (m v k : Nat) : Int := if (m.testBit k && v.testBit k) = true then -1 else 1
def chi : Nat → Nat → Nat → Int
  | 0, _, _ => 1
  | k + 1, m, v => chi k m v * sb m v k
theorem sb_xor (m s t k : Nat) : sb m (s ^^^ t) k = sb m s k * sb m t k := by
  unfold sb
  rw [Nat.testBit_xor]
  cases m.testBit k <;> cases s.testBit k <;> cases t.testBit k <;> rfl
theorem chi_xor (m s t : Nat) : ∀ k, chi k m (s ^^^ t) = chi k m s * chi k m t
  | 0 => rfl
  | k + 1 => by
    show chi k m (s ^^^ t) * sb m (s ^^^ t) k = (chi k m s * sb m s k) * (chi k m t * sb m t k)
    rw [chi_xor m s t k, sb_xor, Int.mul_assoc, Int.mul_assoc, Int.mul_left_comm (chi k m t)]
theorem chi_zero (m : Nat) : ∀ k, chi k m 0 = 1
  | 0 => rfl
  | k + 1 => by
    show chi k m 0 * sb m 0 k = 1
    rw [chi_zero m k]
    unfold sb
    rw [Nat.zero_testBit, Bool.and_false]
    rfl
theorem chi_low {m m' v : Nat} : ∀ {k : Nat}, (∀ i, i < k → m.testBit i = m'.testBit i) → chi k m v = chi k m' v
  | 0, _ => rfl
  | k + 1, h => by
    show chi k m v * sb m v k = chi k m' v * sb m' v k
    rw [chi_low fun i hi => h i (by omega)]
    unfold sb
    rw [h k (by omega)]
theorem chi_one (m v : Nat) : ∀ k, chi k m v = 1 ∨ chi k m v = -1
  | 0 => .inl rfl
  | k + 1 => by
    show chi k m v * sb m v k = 1 ∨ chi k m v * sb m v k = -1
    unfold sb
    rcases chi_one m v k with h | h <;> rw [h] <;> split <;> decide
theorem chi_up (k m v : Nat) : chi k (2 ^ k + m) v = chi k m v :=
  chi_low fun i hi => by rw [Nat.testBit_two_pow_add_gt hi]
theorem bit_lo {m k : Nat} (h : m < 2 ^ k) : m.testBit k = false := Nat.testBit_lt_two_pow h
theorem bit_hi {m k : Nat} (h : m < 2 ^ k) : (2 ^ k + m).testBit k = true := by
  rw [Nat.testBit_two_pow_add_eq, bit_lo h]
  rfl
theorem mod_up (s k : Nat) : s % 2 ^ (k + 1) = s % 2 ^ k + (if s.testBit k = true then 2 ^ k else 0) := by
  rw [Nat.testBit_eq_decide_div_mod_eq, Nat.pow_succ]
  have h := Nat.mod_mul (x := s) (a := 2 ^ k) (b := 2)
  rw [h]
  congr 1
  split
  · rename_i c
    rw [of_decide_eq_true c, Nat.mul_one]
  · rename_i c
    have : s / 2 ^ k % 2 = 0 := by
      have : ¬ s / 2 ^ k % 2 = 1 := fun z => c (decide_eq_true z)
      omega
    rw [this, Nat.mul_zero]
theorem sum_chi (s : Nat) : ∀ k, sg (2 ^ k) (fun m => chi k m s) = if s % 2 ^ k = 0 then (2 : Int) ^ k else 0
  | 0 => by
    rw [Nat.pow_zero, Nat.mod_one]
    rfl
  | k + 1 => by
    have ih := sum_chi s k
    rw [show 2 ^ (k + 1) = 2 ^ k + 2 ^ k by rw [Nat.pow_succ]; omega, sg_split]
    rw [sg_congr (f := fun m => chi (k + 1) m s) (g := fun m => chi k m s) fun m hm => by
      show chi k m s * sb m s k = chi k m s
      unfold sb
      rw [bit_lo hm]
      exact Int.mul_one _]
    rw [sg_congr (f := fun m => chi (k + 1) (2 ^ k + m) s) (g := fun m => (if s.testBit k = true then -1 else 1) * chi k m s) fun m hm => by
      show chi k (2 ^ k + m) s * sb (2 ^ k + m) s k = _
      unfold sb
      rw [bit_hi hm, chi_up, Bool.true_and, Int.mul_comm]]
    rw [sg_mul, ih, show 2 ^ k + 2 ^ k = 2 ^ (k + 1) by rw [Nat.pow_succ]; omega, mod_up s k, Int.pow_succ]
    have hp : 0 < 2 ^ k := Nat.two_pow_pos k
    cases s.testBit k
    · simp only [Bool.false_eq_true, if_false, Nat.add_zero]
      split <;> omega
    · simp only [if_true]
      rw [if_neg (c := _ + 2 ^ k = 0) (by omega)]
      split <;> omega
/-! ### lists of numbers: so many of them, with a sum -/
def subK (w m : Nat) : List Nat → Nat → Int
  | _, 0 => 1
  | [], _ + 1 => 0
  | p :: l, f + 1 => subK w m l (f + 1) + chi w m p * subK w m l f
def subC : List Nat → Nat → Nat → Int
  | _, 0, s => if s = 0 then 1 else 0
  | [], _ + 1, _ => 0
  | p :: l, f + 1, s => subC l (f + 1) s + subC l f (s ^^^ p)
theorem subC_nonneg : ∀ (l : List Nat) (f s : Nat), 0 ≤ subC l f s
  | l, 0, s => by unfold subC; split <;> omega
  | [], _ + 1, _ => Int.le_refl 0
  | p :: l, f + 1, s => Int.add_nonneg (subC_nonneg l (f + 1) s) (subC_nonneg l f _)
theorem walsh {w : Nat} : ∀ {l : List Nat} {f s : Nat}, (∀ p ∈ l, p < 2 ^ w) → s < 2 ^ w → sg (2 ^ w) (fun m => chi w m s * subK w m l f) = 2 ^ w * subC l f s
  | l, 0, s, _, hs => by
    have e : ∀ m, subK w m l 0 = 1 := fun m => by cases l <;> rfl
    rw [sg_congr (g := fun m => chi w m s) fun m _ => by rw [e, Int.mul_one], sum_chi, Nat.mod_eq_of_lt hs]
    have e' : subC l 0 s = if s = 0 then 1 else 0 := by cases l <;> rfl
    rw [e']
    split
    · exact (Int.mul_one _).symm
    · exact (Int.mul_zero _).symm
  | [], f + 1, s, _, _ => by
    show _ = 2 ^ w * (0 : Int)
    rw [Int.mul_zero]
    exact (sg_congr (g := fun _ => 0) fun m _ => Int.mul_zero _).trans (sg_zero _)
  | p :: l, f + 1, s, hl, hs => by
    have hp := hl p List.mem_cons_self
    have hl' := fun q hq => hl q (List.mem_cons_of_mem _ hq)
    rw [sg_congr (g := fun m => chi w m s * subK w m l (f + 1) + chi w m (s ^^^ p) * subK w m l f) fun m _ => by
      show chi w m s * (subK w m l (f + 1) + chi w m p * subK w m l f) = _
      rw [Int.mul_add, chi_xor, Int.mul_assoc]]
    rw [sg_add, walsh hl' hs, walsh hl' (Nat.xor_lt_two_pow hs hp), ← Int.mul_add]
    rfl
theorem subC_zero (l : List Nat) (s : Nat) : subC l 0 s = if s = 0 then 1 else 0 := by cases l <;> rfl
theorem subC_snoc (p : Nat) : ∀ (l : List Nat) (f s : Nat), subC (l ++ [p]) (f + 1) s = subC l (f + 1) s + subC l f (s ^^^ p)
  | [], f, s => rfl
  | a :: l, 0, s => by
    show subC (l ++ [p]) 1 s + subC (l ++ [p]) 0 (s ^^^ a) = (subC l 1 s + subC l 0 (s ^^^ a)) + subC (a :: l) 0 (s ^^^ p)
    have ih : subC (l ++ [p]) 1 s = subC l 1 s + subC l 0 (s ^^^ p) := subC_snoc p l 0 s
    rw [ih]
    simp only [subC_zero]
    omega
  | a :: l, f + 1, s => by
    show subC (l ++ [p]) (f + 2) s + subC (l ++ [p]) (f + 1) (s ^^^ a) = (subC l (f + 2) s + subC l (f + 1) (s ^^^ a)) + (subC l (f + 1) (s ^^^ p) + subC l f (s ^^^ p ^^^ a))
    have ih : subC (l ++ [p]) (f + 2) s = subC l (f + 2) s + subC l (f + 1) (s ^^^ p) := subC_snoc p l (f + 1) s
    rw [ih, subC_snoc p l f (s ^^^ a), Nat.xor_assoc, Nat.xor_assoc, Nat.xor_comm a p]
    omega
theorem subC_long : ∀ {l : List Nat} {f s : Nat}, l.length < f → subC l f s = 0
  | l, 0, s, h => absurd h (Nat.not_lt_zero _)
  | [], _ + 1, _, _ => rfl
  | p :: l, f + 1, s, h => by
    have h' : l.length < f := Nat.lt_of_succ_lt_succ h
    show subC l (f + 1) s + subC l f _ = 0
    rw [subC_long (by omega), subC_long h']
    rfl
/-! ### how many of a kind -/
def cnt (l : List Nat) (v : Nat) : Nat := (l.filter fun p => decide (p = v)).length
theorem cnt_cons (p : Nat) (l : List Nat) (v : Nat) : cnt (p :: l) v = cnt l v + (if p = v then 1 else 0) := by
  unfold cnt
  rw [List.filter_cons]
  by_cases h : p = v
  · rw [if_pos (decide_eq_true h), if_pos h, List.length_cons]
  · rw [if_neg (by rw [decide_eq_false h]; decide), if_neg h]
    rfl
theorem cnt_snoc (p : Nat) (l : List Nat) (v : Nat) : cnt (l ++ [p]) v = cnt l v + (if p = v then 1 else 0) := by
  unfold cnt
  rw [List.filter_append, List.length_append]
  congr 1
  by_cases h : p = v
  · rw [if_pos h, List.filter_cons, if_pos (decide_eq_true h)]
    rfl
  · rw [if_neg h, List.filter_cons, if_neg (by rw [decide_eq_false h]; decide)]
    rfl
theorem xor_eq_zero' {a b : Nat} : a ^^^ b = 0 ↔ a = b := by
  constructor
  · intro h
    have : (a ^^^ b) ^^^ b = b := by rw [h, Nat.zero_xor]
    rwa [Nat.xor_assoc, Nat.xor_self, Nat.xor_zero] at this
  · rintro rfl
    exact Nat.xor_self _
theorem subC_one : ∀ (l : List Nat) (v : Nat), subC l 1 v = (cnt l v : Int)
  | [], _ => rfl
  | p :: l, v => by
    show subC l 1 v + subC l 0 (v ^^^ p) = _
    rw [subC_one l v, subC_zero, cnt_cons]
    by_cases h : p = v
    · rw [if_pos (xor_eq_zero'.mpr h.symm), if_pos h]
      rfl
    · rw [if_neg (fun z => h (xor_eq_zero'.mp z).symm), if_neg h]
      rfl
/-! ### the turned sums -/
def turnT (f : Nat → Int) : Nat → Nat → Int
  | 0, x => f x
  | k + 1, x => if x.testBit k = true then turnT f k (x - 2 ^ k) - turnT f k x else turnT f k x + turnT f k (x + 2 ^ k)
theorem turn_add (f g : Nat → Int) : ∀ (k x : Nat), turnT (fun v => f v + g v) k x = turnT f k x + turnT g k x
  | 0, x => rfl
  | k + 1, x => by
    unfold turnT
    simp only [turn_add f g k]
    split <;> omega
theorem turn_zero : ∀ (k x : Nat), turnT (fun _ => 0) k x = 0
  | 0, x => rfl
  | k + 1, x => by
    unfold turnT
    simp only [turn_zero k]
    split <;> rfl
theorem turn_congr {f g : Nat → Int} {w : Nat} (h : ∀ v, v < 2 ^ w → f v = g v) : ∀ {k x : Nat}, k ≤ w → x < 2 ^ w → turnT f k x = turnT g k x
  | 0, x, _, hx => h x hx
  | k + 1, x, hk, hx => by
    unfold turnT
    rw [turn_congr h (k := k) (x := x) (by omega) hx]
    by_cases c : x.testBit k = true
    · rw [if_pos c, if_pos c, turn_congr h (k := k) (x := x - 2 ^ k) (by omega) (Nat.lt_of_le_of_lt (Nat.sub_le _ _) hx)]
    · rw [if_neg c, if_neg c, turn_congr h (k := k) (x := x + 2 ^ k) (by omega) ?_]
      have e : (x + 2 ^ k) = x ^^^ 2 ^ k ∨ True := .inr trivial
      have hkw : k < w := by omega
      have b : x / 2 ^ k % 2 = 0 := by
        rw [Nat.testBit_eq_decide_div_mod_eq] at c
        have : ¬ x / 2 ^ k % 2 = 1 := fun z => c (decide_eq_true z)
        omega
      obtain ⟨j, rfl⟩ : ∃ j, w = k + 1 + j := ⟨w - (k + 1), by omega⟩
      have hp : 0 < 2 ^ k := Nat.two_pow_pos k
      have e2 : 2 ^ (k + 1 + j) = 2 ^ k * (2 * 2 ^ j) := by rw [Nat.pow_add, Nat.pow_succ, Nat.mul_assoc]
      have q1 : x / 2 ^ k < 2 * 2 ^ j := Nat.div_lt_of_lt_mul (by rw [← e2]; exact hx)
      have q2 : (x + 2 ^ k) / 2 ^ k = x / 2 ^ k + 1 := Nat.add_div_right _ hp
      have q3 : (x + 2 ^ k) / 2 ^ k < 2 * 2 ^ j := by omega
      rw [e2]
      exact Nat.lt_of_lt_of_eq ((Nat.div_lt_iff_lt_mul hp).mp q3) (Nat.mul_comm _ _)
theorem turn_delta (p : Nat) : ∀ (k x : Nat), turnT (fun v => if p = v then 1 else 0) k x = if x / 2 ^ k = p / 2 ^ k then chi k x p else 0
  | 0, x => by
    show (if p = x then (1 : Int) else 0) = if x / 1 = p / 1 then 1 else 0
    rw [Nat.div_one, Nat.div_one]
    by_cases h : p = x
    · rw [if_pos h, if_pos h.symm]
    · rw [if_neg h, if_neg (fun z => h z.symm)]
  | k + 1, x => by
    have hp : 0 < 2 ^ k := Nat.two_pow_pos k
    have d : ∀ y : Nat, y / 2 ^ (k + 1) = y / 2 ^ k / 2 := fun y => by rw [Nat.pow_succ, Nat.div_div_eq_div_mul]
    unfold turnT
    simp only [turn_delta p k]
    rw [d, d]
    show _ = if _ then chi k x p * sb x p k else 0
    unfold sb
    have tx : x.testBit k = decide (x / 2 ^ k % 2 = 1) := Nat.testBit_eq_decide_div_mod_eq
    have tp : p.testBit k = decide (p / 2 ^ k % 2 = 1) := Nat.testBit_eq_decide_div_mod_eq
    by_cases c : x.testBit k = true
    · have cx : x / 2 ^ k % 2 = 1 := by rw [tx] at c; exact of_decide_eq_true c
      have hle : 2 ^ k ≤ x := by
        by_cases hh : 2 ^ k ≤ x
        · exact hh
        · rw [Nat.div_eq_of_lt (by omega)] at cx
          omega
      obtain ⟨y, rfl⟩ : ∃ y, x = 2 ^ k + y := ⟨x - 2 ^ k, by omega⟩
      have q2 : (2 ^ k + y) / 2 ^ k = y / 2 ^ k + 1 := by rw [Nat.add_comm]; exact Nat.add_div_right _ hp
      rw [if_pos c, c, Bool.true_and, Nat.add_sub_cancel_left, chi_up, q2]
      rw [q2] at cx
      rw [tp]
      generalize y / 2 ^ k = a at *
      generalize p / 2 ^ k = b at *
      generalize chi k y p = z at *
      by_cases e1 : a = b
      · subst e1
        rw [if_pos rfl, if_neg (by omega), if_pos (by omega), if_neg (by rw [decide_eq_false (by omega)]; decide)]
        omega
      · by_cases e2 : a + 1 = b
        · subst e2
          rw [if_neg (by omega), if_pos rfl, if_pos rfl, if_pos (decide_eq_true cx)]
          omega
        · rw [if_neg e1, if_neg e2, if_neg (by omega)]
          rfl
    · have cx : x / 2 ^ k % 2 = 0 := by
        rw [tx] at c
        have : ¬ x / 2 ^ k % 2 = 1 := fun z => c (decide_eq_true z)
        omega
      have q2 : (x + 2 ^ k) / 2 ^ k = x / 2 ^ k + 1 := Nat.add_div_right _ hp
      have cf : x.testBit k = false := by
        cases h : x.testBit k
        · rfl
        · exact absurd h c
      have cu : chi k (x + 2 ^ k) p = chi k x p := by rw [Nat.add_comm]; exact chi_up k x p
      rw [if_neg c, cf, Bool.false_and, cu, q2, if_neg (show ¬ false = true by decide), Int.mul_one]
      generalize x / 2 ^ k = a at *
      generalize p / 2 ^ k = b at *
      generalize chi k x p = z at *
      by_cases e1 : a = b
      · subst e1
        rw [if_pos rfl, if_neg (by omega), if_pos rfl]
        omega
      · by_cases e2 : a + 1 = b
        · subst e2
          rw [if_neg (by omega), if_pos rfl, if_pos (by omega)]
          omega
        · rw [if_neg e1, if_neg e2, if_neg (by omega)]
          rfl
def sumX (w m : Nat) : List Nat → Int
  | [] => 0
  | p :: l => sumX w m l + chi w m p
/-- the counts of all values, turned -/
theorem turn_cnt {w m : Nat} (hm : m < 2 ^ w) : ∀ {l : List Nat}, (∀ p ∈ l, p < 2 ^ w) → turnT (fun v => (cnt l v : Int)) w m = sumX w m l
  | [], _ => turn_zero w m
  | p :: l, h => by
    have hp := h p List.mem_cons_self
    have e : (fun v => (cnt (p :: l) v : Int)) = fun v => (fun v => (cnt l v : Int)) v + (fun v => if p = v then (1 : Int) else 0) v := by
      funext v
      show (cnt (p :: l) v : Int) = (cnt l v : Int) + if p = v then (1 : Int) else 0
      rw [cnt_cons]
      split <;> rfl
    rw [e, turn_add, turn_cnt hm fun q hq => h q (List.mem_cons_of_mem _ hq), turn_delta, Nat.div_eq_of_lt hm, Nat.div_eq_of_lt hp, if_pos rfl]
    rfl
/-- the odd ones -/
def mi (w m : Nat) (l : List Nat) : Nat := (l.filter fun p => decide (chi w m p = -1)).length
theorem mi_cons (w m p : Nat) (l : List Nat) : (chi w m p = 1 ∧ mi w m (p :: l) = mi w m l) ∨ (chi w m p = -1 ∧ mi w m (p :: l) = mi w m l + 1) := by
  unfold mi
  rw [List.filter_cons]
  rcases chi_one m p w with h | h
  · exact .inl ⟨h, by rw [h]; rfl⟩
  · exact .inr ⟨h, by rw [h]; rfl⟩
theorem mi_le (w m : Nat) (l : List Nat) : mi w m l ≤ l.length := List.length_filter_le ..
theorem sumX_mi (w m : Nat) : ∀ l : List Nat, sumX w m l = (l.length : Int) - 2 * (mi w m l : Int)
  | [] => rfl
  | p :: l => by
    show sumX w m l + chi w m p = _
    rw [sumX_mi w m l, List.length_cons]
    rcases mi_cons w m p l with ⟨h, e⟩ | ⟨h, e⟩ <;> rw [h, e] <;> omega
/-! ### binomials -/
def choose : Nat → Nat → Nat
  | _, 0 => 1
  | 0, _ + 1 => 0
  | n + 1, k + 1 => choose n k + choose n (k + 1)
theorem choose_zero (n : Nat) : choose n 0 = 1 := by cases n <;> rfl
theorem choose_big : ∀ {n k : Nat}, n < k → choose n k = 0
  | _, 0, h => absurd h (Nat.not_lt_zero _)
  | 0, _ + 1, _ => rfl
  | n + 1, k + 1, h => by
    show choose n k + choose n (k + 1) = 0
    rw [choose_big (by omega), choose_big (by omega)]
theorem choose_step : ∀ n k : Nat, choose n k * (n - k) = (k + 1) * choose n (k + 1)
  | 0, k => by rw [Nat.zero_sub, Nat.mul_zero]; exact (Nat.mul_zero _).symm
  | n + 1, 0 => by
    have ih := choose_step n 0
    simp only [choose_zero, Nat.sub_zero, Nat.one_mul, Nat.zero_add] at ih
    show 1 * (n + 1 - 0) = 1 * (choose n 0 + choose n 1)
    rw [choose_zero]
    omega
  | n + 1, k + 1 => by
    have i1 := choose_step n k
    have i2 := choose_step n (k + 1)
    show (choose n k + choose n (k + 1)) * (n + 1 - (k + 1)) = (k + 2) * (choose n (k + 1) + choose n (k + 2))
    have i3 : (k + 1 + 1) * choose n (k + 1 + 1) = (k + 2) * choose n (k + 2) := rfl
    rw [i3] at i2
    rw [show n + 1 - (k + 1) = n - k by omega, Nat.add_mul, i1, Nat.mul_add, ← i2]
    by_cases h : k + 1 ≤ n
    · have a1 : (k + 2) * choose n (k + 1) = (k + 1) * choose n (k + 1) + choose n (k + 1) := Nat.succ_mul (k + 1) _
      have a2 : choose n (k + 1) * (n - k) = choose n (k + 1) * (n - (k + 1)) + choose n (k + 1) := by rw [show n - k = (n - (k + 1)) + 1 by omega, Nat.mul_succ]
      rw [a1, a2]
      omega
    · rw [choose_big (n := n) (k := k + 1) (by omega)]
      simp
/-- so few of many, as it is reckoned -/
theorem choose_next (n k : Nat) : (choose n k : Int) * ((n : Int) - (k : Int)) / ((k : Int) + 1) = (choose n (k + 1) : Int) := by
  by_cases h : k ≤ n
  · have e : (choose n k : Int) * ((n : Int) - (k : Int)) = ((k : Int) + 1) * (choose n (k + 1) : Int) := by
      have := choose_step n k
      have e2 : ((n : Int) - (k : Int)) = ((n - k : Nat) : Int) := by omega
      rw [e2, ← Int.natCast_mul, this, Int.natCast_mul]
      rfl
    rw [e]
    exact Int.mul_ediv_cancel_left _ (by omega)
  · rw [choose_big (by omega), choose_big (by omega)]
    show (0 * _) / _ = (0 : Int)
    rw [Int.zero_mul, Int.zero_ediv]
theorem choose_le : ∀ n k : Nat, choose n k ≤ (n + 1) ^ k
  | _, 0 => by rw [choose_zero]; exact Nat.le_refl _
  | 0, _ + 1 => Nat.zero_le _
  | n + 1, k + 1 => by
    show choose n k + choose n (k + 1) ≤ (n + 2) ^ (k + 1)
    have i1 := choose_le n k
    have i2 := choose_le n (k + 1)
    have m : (n + 1) ^ k ≤ (n + 2) ^ k := Nat.pow_le_pow_left (by omega) k
    rw [Nat.pow_succ] at *
    have : (n + 1) ^ k * (n + 1) ≤ (n + 2) ^ k * (n + 1) := Nat.mul_le_mul_right _ m
    have e : (n + 2) ^ k * (n + 2) = (n + 2) ^ k * (n + 1) + (n + 2) ^ k := Nat.mul_succ _ _
    rw [e]
    exact Nat.le_trans (Nat.add_le_add i1 i2) (by omega)
def pm (k : Nat) : Int := if k % 2 = 0 then 1 else -1
theorem pm_succ (k : Nat) : pm (k + 1) = -pm k := by
  unfold pm
  by_cases h : k % 2 = 0
  · rw [if_pos h, if_neg (by omega)]
  · rw [if_neg h, if_pos (by omega)]
    rfl
def sset (a b f : Nat) : Int := sg (f + 1) fun i => pm i * (choose b i : Int) * (choose a (f - i) : Int)
theorem sset_zero (a b : Nat) : sset a b 0 = 1 := by
  show 0 + pm 0 * (choose b 0 : Int) * (choose a 0 : Int) = 1
  rw [choose_zero, choose_zero]
  rfl
theorem sset_none (f : Nat) : sset 0 0 (f + 1) = 0 := by
  unfold sset
  rw [sg_congr (g := fun _ => 0) fun i _ => ?_, sg_zero]
  cases i with
  | zero => show _ * (choose 0 (f + 1) : Int) = 0; exact Int.mul_zero _
  | succ i => show pm _ * 0 * _ = (0 : Int); rw [Int.mul_zero, Int.zero_mul]
theorem sset_plus (a b f : Nat) : sset (a + 1) b (f + 1) = sset a b (f + 1) + sset a b f := by
  show sg (f + 1) _ + pm (f + 1) * (choose b (f + 1) : Int) * (choose (a + 1) (f + 1 - (f + 1)) : Int) = (sg (f + 1) _ + pm (f + 1) * (choose b (f + 1) : Int) * (choose a (f + 1 - (f + 1)) : Int)) + sg (f + 1) _
  rw [Nat.sub_self, choose_zero, choose_zero]
  rw [sg_congr (f := fun i => pm i * (choose b i : Int) * (choose (a + 1) (f + 1 - i) : Int)) (g := fun i => pm i * (choose b i : Int) * (choose a (f + 1 - i) : Int) + pm i * (choose b i : Int) * (choose a (f - i) : Int)) fun i hi => by
    have e : f + 1 - i = (f - i) + 1 := by omega
    show _ * (choose (a + 1) (f + 1 - i) : Int) = _
    rw [← Int.mul_add, e]
    show _ * ((choose a (f - i) + choose a (f - i + 1) : Nat) : Int) = _
    rw [Int.natCast_add, Int.add_comm]]
  rw [sg_add]
  omega
theorem sset_minus (a b f : Nat) : sset a (b + 1) (f + 1) = sset a b (f + 1) - sset a b f := by
  unfold sset
  rw [sg_front, sg_front (fun i => pm i * (choose b i : Int) * (choose a (f + 1 - i) : Int))]
  rw [sg_congr (f := fun i => pm (i + 1) * (choose (b + 1) (i + 1) : Int) * (choose a (f + 1 - (i + 1)) : Int)) (g := fun i => pm (i + 1) * (choose b (i + 1) : Int) * (choose a (f + 1 - (i + 1)) : Int) - pm i * (choose b i : Int) * (choose a (f - i) : Int)) fun i hi => by
    show pm (i + 1) * ((choose b i + choose b (i + 1) : Nat) : Int) * (choose a (f + 1 - (i + 1)) : Int) = _
    rw [show f + 1 - (i + 1) = f - i by omega, Int.natCast_add, Int.mul_add, Int.add_mul, pm_succ, Int.neg_mul, Int.neg_mul, Int.neg_mul, Int.neg_mul]
    omega]
  rw [sg_sub, choose_zero, choose_zero]
  omega
theorem subK_sset (w m : Nat) : ∀ (l : List Nat) (f : Nat), subK w m l f = sset (l.length - mi w m l) (mi w m l) f
  | l, 0 => by rw [sset_zero]; cases l <;> rfl
  | [], f + 1 => (sset_none f).symm
  | p :: l, f + 1 => by
    show subK w m l (f + 1) + chi w m p * subK w m l f = _
    rw [subK_sset w m l (f + 1), subK_sset w m l f, List.length_cons]
    have := mi_le w m l
    rcases mi_cons w m p l with ⟨h, e⟩ | ⟨h, e⟩
    · rw [h, e, show l.length + 1 - mi w m l = (l.length - mi w m l) + 1 by omega, sset_plus, Int.one_mul]
    · rw [h, e, show l.length + 1 - (mi w m l + 1) = l.length - mi w m l by omega, sset_minus, Int.neg_mul, Int.one_mul]
      omega
/-- what the masks tell is how many there are -/
theorem unseen_many {w : Nat} {l : List Nat} (h : ∀ p ∈ l, p < 2 ^ w) (f : Nat) : sg (2 ^ w) (fun m => sset (l.length - mi w m l) (mi w m l) f) / 2 ^ w = subC l f 0 := by
  have e := walsh (f := f) (s := 0) h (Nat.two_pow_pos w)
  rw [sg_congr (f := fun m => sset (l.length - mi w m l) (mi w m l) f) (g := fun m => chi w m 0 * subK w m l f) fun m _ => by rw [chi_zero, Int.one_mul, subK_sset], e]
  exact Int.mul_ediv_cancel_left _ (by have : (0 : Int) < 2 ^ w := Int.pow_pos (by decide); omega)
end My

namespace My
section
variable {w W : Nat} (C : Ck w W)
/-! ### the powers, so many of them -/
def pws (w W n : Nat) : List Nat := (List.range n).map (pw w W)
theorem pws_len (n : Nat) : (pws w W n).length = n := by
  unfold pws
  rw [List.length_map, List.length_range]
theorem pws_succ (n : Nat) : pws w W (n + 1) = pws w W n ++ [pw w W n] := by
  unfold pws
  rw [List.range_succ, List.map_append]
  rfl
include C in
theorem pws_lt (n : Nat) : ∀ p ∈ pws w W n, p < 2 ^ w := fun p hp => by
  obtain ⟨i, _, rfl⟩ := List.mem_map.mp hp
  exact pw_lt C i
theorem pws_drop {i n : Nat} (h : i < n) : (pws w W n).drop i = pw w W i :: (pws w W n).drop (i + 1) := by
  unfold pws
  have hl : i < ((List.range n).map (pw w W)).length := by rw [List.length_map, List.length_range]; exact h
  rw [List.drop_eq_getElem_cons hl, List.getElem_map, List.getElem_range]
theorem divmod_succ {d : Nat} (n : Nat) (hd : 1 ≤ d) : (n % d + 1 < d ∧ (n + 1) / d = n / d ∧ (n + 1) % d = n % d + 1) ∨ (n % d + 1 = d ∧ (n + 1) / d = n / d + 1 ∧ (n + 1) % d = 0) := by
  have e := Nat.div_add_mod n d
  have l : n % d < d := Nat.mod_lt _ hd
  by_cases h : n % d + 1 < d
  · have e2 : n + 1 = (n % d + 1) + d * (n / d) := by omega
    refine .inl ⟨h, ?_, ?_⟩
    · rw [e2, Nat.add_mul_div_left _ _ hd, Nat.div_eq_of_lt h, Nat.zero_add]
    · rw [e2, Nat.add_mul_mod_self_left, Nat.mod_eq_of_lt h]
  · have h' : n % d + 1 = d := by omega
    have e2 : n + 1 = 0 + d * (n / d + 1) := by rw [Nat.mul_succ]; omega
    refine .inr ⟨h', ?_, ?_⟩
    · rw [e2, Nat.add_mul_div_left _ _ hd, Nat.zero_div, Nat.zero_add]
    · rw [e2, Nat.add_mul_mod_self_left, Nat.zero_mod]
include C in
theorem cnt_pws {d : Nat} (O : IsOrder w W d) {a : Nat} (ha : a < d) : ∀ n : Nat, cnt (pws w W n) (pw w W a) = n / d + (if a < n % d then 1 else 0)
  | 0 => by
    rw [Nat.zero_div, Nat.zero_mod, if_neg (Nat.not_lt_zero _)]
    rfl
  | n + 1 => by
    have hp := O.pos
    rw [pws_succ, cnt_snoc, cnt_pws O ha n]
    have hm : n % d < d := Nat.mod_lt _ hp
    have e : pw w W n = pw w W a ↔ n % d = a := by
      rw [pw_mod C O n]
      exact ⟨fun h => pw_inj C O hm ha h, fun h => by rw [h]⟩
    rcases divmod_succ n hp with ⟨h, h1, h2⟩ | ⟨h, h1, h2⟩ <;> rw [h1, h2] <;> by_cases c : n % d = a
    · rw [if_pos (e.mpr c), if_neg (by omega), if_pos (by omega)]
    · rw [if_neg (fun z => c (e.mp z))]
      by_cases c2 : a < n % d
      · rw [if_pos c2, if_pos (by omega)]
      · rw [if_neg c2, if_neg (by omega)]
    · rw [if_pos (e.mpr c), if_neg (by omega), if_neg (by omega)]
    · rw [if_neg (fun z => c (e.mp z)), if_pos (by omega), if_neg (by omega)]
include C in
theorem cnt_none {d : Nat} (O : IsOrder w W d) {v : Nat} (h : ∀ a, a < d → pw w W a ≠ v) (n : Nat) : cnt (pws w W n) v = 0 := by
  unfold cnt
  rw [List.length_eq_zero_iff, List.filter_eq_nil_iff]
  intro p hp z
  obtain ⟨i, _, rfl⟩ := List.mem_map.mp hp
  refine h (i % d) (Nat.mod_lt _ O.pos) ?_
  rw [← pw_mod C O i]
  exact of_decide_eq_true z
/-! ### pairs -/
def tri : Nat → Nat
  | 0 => 0
  | q + 1 => tri q + q
theorem tri_two : ∀ q : Nat, 2 * tri (q + 1) = (q + 1) * q
  | 0 => rfl
  | q + 1 => by
    show 2 * (tri (q + 1) + (q + 1)) = _
    rw [Nat.mul_add, tri_two q, Nat.mul_comm 2, ← Nat.mul_add, Nat.mul_comm]
def pairsF (d n : Nat) : Nat := n % d * tri (n / d + 1) + (d - n % d) * tri (n / d)
theorem pairsF_succ {d : Nat} (hd : 1 ≤ d) (n : Nat) : pairsF d (n + 1) = pairsF d n + n / d := by
  unfold pairsF
  have l : n % d < d := Nat.mod_lt _ hd
  rcases divmod_succ n hd with ⟨h, h1, h2⟩ | ⟨h, h1, h2⟩ <;> rw [h1, h2]
  · show (n % d + 1) * (tri (n / d) + n / d) + _ = n % d * (tri (n / d) + n / d) + _ + _
    rw [Nat.add_mul, Nat.one_mul, show d - n % d = (d - (n % d + 1)) + 1 by omega, Nat.add_mul, Nat.one_mul]
    omega
  · show 0 * _ + (d - 0) * (tri (n / d) + n / d) = n % d * (tri (n / d) + n / d) + _ + _
    rw [Nat.zero_mul, Nat.sub_zero, show d - n % d = 1 by omega, Nat.one_mul]
    have e : d * (tri (n / d) + n / d) = n % d * (tri (n / d) + n / d) + (tri (n / d) + n / d) := by
      rw [← Nat.succ_mul]
      congr 1
      exact h.symm
    rw [e]
    omega
include C in
theorem pairs_sub {d : Nat} (O : IsOrder w W d) : ∀ n : Nat, subC (pws w W n) 2 0 = (pairsF d n : Int)
  | 0 => by
    have hp := O.pos
    unfold pairsF
    rw [Nat.zero_mod, Nat.zero_mul, Nat.zero_div]
    rfl
  | n + 1 => by
    have hp := O.pos
    rw [pws_succ, subC_snoc, pairs_sub O n, subC_one, Nat.zero_xor, pairsF_succ hp]
    have hm : n % d < d := Nat.mod_lt _ hp
    rw [pw_mod C O n, cnt_pws C O hm n, if_neg (Nat.lt_irrefl _)]
    rfl
/-- as the law reckons them -/
theorem pairs_law (d n : Nat) (hd : 1 ≤ d) : ((n % d : Nat) : Int) * (((n / d : Nat) : Int) + 1) * ((n / d : Nat) : Int) / 2 + ((d : Int) - ((n % d : Nat) : Int)) * ((n / d : Nat) : Int) * (((n / d : Nat) : Int) - 1) / 2 = (pairsF d n : Int) := by
  have l : n % d < d := Nat.mod_lt _ hd
  unfold pairsF
  generalize n % d = r at *
  generalize n / d = q at *
  have t1 : ((r : Int) * ((q : Int) + 1) * (q : Int)) = 2 * ((r : Int) * (tri (q + 1) : Int)) := by
    have e : (2 * tri (q + 1) : Nat) = ((q + 1) * q : Nat) := tri_two q
    have e' : 2 * (tri (q + 1) : Int) = ((q : Int) + 1) * (q : Int) := by
      have := congrArg (fun (x : Nat) => (x : Int)) e
      rw [Int.natCast_mul, Int.natCast_mul] at this
      exact this
    rw [Int.mul_assoc, ← e', Int.mul_left_comm]
  have t2 : (((d : Int) - (r : Int)) * (q : Int) * ((q : Int) - 1)) = 2 * (((d - r : Nat) : Int) * (tri q : Int)) := by
    rw [show ((d : Int) - (r : Int)) = ((d - r : Nat) : Int) by omega]
    cases q with
    | zero => show _ * 0 * _ = 2 * (_ * 0); rw [Int.mul_zero, Int.mul_zero, Int.zero_mul]
    | succ q =>
      have e : (2 * tri (q + 1) : Nat) = ((q + 1) * q : Nat) := tri_two q
      have e' : 2 * (tri (q + 1) : Int) = ((q + 1 : Nat) : Int) * (q : Int) := by
        have := congrArg (fun (x : Nat) => (x : Int)) e
        rw [Int.natCast_mul, Int.natCast_mul] at this
        exact this
      rw [show (((q + 1 : Nat) : Int) - 1) = (q : Int) by omega, Int.mul_assoc, ← e', Int.mul_left_comm]
  rw [t1, t2, Int.mul_ediv_cancel_left _ (by decide), Int.mul_ediv_cancel_left _ (by decide), Int.natCast_add, Int.natCast_mul, Int.natCast_mul]
/-! ### threes -/
theorem threes_one {i n : Nat} (h : i < n) : subC ((pws w W n).drop i) 3 0 = subC ((pws w W n).drop (i + 1)) 3 0 + subC ((pws w W n).drop (i + 1)) 2 (pw w W i) := by
  rw [pws_drop h]
  show _ + subC _ 2 (0 ^^^ pw w W i) = _
  rw [Nat.zero_xor]
theorem threes_two {j n v : Nat} (h : j < n) : subC ((pws w W n).drop j) 2 v = subC ((pws w W n).drop (j + 1)) 2 v + (cnt ((pws w W n).drop (j + 1)) (v ^^^ pw w W j) : Int) := by
  rw [pws_drop h]
  show _ + subC _ 1 (v ^^^ pw w W j) = _
  rw [subC_one]
theorem drop_all (n f v : Nat) : subC ((pws w W n).drop n) (f + 1) v = 0 := by
  rw [List.drop_of_length_le (by rw [pws_len]; exact Nat.le_refl _)]
  rfl
/-- so many of the places behind -/
theorem cnt_behind (j n v : Nat) : cnt ((pws w W n).drop (j + 1)) v = (((List.range n).filter fun b => decide (pw w W b = v)).filter fun b => decide (j < b)).length := by
  rw [List.filter_filter]
  have e := behind_filter (fun b => decide (pw w W b = v)) j n
  rw [show (fun b => decide (j < b) && decide (pw w W b = v)) = fun b => decide (pw w W b = v) && decide (j < b) from funext fun b => Bool.and_comm _ _, e]
  unfold cnt pws
  rw [← List.map_drop, List.filter_map, List.length_map]
  congr 1
  have : (List.range n).drop (j + 1) = (List.range (n - (j + 1))).map fun k => j + 1 + k := by
    apply List.ext_getElem
    · simp
    · intro i h1 h2
      simp
  rw [this]
  rfl
/-! ### an even check has no odd ones -/
theorem odd_none : ∀ {l : List Nat} {f s : Nat}, (∀ p ∈ l, (onesN p w).length % 2 = 1) → ((onesN s w).length + f) % 2 = 1 → subC l f s = 0
  | l, 0, s, _, h => by
    rw [subC_zero, if_neg]
    rintro rfl
    have e : onesN 0 w = [] := List.filter_eq_nil_iff.mpr fun i _ => by rw [Nat.zero_testBit]; decide
    rw [e] at h
    exact absurd h (by decide)
  | [], _ + 1, _, _, _ => rfl
  | p :: l, f + 1, s, hl, h => by
    have hl' := fun q hq => hl q (List.mem_cons_of_mem _ hq)
    have hp := hl p List.mem_cons_self
    have e := par_xor s p w
    show subC l (f + 1) s + subC l f (s ^^^ p) = 0
    rw [odd_none hl' h, odd_none hl' (by omega)]
    rfl
include C in
theorem pws_odd (hW : (onesN W (w + 1)).length % 2 = 0) (n : Nat) : ∀ p ∈ pws w W n, (onesN p w).length % 2 = 1 := fun p hp => by
  obtain ⟨i, _, rfl⟩ := List.mem_map.mp hp
  unfold pw
  rw [par_rem C hW (i + 1) (2 ^ i) (Nat.pow_lt_pow_right (by decide) (Nat.lt_succ_self i)), ones_succ, Nat.testBit_two_pow_self, if_pos rfl]
  have e : onesN (2 ^ i) i = [] := List.filter_eq_nil_iff.mpr fun j hj => by
    have := List.mem_range.mp hj
    rw [Nat.testBit_two_pow_of_ne (by omega)]
    decide
  rw [e]
  rfl
/-! ### all numbers below a power of two -/
theorem up_xor {x n : Nat} (h : x < 2 ^ n) : 2 ^ n + x = 2 ^ n ^^^ x := by
  apply Nat.eq_of_testBit_eq
  intro i
  rw [Nat.testBit_xor]
  rcases Nat.lt_trichotomy i n with c | c | c
  · rw [Nat.testBit_two_pow_add_gt c, Nat.testBit_two_pow_of_ne (by omega), Bool.false_xor]
  · subst c
    rw [bit_hi h, Nat.testBit_two_pow_self, bit_lo h]
    rfl
  · rw [Nat.testBit_two_pow_of_ne (by omega), Bool.false_xor, Nat.testBit_lt_two_pow (Nat.lt_of_lt_of_le (show 2 ^ n + x < 2 ^ (n + 1) by rw [Nat.pow_succ]; omega) (Nat.pow_le_pow_right (by decide) c)), Nat.testBit_lt_two_pow (Nat.lt_of_lt_of_le h (Nat.pow_le_pow_right (by decide) (by omega)))]
include C in
theorem rem_up {x n : Nat} (h : x < 2 ^ n) : rem w W (2 ^ n + x) = pw w W n ^^^ rem w W x := by
  rw [up_xor h, rem_xor C]
  rfl
theorem pop_lo {x n : Nat} (h : x < 2 ^ n) : (onesN x (n + 1)).length = (onesN x n).length := by
  rw [ones_more h (Nat.le_succ n)]
theorem pop_hi {x n : Nat} (h : x < 2 ^ n) : (onesN (2 ^ n + x) (n + 1)).length = (onesN x n).length + 1 := by
  rw [ones_succ, bit_hi h, if_pos rfl, List.length_append]
  congr 2
  exact List.filter_congr fun i hi => by rw [Nat.testBit_two_pow_add_gt (List.mem_range.mp hi)]
theorem xor_swap {a b s : Nat} : a ^^^ b = s ↔ b = s ^^^ a := by
  constructor
  · rintro rfl
    rw [Nat.xor_comm a b, Nat.xor_assoc, Nat.xor_self, Nat.xor_zero]
  · rintro rfl
    rw [Nat.xor_comm s a, ← Nat.xor_assoc, Nat.xor_self, Nat.zero_xor]
def numC (w W n f s : Nat) : Int := sg (2 ^ n) fun x => if rem w W x = s ∧ (onesN x n).length = f then 1 else 0
include C in
theorem numC_eq : ∀ (n f s : Nat), numC w W n f s = subC (pws w W n) f s
  | 0, f, s => by
    show (0 : Int) + (if rem w W 0 = s ∧ (onesN 0 0).length = f then 1 else 0) = subC [] f s
    rw [rem_zero]
    cases f with
    | zero =>
      rw [subC_zero, Int.zero_add]
      by_cases h : s = 0
      · rw [if_pos ⟨h.symm, rfl⟩, if_pos h]
      · rw [if_neg (fun z => h z.1.symm), if_neg h]
    | succ f =>
      rw [if_neg (fun z => absurd z.2 (by show ¬ 0 = f + 1; omega))]
      rfl
  | n + 1, f, s => by
    unfold numC
    rw [show 2 ^ (n + 1) = 2 ^ n + 2 ^ n by rw [Nat.pow_succ]; omega, sg_split]
    rw [sg_congr (f := fun x => if rem w W x = s ∧ (onesN x (n + 1)).length = f then 1 else 0) (g := fun x => if rem w W x = s ∧ (onesN x n).length = f then 1 else 0) fun x hx => by rw [pop_lo hx]]
    rw [sg_congr (f := fun x => if rem w W (2 ^ n + x) = s ∧ (onesN (2 ^ n + x) (n + 1)).length = f then 1 else 0) (g := fun x => if rem w W x = s ^^^ pw w W n ∧ (onesN x n).length + 1 = f then 1 else 0) fun x hx => by
      rw [pop_hi hx, rem_up C hx]
      congr 1
      rw [xor_swap]]
    have i1 : sg (2 ^ n) (fun x => if rem w W x = s ∧ (onesN x n).length = f then 1 else 0) = subC (pws w W n) f s := numC_eq n f s
    rw [i1, pws_succ]
    cases f with
    | zero =>
      rw [sg_congr (g := fun _ => 0) fun x _ => if_neg (fun z => absurd z.2 (Nat.succ_ne_zero _)), sg_zero, subC_zero, subC_zero, Int.add_zero]
    | succ f =>
      have i2 : sg (2 ^ n) (fun x => if rem w W x = s ^^^ pw w W n ∧ (onesN x n).length = f then 1 else 0) = subC (pws w W n) f (s ^^^ pw w W n) := numC_eq n f _
      rw [subC_snoc, ← i2]
      congr 1
      exact sg_congr fun x _ => by
        congr 1
        rw [Nat.succ.injEq]
def remC (w W n s : Nat) : Int := sg (2 ^ n) fun x => if rem w W x = s then 1 else 0
include C in
theorem remC_succ (n s : Nat) : remC w W (n + 1) s = remC w W n s + remC w W n (s ^^^ pw w W n) := by
  unfold remC
  rw [show 2 ^ (n + 1) = 2 ^ n + 2 ^ n by rw [Nat.pow_succ]; omega, sg_split]
  congr 1
  exact sg_congr fun x hx => by
    rw [rem_up C hx]
    congr 1
    rw [xor_swap]
include C in
theorem remC_low {n s : Nat} (h : n ≤ w) (hs : s < 2 ^ n) : remC w W n s = 1 := by
  unfold remC
  have hle : 2 ^ n ≤ 2 ^ w := Nat.pow_le_pow_right (by decide) h
  rw [sg_congr (g := fun x => if x = s then 1 else 0) fun x hx => by rw [rem_small C x (by omega)]]
  exact sg_one hs 1
include C in
theorem remC_high : ∀ k : Nat, ∀ s, s < 2 ^ w → remC w W (w + k) s = 2 ^ k
  | 0, s, hs => remC_low C (Nat.le_refl _) hs
  | k + 1, s, hs => by
    show remC w W (w + k + 1) s = _
    rw [remC_succ C, remC_high k s hs, remC_high k _ (Nat.xor_lt_two_pow hs (pw_lt C _)), Int.pow_succ]
    omega
/-! ### chances -/
def hC (v t : Int) : List Nat → Nat → Int
  | [], s => if s = 0 then 1 else 0
  | p :: l, s => v * hC v t l s + t * hC v t l (s ^^^ p)
def prodG (v t : Int) (w m : Nat) : List Nat → Int
  | [] => 1
  | p :: l => (v + t * chi w m p) * prodG v t w m l
theorem walshG {v t : Int} {w : Nat} : ∀ {l : List Nat} {s : Nat}, (∀ p ∈ l, p < 2 ^ w) → s < 2 ^ w → sg (2 ^ w) (fun m => chi w m s * prodG v t w m l) = 2 ^ w * hC v t l s
  | [], s, _, hs => by
    have e : sg (2 ^ w) (fun m => chi w m s * prodG v t w m []) = sg (2 ^ w) (fun m => chi w m s) := sg_congr fun m _ => Int.mul_one _
    rw [e, sum_chi, Nat.mod_eq_of_lt hs]
    show _ = _ * (if s = 0 then (1 : Int) else 0)
    split
    · exact (Int.mul_one _).symm
    · exact (Int.mul_zero _).symm
  | p :: l, s, hl, hs => by
    have hp := hl p List.mem_cons_self
    have hl' := fun q hq => hl q (List.mem_cons_of_mem _ hq)
    rw [sg_congr (g := fun m => v * (chi w m s * prodG v t w m l) + t * (chi w m (s ^^^ p) * prodG v t w m l)) fun m _ => by
      show chi w m s * ((v + t * chi w m p) * prodG v t w m l) = _
      rw [Int.add_mul, Int.mul_add, chi_xor, Int.mul_left_comm (chi w m s) v, Int.mul_assoc t, Int.mul_left_comm (chi w m s) t, Int.mul_assoc (chi w m s)]]
    rw [sg_add, sg_mul, sg_mul, walshG hl' hs, walshG hl' (Nat.xor_lt_two_pow hs hp), Int.mul_left_comm v, Int.mul_left_comm t, ← Int.mul_add]
    rfl
theorem prodG_mi (v t : Int) (w m : Nat) : ∀ l : List Nat, prodG v t w m l = (v - t) ^ mi w m l * (v + t) ^ (l.length - mi w m l)
  | [] => by
    show (1 : Int) = (v - t) ^ 0 * (v + t) ^ 0
    rw [Int.pow_zero, Int.pow_zero]
    rfl
  | p :: l => by
    show (v + t * chi w m p) * prodG v t w m l = _
    rw [prodG_mi v t w m l, List.length_cons]
    have := mi_le w m l
    rcases mi_cons w m p l with ⟨h, e⟩ | ⟨h, e⟩
    · rw [h, e, show l.length + 1 - mi w m l = (l.length - mi w m l) + 1 by omega, Int.pow_succ (v + t), Int.mul_one, ← Int.mul_assoc _ _ (v + t), Int.mul_comm (v + t)]
    · rw [h, e, show l.length + 1 - (mi w m l + 1) = l.length - mi w m l by omega, Int.pow_succ (v - t), Int.mul_neg, Int.mul_one, ← Int.sub_eq_add_neg, ← Int.mul_assoc, Int.mul_comm (v - t)]
theorem hC_sum (v t : Int) : ∀ (l : List Nat) (s : Nat), hC v t l s = sg (l.length + 1) (fun f => subC l f s * t ^ f * v ^ (l.length - f))
  | [], s => by
    show _ = (0 : Int) + subC [] 0 s * t ^ 0 * v ^ 0
    rw [Int.pow_zero, Int.pow_zero, subC_zero, Int.mul_one, Int.mul_one, Int.zero_add]
    rfl
  | p :: l, s => by
    show v * hC v t l s + t * hC v t l (s ^^^ p) = sg (l.length + 1 + 1) (fun f => subC (p :: l) f s * t ^ f * v ^ (l.length + 1 - f))
    rw [hC_sum v t l s, hC_sum v t l (s ^^^ p), sg_front (fun f => subC (p :: l) f s * t ^ f * v ^ (l.length + 1 - f))]
    rw [sg_congr (f := fun i => subC (p :: l) (i + 1) s * t ^ (i + 1) * v ^ (l.length + 1 - (i + 1))) (g := fun i => subC l (i + 1) s * t ^ (i + 1) * v ^ (l.length - i) + t * (subC l i (s ^^^ p) * t ^ i * v ^ (l.length - i))) fun i _ => by
      show (subC l (i + 1) s + subC l i (s ^^^ p)) * t ^ (i + 1) * v ^ (l.length + 1 - (i + 1)) = _
      rw [show l.length + 1 - (i + 1) = l.length - i by omega, Int.add_mul, Int.add_mul]
      congr 1
      rw [Int.pow_succ, ← Int.mul_assoc, ← Int.mul_assoc, Int.mul_comm _ t, ← Int.mul_assoc]]
    rw [sg_add, sg_mul]
    have e : v * sg (l.length + 1) (fun f => subC l f s * t ^ f * v ^ (l.length - f)) = subC (p :: l) 0 s * t ^ 0 * v ^ (l.length + 1 - 0) + sg (l.length + 1) (fun i => subC l (i + 1) s * t ^ (i + 1) * v ^ (l.length - i)) := by
      rw [sg_front, Int.mul_add]
      show _ = _ + (sg l.length (fun i => subC l (i + 1) s * t ^ (i + 1) * v ^ (l.length - i)) + subC l (l.length + 1) s * t ^ (l.length + 1) * v ^ (l.length - l.length))
      rw [subC_long (Nat.lt_succ_self _), Int.zero_mul, Int.zero_mul, Int.add_zero, subC_zero, subC_zero]
      congr 1
      · rw [Nat.sub_zero, Nat.sub_zero, Int.pow_succ, Int.mul_comm v, Int.mul_assoc]
      · rw [← sg_mul]
        exact sg_congr fun i hi => by
          rw [show l.length - i = (l.length - (i + 1)) + 1 by omega, Int.pow_succ v, Int.mul_comm v, Int.mul_assoc]
    rw [e]
    omega
theorem hC_snoc (v t : Int) (p : Nat) : ∀ (l : List Nat) (s : Nat), hC v t (l ++ [p]) s = v * hC v t l s + t * hC v t l (s ^^^ p)
  | [], s => rfl
  | a :: l, s => by
    show v * hC v t (l ++ [p]) s + t * hC v t (l ++ [p]) (s ^^^ a) = v * (v * hC v t l s + t * hC v t l (s ^^^ a)) + t * (v * hC v t l (s ^^^ p) + t * hC v t l (s ^^^ p ^^^ a))
    rw [hC_snoc v t p l s, hC_snoc v t p l (s ^^^ a), Nat.xor_assoc, Nat.xor_assoc, Nat.xor_comm a p]
    simp only [Int.mul_add, Int.mul_left_comm t v]
    omega
include C in
theorem hC_rem : ∀ (n s : Nat), hC 1 1 (pws w W n) s = remC w W n s
  | 0, s => by
    show (if s = 0 then 1 else 0) = (0 : Int) + (if rem w W 0 = s then 1 else 0)
    rw [rem_zero, Int.zero_add]
    by_cases h : s = 0
    · rw [if_pos h, if_pos h.symm]
    · rw [if_neg h, if_neg (fun z => h z.symm)]
  | n + 1, s => by
    rw [pws_succ, hC_snoc, hC_rem n s, hC_rem n, Int.one_mul, Int.one_mul, remC_succ C]
/-- the law's own sum -/
def lawT (w W n : Nat) (v t : Int) : Int := sg n fun i => subC (pws w W n) (i + 1) 0 * t ^ (i + 1) * v ^ (n - (i + 1))
theorem hC_lawT (n : Nat) (v t : Int) : hC v t (pws w W n) 0 = v ^ n + lawT w W n v t := by
  rw [hC_sum, pws_len, sg_front, subC_zero, if_pos rfl, Nat.sub_zero, Int.pow_zero, Int.one_mul, Int.one_mul]
  rfl
include C in
theorem chance_sum (n : Nat) (v t : Int) : sg (2 ^ w) (fun m => (v - t) ^ mi w m (pws w W n) * (v + t) ^ (n - mi w m (pws w W n))) - 2 ^ w * v ^ n = 2 ^ w * lawT w W n v t := by
  have e := walshG (v := v) (t := t) (s := 0) (pws_lt C n) (Nat.two_pow_pos w)
  rw [sg_congr (g := fun m => (v - t) ^ mi w m (pws w W n) * (v + t) ^ (n - mi w m (pws w W n))) fun m _ => by rw [chi_zero, Int.one_mul, prodG_mi, pws_len], hC_lawT, Int.mul_add] at e
  omega
include C in
theorem lawT_half (n : Nat) : lawT w W n 1 1 = if w ≤ n then 2 ^ (n - w) - 1 else 0 := by
  have e := hC_lawT (w := w) (W := W) n 1 1
  rw [hC_rem C, Int.one_pow] at e
  split
  · rename_i h
    obtain ⟨k, rfl⟩ : ∃ k, n = w + k := ⟨n - w, by omega⟩
    rw [remC_high C k 0 (Nat.two_pow_pos w)] at e
    rw [Nat.add_sub_cancel_left]
    omega
  · rename_i h
    rw [remC_low C (by omega) (Nat.two_pow_pos n)] at e
    omega
end
end My

namespace My
/-! ### sums turned in place -/
theorem add_bit_lt {w k x : Nat} (hk : k < w) (hx : x < 2 ^ w) (c : x.testBit k = false) : x + 2 ^ k < 2 ^ w := by
  have b : x / 2 ^ k % 2 = 0 := by
    rw [Nat.testBit_eq_decide_div_mod_eq] at c
    have : ¬ x / 2 ^ k % 2 = 1 := of_decide_eq_false c
    omega
  obtain ⟨j, rfl⟩ : ∃ j, w = k + 1 + j := ⟨w - (k + 1), by omega⟩
  have hp : 0 < 2 ^ k := Nat.two_pow_pos k
  have e2 : 2 ^ (k + 1 + j) = 2 ^ k * (2 * 2 ^ j) := by rw [Nat.pow_add, Nat.pow_succ, Nat.mul_assoc]
  have q1 : x / 2 ^ k < 2 * 2 ^ j := Nat.div_lt_of_lt_mul (by rw [← e2]; exact hx)
  have q2 : (x + 2 ^ k) / 2 ^ k = x / 2 ^ k + 1 := Nat.add_div_right _ hp
  have q3 : (x + 2 ^ k) / 2 ^ k < 2 * 2 ^ j := by omega
  rw [e2]
  exact Nat.lt_of_lt_of_eq ((Nat.div_lt_iff_lt_mul hp).mp q3) (Nat.mul_comm _ _)
theorem bit_add {k x : Nat} (c : x.testBit k = false) : (x + 2 ^ k).testBit k = true := by
  rw [Nat.add_comm, Nat.testBit_two_pow_add_eq, c]
  rfl
theorem bit_ge {k x : Nat} (c : x.testBit k = true) : 2 ^ k ≤ x := Nat.ge_two_pow_of_testBit c
/-- without that bit -/
def clr (k x : Nat) : Nat := if x.testBit k = true then x - 2 ^ k else x
theorem clr_le (k x : Nat) : clr k x ≤ x := by
  unfold clr
  split
  · exact Nat.sub_le _ _
  · exact Nat.le_refl _
theorem clr_bit (k x : Nat) : (clr k x).testBit k = false := by
  unfold clr
  by_cases c : x.testBit k = true
  · rw [if_pos c]
    have h := bit_ge c
    obtain ⟨y, rfl⟩ : ∃ y, x = 2 ^ k + y := ⟨x - 2 ^ k, by omega⟩
    rw [Nat.add_sub_cancel_left]
    rw [Nat.testBit_two_pow_add_eq] at c
    simpa using c
  · rw [if_neg c]
    simpa using c
theorem clr_at {k x a : Nat} (c : a.testBit k = false) : clr k x = a ↔ x = a ∨ x = a + 2 ^ k := by
  unfold clr
  by_cases d : x.testBit k = true
  · rw [if_pos d]
    have h := bit_ge d
    constructor
    · intro e
      exact .inr (by omega)
    · rintro (e | e)
      · rw [e, c] at d
        cases d
      · omega
  · rw [if_neg d]
    constructor
    · exact .inl
    · rintro (e | e)
      · exact e
      · rw [e, bit_add c] at d
        exact absurd rfl d
def turnL (f : Nat → Int) (k a N : Nat) : List Int := (List.range N).map fun x => if clr k x < a then turnT f (k + 1) x else turnT f k x
def turnA (f : Nat → Int) (k N : Nat) : List Int := (List.range N).map (turnT f k)
theorem turnL_len (f : Nat → Int) (k a N : Nat) : (turnL f k a N).length = N := by
  unfold turnL
  rw [List.length_map, List.length_range]
theorem turnA_len (f : Nat → Int) (k N : Nat) : (turnA f k N).length = N := by
  unfold turnA
  rw [List.length_map, List.length_range]
theorem turnL_zero (f : Nat → Int) (k N : Nat) : turnL f k 0 N = turnA f k N :=
  List.map_congr_left fun x _ => if_neg (Nat.not_lt_zero _)
theorem turnL_all (f : Nat → Int) (k N : Nat) : turnL f k N N = turnA f (k + 1) N :=
  List.map_congr_left fun x hx => if_pos (Nat.lt_of_le_of_lt (clr_le k x) (List.mem_range.mp hx))
theorem turnL_skip {f : Nat → Int} {k a N : Nat} (c : a.testBit k = true) : turnL f k (a + 1) N = turnL f k a N :=
  List.map_congr_left fun x _ => by
    have hne : clr k x ≠ a := fun e => by
      have := clr_bit k x
      rw [e, c] at this
      cases this
    by_cases h : clr k x < a
    · rw [if_pos h, if_pos (by omega)]
    · rw [if_neg h, if_neg (by omega)]
theorem turnL_get {f : Nat → Int} {k a N x : Nat} (hx : x < N) : (turnL f k a N)[x]? = some (if clr k x < a then turnT f (k + 1) x else turnT f k x) := by
  unfold turnL
  rw [List.getElem?_map, List.getElem?_range hx]
  rfl
theorem turnL_one {f : Nat → Int} {k a N : Nat} (c : a.testBit k = false) (h : a < N) : (turnL f k a N)[a]? = some (turnT f k a) := by
  rw [turnL_get h, if_neg]
  rw [(clr_at c).mpr (.inl rfl)]
  exact Nat.lt_irrefl _
theorem turnL_two {f : Nat → Int} {k a N : Nat} (c : a.testBit k = false) (h : a + 2 ^ k < N) : (turnL f k a N)[a + 2 ^ k]? = some (turnT f k (a + 2 ^ k)) := by
  rw [turnL_get h, if_neg]
  rw [(clr_at c).mpr (.inr rfl)]
  exact Nat.lt_irrefl _
theorem turnL_step {f : Nat → Int} {k a N : Nat} (c : a.testBit k = false) (h : a + 2 ^ k < N) : ((turnL f k a N).set a (turnT f k a + turnT f k (a + 2 ^ k))).set (a + 2 ^ k) (turnT f k a - turnT f k (a + 2 ^ k)) = turnL f k (a + 1) N := by
  apply List.ext_getElem?
  intro i
  have hp : 0 < 2 ^ k := Nat.two_pow_pos k
  by_cases hi : i < N
  · rw [List.getElem?_set, List.getElem?_set, turnL_get hi, turnL_get hi]
    simp only [List.length_set, turnL_len]
    by_cases e1 : i = a + 2 ^ k
    · subst e1
      rw [if_pos rfl, if_pos h, if_pos (by rw [(clr_at c).mpr (.inr rfl)]; omega)]
      show _ = some (if (a + 2 ^ k).testBit k = true then _ else _)
      rw [if_pos (bit_add c), Nat.add_sub_cancel]
    · rw [if_neg (fun z => e1 z.symm)]
      by_cases e2 : i = a
      · subst e2
        rw [if_pos rfl, if_pos (by omega), if_pos (by rw [(clr_at c).mpr (.inl rfl)]; omega)]
        show _ = some (if i.testBit k = true then _ else _)
        rw [if_neg (by rw [c]; decide)]
      · rw [if_neg (fun z => e2 z.symm)]
        have hne : clr k i ≠ a := fun e => by
          rcases (clr_at c).mp e with e | e
          · exact e2 e
          · exact e1 e
        by_cases hc : clr k i < a
        · rw [if_pos hc, if_pos (by omega)]
        · rw [if_neg hc, if_neg (by omega)]
  · rw [List.getElem?_eq_none (by rw [List.length_set, List.length_set, turnL_len]; omega), List.getElem?_eq_none (by rw [turnL_len]; omega)]
/-! ### the counts of all values, laid place by place -/
section
variable {w W : Nat} (C : Ck w W)
def cntJ (w W n j v : Nat) : Int := if v ∈ pws w W j then (cnt (pws w W n) v : Int) else 0
def cntL (w W n j : Nat) : List Int := (List.range (2 ^ w)).map (cntJ w W n j)
theorem cntL_zero (n : Nat) : cntL w W n 0 = List.replicate (2 ^ w) 0 := by
  unfold cntL
  have e : (List.range (2 ^ w)).map (cntJ w W n 0) = (List.range (2 ^ w)).map fun _ => (0 : Int) := List.map_congr_left fun v _ => if_neg (fun z => nomatch z)
  rw [e, List.map_const', List.length_range]
theorem cntL_len (n j : Nat) : (cntL w W n j).length = 2 ^ w := by
  unfold cntL
  rw [List.length_map, List.length_range]
include C
theorem cntL_step {d : Nat} (O : IsOrder w W d) {j : Nat} (hj : j < d) (n : Nat) : (cntL w W n j).set (pw w W j) (((n / d : Nat) : Int) + (if j < n % d then 1 else 0)) = cntL w W n (j + 1) := by
  have hv := pw_lt C j
  have e : (((n / d : Nat) : Int) + (if j < n % d then 1 else 0)) = (cnt (pws w W n) (pw w W j) : Int) := by
    rw [cnt_pws C O hj]
    split <;> rfl
  rw [e]
  apply List.ext_getElem?
  intro i
  by_cases hi : i < 2 ^ w
  · rw [List.getElem?_set]
    have g : ∀ j, (cntL w W n j)[i]? = some (cntJ w W n j i) := fun j => by
      unfold cntL
      rw [List.getElem?_map, List.getElem?_range hi]
      rfl
    rw [g, g, cntL_len]
    have hm : i ∈ pws w W (j + 1) ↔ i ∈ pws w W j ∨ i = pw w W j := by
      rw [pws_succ, List.mem_append, List.mem_singleton]
    by_cases c : pw w W j = i
    · subst c
      rw [if_pos rfl, if_pos hv]
      unfold cntJ
      rw [if_pos (hm.mpr (.inr rfl))]
    · rw [if_neg c]
      unfold cntJ
      by_cases h : i ∈ pws w W j
      · rw [if_pos h, if_pos (hm.mpr (.inl h))]
      · rw [if_neg h, if_neg (fun z => by rcases hm.mp z with z | z; exact h z; exact c z.symm)]
  · rw [List.getElem?_eq_none (by rw [List.length_set, cntL_len]; omega), List.getElem?_eq_none (by rw [cntL_len]; omega)]
theorem cntL_all {d : Nat} (O : IsOrder w W d) (n : Nat) : cntL w W n d = turnA (fun v => (cnt (pws w W n) v : Int)) 0 (2 ^ w) :=
  List.map_congr_left fun v _ => by
    show cntJ w W n d v = (cnt (pws w W n) v : Int)
    unfold cntJ
    by_cases h : v ∈ pws w W d
    · rw [if_pos h]
    · rw [if_neg h, cnt_none C O (fun a ha z => h ?_) n]
      · rfl
      · rw [← z]
        exact List.mem_map.mpr ⟨a, List.mem_range.mpr ha, rfl⟩
theorem turn_pws {m : Nat} (hm : m < 2 ^ w) (n : Nat) : turnT (fun v => (cnt (pws w W n) v : Int)) w m = (n : Int) - 2 * (mi w m (pws w W n) : Int) := by
  rw [turn_cnt hm (pws_lt C n), sumX_mi, pws_len]
end
end My

namespace My
open PySem PySem.Spec PyProof.Rows L2 Pre
/-! ### dicts of whole numbers -/
def kvD (D : List (Int × Int)) : List (Key × V) := D.map fun p => (.inl p.1, .int p.2)
def getI (D : List (Int × Int)) (k : Int) : Option Int := (D.find? fun p => decide (p.1 = k)).map (·.2)
def putI (D : List (Int × Int)) (k v : Int) : List (Int × Int) := if (D.any fun p => decide (p.1 = k)) = true then D.map (fun p => if p.1 = k then (p.1, v) else p) else D ++ [(k, v)]
def bump (D : List (Int × Int)) (k x : Int) : List (Int × Int) := putI D k ((getI D k).getD 0 + x)
theorem val_kvD (k : Int) : ∀ D : List (Int × Int), valV (kvD D) (.inl k) = (getI D k).map V.int
  | [] => rfl
  | p :: D => by
    show valV ((.inl p.1, .int p.2) :: kvD D) (.inl k) = _
    by_cases h : p.1 = k
    · rw [valV_pos (show ((Sum.inl p.1 : Key), V.int p.2).1 = .inl k by rw [h])]
      unfold getI
      rw [List.find?_cons, show decide (p.1 = k) = true from decide_eq_true h]
      rfl
    · rw [valV_neg (show ¬ ((Sum.inl p.1 : Key), V.int p.2).1 = .inl k from fun z => h (Sum.inl.inj z)), val_kvD k D]
      unfold getI
      rw [List.find?_cons, show decide (p.1 = k) = false from decide_eq_false h]
theorem any_kvD (k : Int) (D : List (Int × Int)) : ((kvD D).any fun kv => decide (kv.1 = (.inl k : Key))) = D.any fun p => decide (p.1 = k) := by
  unfold kvD
  rw [List.any_map]
  congr 1
  funext p
  show decide ((Sum.inl p.1 : Key) = .inl k) = _
  by_cases h : p.1 = k
  · rw [decide_eq_true h, decide_eq_true (by rw [h])]
  · rw [decide_eq_false h, decide_eq_false (fun z => h (Sum.inl.inj z))]
theorem put_kvD (D : List (Int × Int)) (k v : Int) : putK (kvD D) (.inl k) (.int v) = kvD (putI D k v) := by
  unfold putK putI
  rw [any_kvD]
  split
  · unfold kvD
    rw [List.map_map, List.map_map]
    congr 1
    funext p
    show (if (Sum.inl p.1 : Key) = .inl k then ((Sum.inl p.1 : Key), V.int v) else (.inl p.1, .int p.2)) = (fun p : Int × Int => ((Sum.inl p.1 : Key), V.int p.2)) (if p.1 = k then (p.1, v) else p)
    by_cases h : p.1 = k
    · rw [if_pos h, if_pos (by rw [h])]
    · rw [if_neg h, if_neg (fun z => h (Sum.inl.inj z))]
  · unfold kvD
    rw [List.map_append]
    rfl
theorem kvD_len (D : List (Int × Int)) : (kvD D).length = D.length := List.length_map ..
theorem put_len (D : List (Int × Int)) (k v : Int) : (putI D k v).length ≤ D.length + 1 := by
  unfold putI
  split
  · rw [List.length_map]
    exact Nat.le_succ _
  · rw [List.length_append]
    exact Nat.le_refl _
theorem bump_len (D : List (Int × Int)) (k x : Int) : (bump D k x).length ≤ D.length + 1 := put_len ..
theorem vals_kvD (D : List (Int × Int)) : (kvD D).map (·.2) = (D.map (·.2)).map V.int := by
  unfold kvD
  rw [List.map_map, List.map_map]
  rfl
theorem getI_map (D : List (Int × Int)) (k : Int) : (valV (kvD D) (.inl k)).getD (V.int 0) = V.int ((getI D k).getD 0) := by
  rw [val_kvD]
  cases getI D k <;> rfl
end My

namespace My
/-! ### dicts that count -/
def sumP (g : Int → Int) (D : List (Int × Int)) : Int := (D.map fun p => p.2 * g p.1).sum
def KND (D : List (Int × Int)) : Prop := (D.map (·.1)).Nodup
def bumpR (k x : Int) : List (Int × Int) → List (Int × Int)
  | [] => [(k, x)]
  | p :: D => if p.1 = k then (k, p.2 + x) :: D else p :: bumpR k x D
theorem getI_cons (p : Int × Int) (D : List (Int × Int)) (k : Int) : getI (p :: D) k = if p.1 = k then some p.2 else getI D k := by
  unfold getI
  rw [List.find?_cons]
  by_cases h : p.1 = k
  · rw [decide_eq_true h, if_pos h]
    rfl
  · rw [decide_eq_false h, if_neg h]
theorem getI_mem {k v : Int} : ∀ {D : List (Int × Int)}, KND D → (k, v) ∈ D → getI D k = some v
  | p :: D, hn, hm => by
    have hn' := List.nodup_cons.mp (show (p.1 :: D.map (·.1)).Nodup from hn)
    rw [getI_cons]
    rcases List.mem_cons.mp hm with h | h
    · subst h
      exact if_pos rfl
    · rw [if_neg fun z => hn'.1 (by rw [z]; exact List.mem_map.mpr ⟨_, h, rfl⟩)]
      exact getI_mem hn'.2 h
theorem put_head {p : Int × Int} {D : List (Int × Int)} {k v : Int} (h : ¬ p.1 = k) : putI (p :: D) k v = p :: putI D k v := by
  unfold putI
  rw [List.any_cons, decide_eq_false h, Bool.false_or]
  split
  · rw [List.map_cons, if_neg h]
  · rfl
theorem bump_R (k x : Int) : ∀ {D : List (Int × Int)}, KND D → bump D k x = bumpR k x D
  | [], _ => by
    show [(k, 0 + x)] = [(k, x)]
    rw [Int.zero_add]
  | p :: D, hn => by
    have hn' := List.nodup_cons.mp (show (p.1 :: D.map (·.1)).Nodup from hn)
    unfold bump
    rw [getI_cons]
    show _ = if p.1 = k then _ else _
    by_cases h : p.1 = k
    · rw [if_pos h, if_pos h]
      unfold putI
      rw [List.any_cons, decide_eq_true h, Bool.true_or, if_pos rfl, List.map_cons, if_pos h]
      have e : (D.map fun q => if q.1 = k then (q.1, (some p.2).getD 0 + x) else q) = D := by
        refine (List.map_congr_left (g := id) fun q hq => ?_).trans (List.map_id _)
        exact if_neg fun (z : q.1 = k) => hn'.1 (by rw [h, ← z]; exact List.mem_map.mpr ⟨_, hq, rfl⟩)
      rw [e, h]
      rfl
    · rw [if_neg h, if_neg h, put_head h]
      congr 1
      exact bump_R k x hn'.2
theorem bumpR_keys (k x : Int) : ∀ (D : List (Int × Int)) (q : Int), q ∈ (bumpR k x D).map (·.1) ↔ q ∈ D.map (·.1) ∨ q = k
  | [], q => by
    show q ∈ [k] ↔ q ∈ [] ∨ q = k
    simp
  | p :: D, q => by
    unfold bumpR
    by_cases h : p.1 = k
    · rw [if_pos h]
      show q ∈ k :: D.map (·.1) ↔ q ∈ p.1 :: D.map (·.1) ∨ q = k
      rw [h]
      simp only [List.mem_cons]
      constructor
      · exact .inl
      · rintro (h | h)
        · exact h
        · exact .inl h
    · rw [if_neg h]
      show q ∈ p.1 :: (bumpR k x D).map (·.1) ↔ q ∈ p.1 :: D.map (·.1) ∨ q = k
      rw [List.mem_cons, List.mem_cons, bumpR_keys k x D q, or_assoc]
theorem bumpR_nd (k x : Int) : ∀ {D : List (Int × Int)}, KND D → KND (bumpR k x D)
  | [], _ => by
    show [k].Nodup
    simp
  | p :: D, hn => by
    have hn' := List.nodup_cons.mp (show (p.1 :: D.map (·.1)).Nodup from hn)
    unfold bumpR
    by_cases h : p.1 = k
    · rw [if_pos h]
      show (k :: D.map (·.1)).Nodup
      rw [← h]
      exact hn
    · rw [if_neg h]
      show (p.1 :: (bumpR k x D).map (·.1)).Nodup
      refine List.nodup_cons.mpr ⟨fun z => ?_, bumpR_nd k x hn'.2⟩
      rcases (bumpR_keys k x D p.1).mp z with z | z
      · exact hn'.1 z
      · exact h z
theorem bumpR_sum (g : Int → Int) (k x : Int) : ∀ D : List (Int × Int), sumP g (bumpR k x D) = sumP g D + x * g k
  | [] => by
    show x * g k + 0 = 0 + x * g k
    omega
  | p :: D => by
    unfold bumpR
    by_cases h : p.1 = k
    · rw [if_pos h]
      show (p.2 + x) * g k + sumP g D = (p.2 * g p.1 + sumP g D) + x * g k
      rw [h, Int.add_mul]
      omega
    · rw [if_neg h]
      show p.2 * g p.1 + sumP g (bumpR k x D) = (p.2 * g p.1 + sumP g D) + x * g k
      rw [bumpR_sum g k x D]
      omega
theorem bumpR_all {R0 R : Int → Int → Prop} {k x : Int} (hm : ∀ a b, R0 a b → R a b) (hs : ∀ v, R0 k v → R k (v + x)) (h0 : R k x) : ∀ {D : List (Int × Int)}, (∀ p ∈ D, R0 p.1 p.2) → ∀ p ∈ bumpR k x D, R p.1 p.2
  | [], _, p, hp => by
    rw [List.mem_singleton.mp (show p ∈ [(k, x)] from hp)]
    exact h0
  | q :: D, hD, p, hp => by
    unfold bumpR at hp
    by_cases h : q.1 = k
    · rw [if_pos h] at hp
      rcases List.mem_cons.mp hp with h' | h'
      · rw [h']
        have := hD q List.mem_cons_self
        rw [h] at this
        exact hs _ this
      · exact hm _ _ (hD p (List.mem_cons_of_mem _ h'))
    · rw [if_neg h] at hp
      rcases List.mem_cons.mp hp with h' | h'
      · rw [h']
        exact hm _ _ (hD q List.mem_cons_self)
      · exact bumpR_all hm hs h0 (fun p hp => hD p (List.mem_cons_of_mem _ hp)) p h'
/-- so many with each number -/
def booksD (o : Nat → Nat) : Nat → List (Int × Int)
  | 0 => []
  | n + 1 => bump (booksD o n) (o n : Int) 1
theorem books_nd (o : Nat → Nat) : ∀ n, KND (booksD o n)
  | 0 => List.nodup_nil
  | n + 1 => by
    show KND (bump _ _ _)
    rw [bump_R _ _ (books_nd o n)]
    exact bumpR_nd _ _ (books_nd o n)
theorem books_sum (o : Nat → Nat) (g : Int → Int) : ∀ n, sumP g (booksD o n) = sg n fun m => g (o m : Int)
  | 0 => rfl
  | n + 1 => by
    show sumP g (bump _ _ _) = sg n _ + g (o n : Int)
    rw [bump_R _ _ (books_nd o n), bumpR_sum, books_sum o g n, Int.one_mul]
theorem books_bnd (o : Nat → Nat) {N : Nat} (h : ∀ m, o m ≤ N) : ∀ n, ∀ p ∈ booksD o n, (∃ a : Nat, a ≤ N ∧ p.1 = (a : Int)) ∧ 0 ≤ p.2 ∧ p.2 ≤ (n : Int)
  | 0, p, hp => nomatch hp
  | n + 1, p, hp => by
    change p ∈ bump _ _ _ at hp
    rw [bump_R _ _ (books_nd o n)] at hp
    exact bumpR_all (R0 := fun a b => (∃ x : Nat, x ≤ N ∧ a = (x : Int)) ∧ 0 ≤ b ∧ b ≤ (n : Int)) (R := fun a b => (∃ x : Nat, x ≤ N ∧ a = (x : Int)) ∧ 0 ≤ b ∧ b ≤ ((n + 1 : Nat) : Int)) (fun a b ⟨h1, h2, h3⟩ => ⟨h1, h2, by omega⟩) (fun v ⟨h1, h2, h3⟩ => ⟨h1, by omega, by omega⟩) ⟨⟨_, h n, rfl⟩, by decide, by omega⟩ (books_bnd o h n) p hp
theorem books_get (o : Nat → Nat) (n : Nat) {p : Int × Int} (h : p ∈ booksD o n) : getI (booksD o n) p.1 = some p.2 := getI_mem (books_nd o n) h
end My

namespace My
open PySem PySem.Spec PyProof.Rows L2 Pre
theorem mulX_ok {i j : Int} {a b : Nat} (hi : i.natAbs < 2 ^ a) (hj : j.natAbs < 2 ^ b) (h : a + b ≤ 100000) : CMulX i j := by
  have x := PyProof.Rows.intBits_le hi
  have y := PyProof.Rows.intBits_le hj
  unfold CMulX
  omega
theorem sum_sg (f : Nat → Int) : ∀ n : Nat, ((List.range n).map f).sum = sg n f
  | 0 => rfl
  | n + 1 => by
    rw [List.range_succ, List.map_append, List.sum_append, sum_sg f n]
    show _ + (f n + 0) = sg n f + f n
    rw [Int.add_zero]
theorem choose_lt {n k : Nat} (hn : n ≤ 10 ^ 18) (hk : k ≤ 8) : ((choose n k : Nat) : Int).natAbs < 2 ^ 500 := by
  rw [Int.natAbs_natCast]
  refine Nat.lt_of_le_of_lt (choose_le n k) (Nat.lt_of_le_of_lt (Nat.pow_le_pow_left (show n + 1 ≤ 10 ^ 18 + 1 by omega) k) (Nat.lt_of_le_of_lt (Nat.pow_le_pow_right (by decide) hk) (by decide)))
theorem pm_lt (i : Nat) : (pm i).natAbs < 2 ^ 2 := by
  unfold pm
  split <;> decide
theorem and_pow (x k : Nat) : Builtin.bitAnd (x : Int) ((2 ^ k : Nat) : Int) = (((x.testBit k).toNat * 2 ^ k : Nat) : Int) := by
  have e : x &&& 2 ^ k = (x.testBit k).toNat * 2 ^ k := by
    apply Nat.eq_of_testBit_eq
    intro i
    rw [Nat.testBit_and]
    by_cases h : k = i
    · subst h
      rw [Nat.testBit_two_pow_self, Bool.and_true]
      cases x.testBit k
      · rw [Bool.toNat_false, Nat.zero_mul, Nat.zero_testBit]
      · rw [Bool.toNat_true, Nat.one_mul, Nat.testBit_two_pow_self]
    · rw [Nat.testBit_two_pow_of_ne h, Bool.and_false]
      cases x.testBit k
      · rw [Bool.toNat_false, Nat.zero_mul, Nat.zero_testBit]
      · rw [Bool.toNat_true, Nat.one_mul, Nat.testBit_two_pow_of_ne h]
  rw [show Builtin.bitAnd (x : Int) ((2 ^ k : Nat) : Int) = ((x &&& 2 ^ k : Nat) : Int) from rfl, e]
local macro_rules | `(tactic| walk_at "go") => `(tactic| repeat (first | (with_reducible first | refine iteT ?_ | refine iteF ?_ | refine iteNtt ?_ | refine iteNff ?_ | refine iteET (by omega) ?_ | refine iteEF (by omega) ?_ | refine iteENT (by omega) ?_ | refine iteENF (by omega) ?_ | refine iteDT (by omega) ?_ | refine iteDF (by omega) ?_ | refine iteNT (by omega) ?_ | refine iteNF (by omega) ?_) | refine ⟨_, rfl, ?_⟩ | refine ⟨_, _, rfl, rfl, ?_⟩ | refine ⟨_, _, rfl, ?_⟩ | refine ⟨rfl, ?_⟩ | refine .inl ⟨_, rfl, ?_⟩ | refine .inr ⟨_, rfl, ?_⟩))
local macro_rules | `(tactic| walk_at "b") => `(tactic| try dsimp (config := { proj := false, iota := false, eta := false, zeta := false }) only)
section
variable {P : Program} {w : World} {K : PySem.W.Frag} {mg : Str → Option Value} {base : Heap}
def sp_sets_of : Sp := fun vs H Q _ => ∃ n k : Nat, vs = [.int n, .int k] ∧ n ≤ 10 ^ 18 ∧ k ≤ 8 ∧ Q (.int (choose n k)) H
theorem G_sets_of (T : Top K mg) : FnOk P w K mg base CX0 1 T.f_sets_of T.fd_sets_of ["many", "few"] sp_sets_of := by
  refine T.F_sets_of.ok sc_sets_of (fun vs H Q E h => by obtain ⟨n, k, rfl, _⟩ := h; rfl) (fun cdv A outer s H vs Q E hr h => ?_)
  obtain ⟨n, k, rfl, hn, hk, q⟩ := h
  refine ⟨_, PSs.nox (pss_cons (ps_set (i := 2) sc_sets_of.nd rfl (by first | exact Or.inl rfl | exact Or.inr rfl) pe_int)
  (pss_cons (ps_for PassesOwn.never rfl (pi_range1 (by rfl) T.n_range (pa_cons (pv 1) pa_nil)) (pg_name (i := 3) sc_sets_of.nd rfl (by first | exact Or.inl rfl | exact Or.inr rfl))
    (pss_one (ps_set (i := 2) sc_sets_of.nd rfl (by first | exact Or.inl rfl | exact Or.inr rfl) (pe_op op_fdivW (pe_op op_mul (pv 2) (pe_op op_sub (pv 0) (pv 3))) (pe_op op_add (pv 3) pe_int)))))
  (pss_one (ps_ret (pv 2))))), ?_⟩
  walk_at "go"
  refine ⟨by omega, by omega, ?_⟩
  rw [Int.toNat_natCast]
  walk_at "b"
  refine for_range (lo := 0) (n := k) (fun i σ H1 => ∃ v3 : Option V, σ = [some (.int n), some (.int k), some (.int (choose n i)), v3] ∧ H1 = H) ⟨none, by rw [choose_zero]; rfl, rfl⟩ ?_ ?_
  · rintro i σ H1 hi ⟨v3, rfl, rfl⟩
    rw [Int.zero_add]
    walk_at "go"
    refine ⟨.inr ⟨by omega, by omega⟩, ?_⟩
    walk_at "go"
    refine ⟨wide_div (b := 60) (by omega) (by omega) (by decide) (by decide), ?_⟩
    walk_at "b"
    rw [choose_next]
    exact ⟨_, rfl, rfl⟩
  · rintro σ H1 ⟨v3, rfl, rfl⟩
    walk_at "go"
    exact q
def sp_raised : Sp := fun vs H Q _ => ∃ (b : Int) (k : Nat), vs = [.int b, .int k] ∧ -1000 ≤ b ∧ b ≤ 1000 ∧ k ≤ 60 ∧ Q (.int (b ^ k)) H
theorem G_raised (T : Top K mg) : FnOk P w K mg base CX0 1 T.f_raised T.fd_raised ["base", "many"] sp_raised := by
  refine T.F_raised.ok sc_raised (fun vs H Q E h => by obtain ⟨b, k, rfl, _⟩ := h; rfl) (fun cdv A outer s H vs Q E hr h => ?_)
  obtain ⟨b, k, rfl, hb1, hb2, hk, q⟩ := h
  refine ⟨_, PSs.nox (pss_cons (ps_set (i := 2) sc_raised.nd rfl (by first | exact Or.inl rfl | exact Or.inr rfl) pe_int)
  (pss_cons (ps_for PassesOwn.never rfl (pi_range1 (by rfl) T.n_range (pa_cons (pv 1) pa_nil)) (pg_name (i := 3) sc_raised.nd rfl (by first | exact Or.inl rfl | exact Or.inr rfl))
    (pss_one (ps_set (i := 2) sc_raised.nd rfl (by first | exact Or.inl rfl | exact Or.inr rfl) (pe_op op_mul (pv 2) (pv 0)))))
  (pss_one (ps_ret (pv 2))))), ?_⟩
  walk_at "go"
  refine ⟨by omega, by omega, ?_⟩
  rw [Int.toNat_natCast]
  walk_at "b"
  refine for_range (lo := 0) (n := k) (fun i σ H1 => ∃ v3 : Option V, σ = [some (.int b), some (.int k), some (.int (b ^ i)), v3] ∧ H1 = H) ⟨none, by rw [Int.pow_zero]; rfl, rfl⟩ ?_ ?_
  · rintro i σ H1 hi ⟨v3, rfl, rfl⟩
    rw [Int.zero_add]
    walk_at "go"
    refine ⟨.inr ⟨by omega, by omega⟩, ?_⟩
    exact ⟨_, by rw [Int.pow_succ]; rfl, rfl⟩
  · rintro σ H1 ⟨v3, rfl, rfl⟩
    walk_at "go"
    exact q
def sp_law_raised : Sp := fun vs H Q _ => ∃ (b : Int) (k : Nat), vs = [.int b, .int k] ∧ -1000 ≤ b ∧ b ≤ 1000 ∧ k ≤ 60 ∧ Q (.int (b ^ k)) H
theorem G_law_raised (T : Top K mg) : FnOk P w K mg base CX0 1 T.f_law_raised T.fd_law_raised ["_law_base", "_law_many"] sp_law_raised := by
  refine T.F_law_raised.ok sc_law_raised (fun vs H Q E h => by obtain ⟨b, k, rfl, _⟩ := h; rfl) (fun cdv A outer s H vs Q E hr h => ?_)
  obtain ⟨b, k, rfl, hb1, hb2, hk, q⟩ := h
  refine ⟨_, PSs.nox (pss_cons (ps_set (i := 2) sc_law_raised.nd rfl (by first | exact Or.inl rfl | exact Or.inr rfl) pe_int)
  (pss_cons (ps_for PassesOwn.never rfl (pi_range1 (by rfl) T.n_range (pa_cons (pv 1) pa_nil)) (pg_name (i := 3) sc_law_raised.nd rfl (by first | exact Or.inl rfl | exact Or.inr rfl))
    (pss_one (ps_set (i := 2) sc_law_raised.nd rfl (by first | exact Or.inl rfl | exact Or.inr rfl) (pe_op op_mul (pv 2) (pv 0)))))
  (pss_one (ps_ret (pv 2))))), ?_⟩
  walk_at "go"
  refine ⟨by omega, by omega, ?_⟩
  rw [Int.toNat_natCast]
  walk_at "b"
  refine for_range (lo := 0) (n := k) (fun i σ H1 => ∃ v3 : Option V, σ = [some (.int b), some (.int k), some (.int (b ^ i)), v3] ∧ H1 = H) ⟨none, by rw [Int.pow_zero]; rfl, rfl⟩ ?_ ?_
  · rintro i σ H1 hi ⟨v3, rfl, rfl⟩
    rw [Int.zero_add]
    walk_at "go"
    refine ⟨.inr ⟨by omega, by omega⟩, ?_⟩
    exact ⟨_, by rw [Int.pow_succ]; rfl, rfl⟩
  · rintro σ H1 ⟨v3, rfl, rfl⟩
    walk_at "go"
    exact q
def sp_signed_sets : Sp := fun vs H Q _ => ∃ n o f : Nat, vs = [.int n, .int o, .int f] ∧ n ≤ 10 ^ 18 ∧ o ≤ n ∧ f ≤ 8 ∧ ∀ H', Same H H' → Q (.int (sset (n - o) o f)) H'
theorem G_signed_sets (T : Top K mg) : FnOk P w K mg base CX0 2 T.f_signed_sets T.fd_signed_sets ["many", "ones", "few"] sp_signed_sets := by
  refine T.F_signed_sets.ok sc_signed_sets (fun vs H Q E h => by obtain ⟨n, o, f, rfl, _⟩ := h; rfl) (fun cdv A outer s H vs Q E hr h => ?_)
  obtain ⟨n, o, f, rfl, hn, ho, hf, q⟩ := h
  refine ⟨_, PSs.nox (pss_one (ps_ret (pe_callB (k_sum K rfl rfl) (by rfl) T.n_sum (by decide +kernel) (pa_cons (pe_lc (own := [("at", 3)]) (g := gName 3) (tt := tYes) (by rfl) sc_signed_sets.nd (pi_range1 (by rfl) T.n_range (pa_cons (pe_op op_add (pv 2) pe_int) pa_nil)) (blkOk_by (own := [("at", 3)]) (N := N_signed_sets) (sc := defScope s_signed_sets) (by decide +kernel)) (fun _ _ _ _ _ => (pg_name (i := 3) sc_signed_sets.nd rfl (by first | exact Or.inl rfl | exact Or.inr rfl))) (fun _ _ _ _ _ => pts_nil) (fun _ _ _ _ _ => (pe_op op_mulX (pe_op op_mulX (pe_ix (k_ixL K rfl) (pe_lst (pa_cons pe_int (pa_cons (pe_un un_neg pe_int) pa_nil))) (pe_op op_mod (pv 3) pe_int) (fun _ _ => rfl)) (pe_call (G_sets_of T) (hr.mono (by decide)) (by rfl) T.g_sets_of T.F_sets_of.kp T.b_sets_of .nil pass0 (pa_cons (pv 1) (pa_cons (pv 3) pa_nil)))) (pe_call (G_sets_of T) (hr.mono (by decide)) (by rfl) T.g_sets_of T.F_sets_of.kp T.b_sets_of .nil pass0 (pa_cons (pe_op op_sub (pv 0) (pv 1)) (pa_cons (pe_op op_sub (pv 2) (pv 3)) pa_nil)))))) pa_nil)))), ?_⟩
  walk_at "go"
  refine ⟨by omega, by omega, fun D nD => ?_⟩
  rw [show ((f : Int) + 1).toNat = f + 1 by omega]
  refine lc_mapR (lo := 0) (n := f + 1) ((List.range (f + 1)).map fun i => V.int (pm i * (choose o i : Int) * (choose (n - o) (f - i) : Int))) nD (by rw [List.length_map, List.length_range]) (small1000' (by omega)) ?_ ?_ ?_
  · exact fun x => rfl
  · intro i y H' hi hy s Qt qt
    rw [List.getElem?_map, List.getElem?_range hi] at hy
    cases hy
    rw [Int.zero_add]
    refine ⟨_, rfl, (show 2 ≤ sizeLine by decide), fun p np => ?_⟩
    obtain ⟨H1, e1, s1, h1⟩ := fresh (.lst [V.int 1, V.int (-1)]) np
    rw [e1]
    have e2 : atI [V.int 1, V.int (-1)] ((i : Int) % 2) = some (.int (pm i)) := by
      unfold pm
      by_cases c : i % 2 = 0
      · rw [if_pos c, show (i : Int) % 2 = ((0 : Nat) : Int) by omega]
        exact atI_nat rfl
      · rw [if_neg c, show (i : Int) % 2 = ((1 : Nat) : Int) by omega]
        exact atI_nat rfl
    have c1 := choose_lt (n := o) (k := i) (by omega) (by omega)
    have c2 := choose_lt (n := n - o) (k := f - i) (by omega) (by omega)
    walk_at "go"
    refine ⟨(by show (0 : Int) < 2; decide), p, _, _, _, rfl, rfl, .inl (.inl h1), e2, ?_⟩
    walk_at "go"
    refine ⟨by omega, by omega, ?_⟩
    refine ⟨_, _, rfl, rfl, mulX_ok (pm_lt i) c1 (by decide), ?_⟩
    walk_at "go"
    refine ⟨n - o, f - i, by show [V.int ((n : Int) - (o : Int)), V.int ((f : Int) - (i : Int))] = _; rw [show ((n : Int) - (o : Int)) = ((n - o : Nat) : Int) by omega, show ((f : Int) - (i : Int)) = ((f - i : Nat) : Int) by omega], by omega, by omega, ?_⟩
    refine ⟨_, _, rfl, rfl, mulX_ok (wide_lt (pm_lt i) c1) c2 (by decide), ?_⟩
    exact qt _ s1
  · intro H1 s1 h1
    refine ⟨D, (List.range (f + 1)).map fun i => (pm i * (choose o i : Int) * (choose (n - o) (f - i) : Int)), rfl, .inl (.inl (by rw [h1, List.map_map]; rfl)), ?_⟩
    rw [sum_sg]
    exact q _ s1
def sp_check_counted (C : Addr) : Sp := fun vs H Q _ => ∃ (a : Addr) (wd W : Nat), vs = [.ref a] ∧ CheckAt C H a wd W ∧ wd ≤ 8 ∧ Q .non H
theorem G_check_counted (T : Top K mg) : FnOk P w K mg base CX0 2 T.f_check_counted T.fd_check_counted ["check"] (sp_check_counted T.C_Check) := by
  refine T.F_check_counted.ok sc_check_counted (fun vs H Q E h => by obtain ⟨a, wd, W, rfl, _⟩ := h; rfl) (fun cdv A outer s H vs Q E hr h => ?_)
  obtain ⟨a, wd, W, rfl, hC, hw, q⟩ := h
  refine ⟨_, PSs.nox (pss_cons (ps_expr (pe_call (G_check_check T) (hr.mono (by decide)) (by rfl) T.g_check_check T.F_check_check.kp T.b_check_check .nil pass0 (pa_cons (pv 0) pa_nil)))
  (pss_one (ps_if (pt_cmpR op_gt (pe_fld (pv 0) rfl) (pe_glob (v := .int 10) rfl T.m_MOST_COUNTED ⟨_, rfl⟩) (nomark _))
    (pss_one ps_never)
    pss_nil))), ?_⟩
  obtain ⟨hK, hw16, dx, ha⟩ := id hC
  refine ⟨_, rfl, a, wd, W, rfl, hC, ?_⟩
  refine ⟨_, rfl, a, T.C_Check, dx, _, _, rfl, ha, T.cl_Check, T.na_Check_size, rfl, _, _, rfl, rfl, _, rfl, iteDF (by omega) ?_⟩
  exact q
def sp_sums_turned (K : PySem.W.Frag) : Sp := fun vs H Q _ => ∃ (a : Addr) (wd : Nat) (f : Nat → Int), vs = [.ref a] ∧ SqL K H a ((turnA f 0 (2 ^ wd)).map V.int) ∧ wd ≤ 10 ∧ ∀ H' p, Same H H' → H p = none → H' p = some (.lst ((turnA f wd (2 ^ wd)).map V.int)) → Q (.ref p) H'
theorem G_sums_turned (T : Top K mg) : FnOk P w K mg base CX0 1 T.f_sums_turned T.fd_sums_turned ["counts"] (sp_sums_turned K) := by
  refine T.F_sums_turned.ok sc_sums_turned (fun vs H Q E h => by obtain ⟨a, wd, f, rfl, _⟩ := h; rfl) (fun cdv A outer s H vs Q E hr h => ?_)
  obtain ⟨a, wd, f, rfl, hA, hw, q⟩ := h
  refine ⟨_, PSs.nox (pss_cons (ps_par (by rfl) sc_sums_turned.nd (i := 1) (j := 2) rfl rfl (by decide) rfl rfl (pa_cons (pe_callTy (k_listOf K rfl) (by rfl) T.n_list (by decide +kernel) (pa_cons (pv 0) pa_nil)) (pa_cons pe_int pa_nil)) (by rfl))
  (pss_cons (ps_while PassesOwn.never (pt_cmpR op_lt (pv 2) (pe_callB (k_len K rfl) (by rfl) T.n_len (by decide +kernel) (pa_cons (pv 1) pa_nil)) (nomark _))
    (pss_cons (ps_for PassesOwn.never rfl (pi_range1 (by rfl) T.n_range (pa_cons (pe_callB (k_len K rfl) (by rfl) T.n_len (by decide +kernel) (pa_cons (pv 1) pa_nil)) pa_nil)) (pg_name (i := 3) sc_sums_turned.nd rfl (by first | exact Or.inl rfl | exact Or.inr rfl))
    (pss_one (ps_if (pt_cmpR op_eq (pe_op op_and (pv 3) (pv 2)) pe_int (nomark _))
    (pss_cons (ps_par (by rfl) sc_sums_turned.nd (i := 4) (j := 5) rfl rfl (by decide) rfl rfl (pa_cons (pe_ix (k_ixL K rfl) (pv 1) (pv 3) (fun _ _ => rfl)) (pa_cons (pe_ix (k_ixL K rfl) (pv 1) (pe_op op_add (pv 3) (pv 2)) (fun _ _ => rfl)) pa_nil)) (by rfl))
  (pss_one (ps_asg (pe_tup (pa_cons (pe_op op_add (pv 4) (pv 5)) (pa_cons (pe_op op_sub (pv 4) (pv 5)) pa_nil))) (k_pgT K rfl (by rfl) (pgs_cons (pg_sub (pv 1) (pv 3) set_list) (pgs_cons (pg_sub (pv 1) (pe_op op_add (pv 3) (pv 2)) set_list) pgs_nil))))))
    pss_nil)))
  (pss_one (ps_set (i := 2) sc_sums_turned.nd rfl (by first | exact Or.inl rfl | exact Or.inr rfl) (pe_op op_mul (pv 2) pe_int)))))
  (pss_one (ps_ret (pv 1))))), ?_⟩
  refine ⟨_, rfl, a, _, rfl, .inl hA, fun p np => ?_⟩
  obtain ⟨H1, e1, s1, h1⟩ := fresh (.lst ((turnA f 0 (2 ^ wd)).map V.int)) np
  rw [e1]
  have hz : 2 ^ wd ≤ 2 ^ 10 := Nat.pow_le_pow_right (by decide) hw
  have hzn : (0 : Int) ≤ ((2 ^ wd : Nat) : Int) := Int.natCast_nonneg _
  walk_at "go"
  refine ⟨fun m σ H2 => ∃ (k : Nat) (v3 v4 v5 : Option V), σ = [some (.ref a), some (.ref p), some (.int ((2 ^ k : Nat) : Int)), v3, v4, v5] ∧ m + k = wd ∧ Same H H2 ∧ H2 p = some (.lst ((turnA f k (2 ^ wd)).map V.int)), ⟨wd, 0, none, none, none, rfl, rfl, s1, h1⟩, ?_⟩
  rintro m σ H2 ⟨k, v3, v4, v5, rfl, hm, s2, h2⟩
  refine ⟨_, rfl, _, rfl, p, _, rfl, .inl (.inl (.inl h2)), _, _, rfl, rfl, _, rfl, ?_⟩
  rw [List.length_map, turnA_len]
  by_cases c : k < wd
  · have hlt : 2 ^ k < 2 ^ wd := Nat.pow_lt_pow_right (by decide) c
    refine iteDT (by omega) ?_
    refine ⟨fun σ' H' => ∃ (v3 v4 v5 : Option V), σ' = [some (.ref a), some (.ref p), some (.int ((2 ^ (k + 1) : Nat) : Int)), v3, v4, v5] ∧ Same H H' ∧ H' p = some (.lst ((turnA f (k + 1) (2 ^ wd)).map V.int)), fun σ' H' ⟨v3, v4, v5, z1, z2, z3⟩ => ⟨m - 1, by omega, k + 1, v3, v4, v5, z1, by omega, z2, z3⟩, ?_⟩
    refine ⟨_, rfl, p, _, rfl, .inl (.inl (.inl h2)), _, rfl, by rw [List.length_map, turnA_len]; omega, by rw [List.length_map, turnA_len]; omega, ?_⟩
    rw [List.length_map, turnA_len, Int.toNat_natCast]
    walk_at "b"
    refine for_range (lo := 0) (n := 2 ^ wd) (fun i σ H3 => ∃ (v3 v4 v5 : Option V), σ = [some (.ref a), some (.ref p), some (.int ((2 ^ k : Nat) : Int)), v3, v4, v5] ∧ Same H H3 ∧ H3 p = some (.lst ((turnL f k i (2 ^ wd)).map V.int))) ⟨v3, v4, v5, rfl, s2, by rw [turnL_zero]; exact h2⟩ ?_ ?_
    · rintro i σ H3 hi ⟨v3, v4, v5, rfl, s3, h3⟩
      rw [Int.zero_add]
      walk_at "go"
      walk_at "b"
      have ea := and_pow i k
      cases cb : i.testBit k with
      | true =>
        refine iteEF (by have := Nat.two_pow_pos k; rw [ea, cb, Bool.toNat_true]; omega) ?_
        exact ⟨_, _, _, rfl, s3, by rw [turnL_skip cb]; exact h3⟩
      | false =>
        refine iteET (by rw [ea, cb, Bool.toNat_false]; omega) ?_
        have hi2 := add_bit_lt c hi cb
        have eadd : (i : Int) + ((2 ^ k : Nat) : Int) = ((i + 2 ^ k : Nat) : Int) := rfl
        walk_at "go"
        refine ⟨p, _, _, _, rfl, rfl, .inl (.inl h3), atI_nat (by rw [List.getElem?_map, turnL_one cb hi]; rfl), ?_⟩
        walk_at "go"
        refine ⟨p, _, _, _, rfl, rfl, .inl (.inl h3), by rw [eadd]; exact atI_nat (by rw [List.getElem?_map, turnL_two cb hi2]; rfl), ?_⟩
        walk_at "go"
        refine ⟨(show 2 ≤ sizeLine by decide), fun tp ntp => ?_⟩
        obtain ⟨H4, e4, s4, h4⟩ := fresh (.tup [V.int (turnT f k i + turnT f k (i + 2 ^ k)), V.int (turnT f k i - turnT f k (i + 2 ^ k))]) ntp
        rw [e4]
        have h34 := s4 _ _ h3
        have lenL := turnL_len f k i (2 ^ wd)
        refine ⟨tp, _, rfl, .inl (.inl h4), rfl, ?_⟩
        walk_at "go"
        refine ⟨p, _, _, i, rfl, rfl, h34, by rw [List.length_map, lenL]; unfold ixN; rw [if_pos (by omega), Int.toNat_natCast, if_pos (Int.ofNat_lt.mpr hi)], ?_⟩
        walk_at "go"
        refine ⟨p, _, _, i + 2 ^ k, rfl, rfl, upd_same, by rw [eadd, List.length_set, List.length_map, lenL]; unfold ixN; rw [if_pos (Int.natCast_nonneg _), Int.toNat_natCast, if_pos (Int.ofNat_lt.mpr hi2)], ?_⟩
        refine ⟨rfl, _, _, _, rfl, same_over np (same_over np (s3.trans s4)), ?_⟩
        rw [upd_same, ← turnL_step cb hi2, List.map_set, List.map_set]
    · rintro σ H3 ⟨v3, v4, v5, rfl, s3, h3⟩
      rw [turnL_all] at h3
      walk_at "go"
      refine ⟨.inr ⟨by decide, by decide⟩, ?_⟩
      exact ⟨_, _, _, by rw [show ((2 ^ (k + 1) : Nat) : Int) = ((2 ^ k : Nat) : Int) * 2 by rw [Nat.pow_succ, Int.natCast_mul]; rfl]; rfl, s3, h3⟩
  · have : k = wd := by omega
    subst this
    refine iteDF (by omega) ?_
    exact ⟨_, rfl, q _ p s2 np h2⟩
end
end My

namespace My
open PySem PySem.Spec PyProof.Rows L2 Pre
theorem rep0 (m : Nat) : (List.replicate m [V.int 0]).flatten = (List.replicate m (0 : Int)).map V.int := by
  induction m with
  | zero => rfl
  | succ n ih => rw [List.replicate_succ, List.flatten_cons, ih, List.replicate_succ]; rfl
theorem books_len (o : Nat → Nat) : ∀ n, (booksD o n).length ≤ n
  | 0 => Nat.le_refl _
  | n + 1 => Nat.le_trans (bump_len _ _ _) (Nat.succ_le_succ (books_len o n))
def booksM (wd W n : Nat) : List (Int × Int) := booksD (fun m => mi wd m (pws wd W n)) (2 ^ wd)
local macro_rules | `(tactic| walk_at "go") => `(tactic| repeat (first | (with_reducible first | refine iteT ?_ | refine iteF ?_ | refine iteNtt ?_ | refine iteNff ?_ | refine iteET (by omega) ?_ | refine iteEF (by omega) ?_ | refine iteENT (by omega) ?_ | refine iteENF (by omega) ?_ | refine iteDT (by omega) ?_ | refine iteDF (by omega) ?_ | refine iteNT (by omega) ?_ | refine iteNF (by omega) ?_) | refine ⟨_, rfl, ?_⟩ | refine ⟨_, _, rfl, rfl, ?_⟩ | refine ⟨_, _, rfl, ?_⟩ | refine ⟨rfl, ?_⟩ | refine .inl ⟨_, rfl, ?_⟩ | refine .inr ⟨_, rfl, ?_⟩))
local macro_rules | `(tactic| walk_at "b") => `(tactic| try dsimp (config := { proj := false, iota := false, eta := false, zeta := false }) only)
section
variable {P : Program} {w : World} {K : PySem.W.Frag} {mg : Str → Option Value} {base : Heap}
def sp_masks_by_ones (C : Addr) (K : PySem.W.Frag) : Sp := fun vs H Q _ => ∃ (a : Addr) (wd W n : Nat), vs = [.ref a, .int n] ∧ CheckAt C H a wd W ∧ wd ≤ 8 ∧ n ≤ 10 ^ 18 ∧ ∀ H' p, Same H H' → H p = none → H' p = some (.dK (kvD (booksM wd W n))) → Q (.ref p) H'
theorem G_masks_by_ones (T : Top K mg) : FnOk P w K mg base CX0 4 T.f_masks_by_ones T.fd_masks_by_ones ["check", "many"] (sp_masks_by_ones T.C_Check K) := by
  refine T.F_masks_by_ones.ok sc_masks_by_ones (fun vs H Q E h => by obtain ⟨a, wd, W, n, rfl, _⟩ := h; rfl) (fun cdv A outer s H vs Q E hr h => ?_)
  obtain ⟨a, wd, W, n, rfl, hC, hw, hn, q⟩ := h
  refine ⟨_, PSs.nox (pss_cons (ps_set (i := 2) sc_masks_by_ones.nd rfl (by first | exact Or.inl rfl | exact Or.inr rfl) (pe_call (G_powers_of T) (hr.mono (by decide)) (by rfl) T.g_powers_of T.F_powers_of.kp T.b_powers_of .nil pass0 (pa_cons (pv 0) pa_nil)))
  (pss_cons (ps_set (i := 3) sc_masks_by_ones.nd rfl (by first | exact Or.inl rfl | exact Or.inr rfl) (pe_op op_rep (pe_lst (pa_cons pe_int pa_nil)) (pe_op op_shl pe_int (pe_fld (pv 0) rfl))))
  (pss_cons (ps_for PassesOwn.never rfl (k_piE K rfl (by rfl) T.n_enumerate (pa_cons (pv 2) pa_nil)) (k_pgT K rfl (by rfl) (pgs_cons (pg_name (i := 6) sc_masks_by_ones.nd rfl (by first | exact Or.inl rfl | exact Or.inr rfl)) (pgs_cons (pg_name (i := 7) sc_masks_by_ones.nd rfl (by first | exact Or.inl rfl | exact Or.inr rfl)) pgs_nil)))
    (pss_one (ps_asg (pe_op op_add (pe_op op_fdivW (pv 1) (pe_callB (k_len K rfl) (by rfl) T.n_len (by decide +kernel) (pa_cons (pv 2) pa_nil))) (pe_callTy call_int1 (by rfl) T.n_int (by decide +kernel) (pa_cons (pe_cmpR op_lt (pv 6) (pe_op op_mod (pv 1) (pe_callB (k_len K rfl) (by rfl) T.n_len (by decide +kernel) (pa_cons (pv 2) pa_nil))) (nomark _)) pa_nil))) (pg_sub (pv 3) (pv 7) set_list))))
  (pss_cons (ps_set (i := 4) sc_masks_by_ones.nd rfl (by first | exact Or.inl rfl | exact Or.inr rfl) pe_dnewK)
  (pss_cons (ps_for PassesOwn.never rfl (k_piL K rfl (pe_call (G_sums_turned T) (hr.mono (by decide)) (by rfl) T.g_sums_turned T.F_sums_turned.kp T.b_sums_turned .nil pass0 (pa_cons (pv 3) pa_nil))) (pg_name (i := 5) sc_masks_by_ones.nd rfl (by first | exact Or.inl rfl | exact Or.inr rfl))
    (pss_cons (ps_set (i := 8) sc_masks_by_ones.nd rfl (by first | exact Or.inl rfl | exact Or.inr rfl) (pe_op op_fdivW (pe_op op_sub (pv 1) (pv 5)) pe_int))
  (pss_one (ps_dput (hu_of hr) (pv 4) (pv 8) (pe_op op_add (pe_dget2 (hu_of hr) (pv 4) (pv 8) pe_int ⟨by rfl, by rfl, by rfl, by rfl⟩) pe_int) rfl))))
  (pss_one (ps_ret (pv 4)))))))), ?_⟩
  obtain ⟨hK, hw16, dx, ha⟩ := id hC
  refine ⟨_, rfl, a, wd, W, rfl, hC, fun d H1 p1 hO hd s1 np1 h1 => ?_⟩
  refine ⟨(show 1 ≤ sizeLine by decide), fun p2 np2 => ?_⟩
  obtain ⟨H2, e2, s2, h2⟩ := fresh (.lst [V.int 0]) np2
  rw [e2]
  have s12 := s1.trans s2
  have hz : 2 ^ wd ≤ 2 ^ 8 := Nat.pow_le_pow_right (by decide) hw
  have hzn : (0 : Int) ≤ ((2 ^ wd : Nat) : Int) := Int.natCast_nonneg _
  have eN : (1 : Int) * 2 ^ ((wd : Int)).toNat = ((2 ^ wd : Nat) : Int) := by rw [Int.toNat_natCast, Int.one_mul, Int.natCast_pow]; rfl
  refine ⟨_, rfl, a, T.C_Check, dx, _, _, rfl, s12 _ _ ha, T.cl_Check, T.na_Check_size, rfl, _, _, rfl, rfl, ⟨by omega, by omega, by decide⟩, ?_⟩
  walk_at "b"
  rw [eN]
  refine ⟨p2, _, _, rfl, rfl, h2, by omega, by omega, by rw [Int.toNat_natCast, sizeLine_eq]; show 1 * 2 ^ wd ≤ _; omega, fun p3 np3 => ?_⟩
  rw [Int.toNat_natCast, rep0, ← cntL_zero (w := wd) (W := W) n]
  obtain ⟨H3, e3, s3, h3⟩ := fresh (.lst ((cntL wd W n 0).map V.int)) np3
  rw [e3]
  have s13 := s12.trans s3
  have n3H : H p3 = none := s12.free np3
  have n3 : H2 p3 = none := np3
  have hp1 : H3 p1 = some (.lst ((powsL wd W d).map V.int)) := s3 _ _ (s2 _ _ h1)
  have p13 : p1 ≠ p3 := ne_of_none (s2 _ _ h1) np3
  have hl : ((powsL wd W d).map V.int).length = d := by rw [List.length_map, powsL_len]
  have hp := hO.pos
  refine ⟨_, rfl, p1, _, rfl, .inl (.inl hp1), ?_⟩
  refine for_it (walk_enum (K := K) (a := p1) (xs := (powsL wd W d).map V.int)) (fun i σ H4 => ∃ (v6 v7 : Option V), σ = [some (.ref a), some (.int n), some (.ref p1), some (.ref p3), none, none, v6, v7, none] ∧ Same H2 H4 ∧ H4 p1 = some (.lst ((powsL wd W d).map V.int)) ∧ H4 p3 = some (.lst ((cntL wd W n i).map V.int))) ⟨none, none, rfl, s3, hp1, h3⟩ (fun i σ H1 _ ⟨_, _, _, _, h, _⟩ => .inl (.inl h)) ?_ ?_
  · rintro i x σ H4 H5 hi ⟨v6, v7, rfl, s4, h41, h43⟩ ⟨t, y, z, rfl, nt, rfl, ey, ez⟩
    cases ey
    rw [hl] at hi
    dsimp only at ez
    rw [List.getElem?_map, powsL_at hi] at ez
    cases ez
    obtain ⟨H6, e6, s6, h6⟩ := fresh (.tup [V.int (i : Nat), .int (pw wd W i : Nat)]) nt
    rw [e6]
    have k1 := s6 _ _ h41
    have k3 := s6 _ _ h43
    refine ⟨t, _, rfl, .inl (.inl h6), rfl, _, _, rfl, _, _, rfl, rfl, ?_⟩
    have en : (n : Int) / (d : Int) + (if decide ((i : Int) < (n : Int) % (d : Int)) = true then 1 else 0) = ((n / d : Nat) : Int) + (if i < n % d then 1 else 0) := by
      rw [← Int.natCast_ediv, ← Int.natCast_emod]
      congr 1
      by_cases c : i < n % d
      · rw [if_pos c, if_pos (decide_eq_true (by omega))]
      · rw [if_neg c, if_neg (by rw [decide_eq_false (by omega)]; decide)]
    refine ⟨_, rfl, _, rfl, p1, _, rfl, .inl (.inl (.inl k1)), ?_⟩
    rw [hl]
    refine ⟨_, _, rfl, rfl, wide_div (b := 60) (by omega) (by omega) (by decide) (by decide), ?_⟩
    refine ⟨_, rfl, _, rfl, _, rfl, p1, _, rfl, .inl (.inl (.inl k1)), ?_⟩
    rw [hl]
    refine ⟨_, _, rfl, rfl, (by show (0 : Int) < _; omega), _, _, rfl, rfl, .inr ⟨_, rfl, ?_⟩⟩
    walk_at "b"
    refine ⟨_, _, rfl, rfl, ?_⟩
    walk_at "go"
    have hv := pw_lt hK i
    refine ⟨p3, _, _, pw wd W i, rfl, rfl, k3, by rw [List.length_map, cntL_len]; unfold ixN; rw [if_pos (by omega), Int.toNat_natCast, if_pos (Int.ofNat_lt.mpr hv)], ?_⟩
    refine ⟨_, _, rfl, same_over n3 (s4.trans s6), by rw [upd_ne p13]; exact k1, ?_⟩
    rw [upd_same]
    dsimp only
    rw [en, ← cntL_step hK hO hi n, List.map_set]
  · rintro σ H4 ⟨v6, v7, rfl, s4, h41, h43⟩
    rw [hl, cntL_all hK hO] at h43
    intro p4 np4
    obtain ⟨H5, e5, s5, h5⟩ := fresh (.dK (kvD [])) np4
    rw [show upd H4 p4 (.dK []) = H5 from e5]
    have s24 := s4.trans s5
    have s05 := s12.trans s24
    have n4H : H p4 = none := (s12.trans s4).free np4
    refine ⟨_, rfl, p3, wd, _, rfl, .inl (.inl (s5 _ _ h43)), by omega, fun H6 p6 s6 np6 h6 => ?_⟩
    have hbk := books_bnd (fun m => mi wd m (pws wd W n)) (N := n) (fun m => by have := mi_le wd m (pws wd W n); rw [pws_len] at this; exact this)
    refine ⟨p6, rfl, ⟨_, .inl (.inl h6)⟩, for_list (K := K) (a := p6) (xs := (turnA (fun v => (cnt (pws wd W n) v : Int)) wd (2 ^ wd)).map V.int) (fun j σ H7 => ∃ (v5 v6 v7 v8 : Option V), σ = [some (.ref a), some (.int n), some (.ref p1), some (.ref p3), some (.ref p4), v5, v6, v7, v8] ∧ Same H H7 ∧ H7 p6 = H6 p6 ∧ H7 p4 = some (.dK (kvD (booksD (fun m => mi wd m (pws wd W n)) j))))
      ⟨_, _, _, _, rfl, s05.trans s6, rfl, s6 _ _ h5⟩ (fun j σ H7 _ ⟨_, _, _, _, _, _, z, _⟩ => .inl (.inl (z.trans h6))) ?_ ?_⟩
    · rintro j x σ H7 hx ⟨v5, v6, v7, v8, rfl, s7, k6, k4⟩
      obtain ⟨t, ht, rfl⟩ := int_at hx
      have hj : j < 2 ^ wd := by
        have := (List.getElem?_eq_some_iff.mp ht).1
        rwa [turnA_len] at this
      have et : t = (n : Int) - 2 * (mi wd j (pws wd W n) : Int) := by
        unfold turnA at ht
        rw [List.getElem?_map, List.getElem?_range hj] at ht
        exact (Option.some.inj ht).symm.trans (turn_pws hK hj n)
      obtain ⟨o, ho⟩ : ∃ o, o = mi wd j (pws wd W n) := ⟨_, rfl⟩
      rw [← ho] at et
      subst et
      refine ⟨_, rfl, _, rfl, _, _, rfl, rfl, _, _, rfl, rfl, ⟨by decide, by decide⟩, ?_⟩
      walk_at "b"
      rw [show ((n : Int) - ((n : Int) - 2 * (o : Int))) / 2 = (o : Int) by omega]
      refine ⟨_, rfl, p4, rfl, .inl ⟨_, .inl k4⟩, _, rfl, _, DGet.k (k := .inl (o : Int)) k4, ?_⟩
      rw [getI_map]
      refine ⟨_, _, rfl, rfl, _, rfl, _, rfl, p4, _, rfl, DPut.k (k := .inl (o : Int)) k4 (by rw [kvD_len]; exact small1000' (Nat.le_trans (books_len _ j) (by omega))), ?_⟩
      rw [put_kvD]
      have n64 : p6 ≠ p4 := (ne_of_none h5 np6).symm
      refine ⟨_, _, _, _, rfl, same_over n4H s7, by rw [upd_ne n64]; exact k6, ?_⟩
      rw [upd_same, ho]
      rfl
    · rintro σ H7 ⟨v5, v6, v7, v8, rfl, s7, k6, k4⟩
      rw [List.length_map, turnA_len] at k4
      exact ⟨_, rfl, q _ p4 s7 n4H k4⟩
end
end My

namespace My
open PySem PySem.Spec PyProof.Rows L2 Pre
theorem unseen_sum {wd W : Nat} (C : Ck wd W) (n f : Nat) : sumP (fun x => sset (n - x.toNat) x.toNat f) (booksM wd W n) / 2 ^ wd = subC (pws wd W n) f 0 := by
  unfold booksM
  rw [books_sum, ← unseen_many (pws_lt C n) f, pws_len]
  rfl
theorem chance_books {wd W : Nat} (C : Ck wd W) (n : Nat) (u t : Int) : sumP (fun x => (u - 2 * t) ^ x.toNat * u ^ (n - x.toNat)) (booksM wd W n) - 2 ^ wd * (u - t) ^ n = 2 ^ wd * lawT wd W n (u - t) t := by
  unfold booksM
  rw [books_sum, ← chance_sum C, show u - t - t = u - 2 * t by omega, show u - t + t = u by omega]
  rfl
theorem books_at {wd W n : Nat} {p : Int × Int} (h : p ∈ booksM wd W n) : ∃ o : Nat, o ≤ n ∧ p.1 = (o : Int) ∧ 0 ≤ p.2 ∧ p.2 ≤ (2 ^ wd : Nat) ∧ getI (booksM wd W n) p.1 = some p.2 := by
  have h1 := books_bnd (fun m => mi wd m (pws wd W n)) (N := n) (fun m => by have := mi_le wd m (pws wd W n); rw [pws_len] at this; exact this) _ p h
  obtain ⟨⟨o, ho, e⟩, h2, h3⟩ := h1
  exact ⟨o, ho, e, h2, h3, books_get _ _ h⟩
local macro_rules | `(tactic| walk_at "go") => `(tactic| repeat (first | (with_reducible first | refine iteT ?_ | refine iteF ?_ | refine iteNtt ?_ | refine iteNff ?_ | refine iteET (by omega) ?_ | refine iteEF (by omega) ?_ | refine iteENT (by omega) ?_ | refine iteENF (by omega) ?_ | refine iteDT (by omega) ?_ | refine iteDF (by omega) ?_ | refine iteNT (by omega) ?_ | refine iteNF (by omega) ?_) | refine ⟨_, rfl, ?_⟩ | refine ⟨_, _, rfl, rfl, ?_⟩ | refine ⟨_, _, rfl, ?_⟩ | refine ⟨rfl, ?_⟩ | refine .inl ⟨_, rfl, ?_⟩ | refine .inr ⟨_, rfl, ?_⟩))
local macro_rules | `(tactic| walk_at "b") => `(tactic| try dsimp (config := { proj := false, iota := false, eta := false, zeta := false }) only)
section
variable {P : Program} {w : World} {K : PySem.W.Frag} {mg : Str → Option Value} {base : Heap}
def sp_how_many_unseen (C : Addr) (K : PySem.W.Frag) : Sp := fun vs H Q _ => ∃ (a : Addr) (wd W n f : Nat), vs = [.ref a, .int n, .int f] ∧ CheckAt C H a wd W ∧ wd ≤ 8 ∧ n ≤ 10 ^ 18 ∧ f ≤ 8 ∧ ∀ H', Same H H' → Q (.int (subC (pws wd W n) f 0)) H'
theorem G_how_many_unseen (T : Top K mg) : FnOk P w K mg base CX0 5 T.f_how_many_unseen T.fd_how_many_unseen ["check", "many", "few"] (sp_how_many_unseen T.C_Check K) := by
  refine T.F_how_many_unseen.ok sc_how_many_unseen (fun vs H Q E h => by obtain ⟨a, wd, W, n, f, rfl, _⟩ := h; rfl) (fun cdv A outer s H vs Q E hr h => ?_)
  obtain ⟨a, wd, W, n, f, rfl, hC, hw, hn, hf, q⟩ := h
  refine ⟨_, PSs.nox (pss_cons (ps_expr (pe_call (G_check_counted T) (hr.mono (by decide)) (by rfl) T.g_check_counted T.F_check_counted.kp T.b_check_counted .nil pass0 (pa_cons (pv 0) pa_nil)))
  (pss_cons (ps_expr (pe_call (G_check_number T) (hr.mono (by decide)) (by rfl) T.g_check_number T.F_check_number.kp T.b_check_number .nil pass0 (pa_cons (pv 1) (pa_cons pe_int (pa_cons (pe_glob (v := .int 1000000000000000000) rfl T.m_MOST_PLACE ⟨_, rfl⟩) pa_nil)))))
  (pss_cons (ps_expr (pe_call (G_check_number T) (hr.mono (by decide)) (by rfl) T.g_check_number T.F_check_number.kp T.b_check_number .nil pass0 (pa_cons (pv 2) (pa_cons pe_int (pa_cons (pe_glob (v := .int 8) rfl T.m_MOST_FEW ⟨_, rfl⟩) pa_nil)))))
  (pss_cons (ps_set (i := 3) sc_how_many_unseen.nd rfl (by first | exact Or.inl rfl | exact Or.inr rfl) (pe_call (G_masks_by_ones T) (hr.mono (by decide)) (by rfl) T.g_masks_by_ones T.F_masks_by_ones.kp T.b_masks_by_ones .nil pass0 (pa_cons (pv 0) (pa_cons (pv 1) pa_nil))))
  (pss_one (ps_ret (pe_op op_fdivW (pe_callB (k_sum K rfl rfl) (by rfl) T.n_sum (by decide +kernel) (pa_cons (pe_lock (pe_lc (own := [("ones", 4)]) (g := gName 4) (tt := tYes) (by rfl) sc_how_many_unseen.nd (pi_keys (pv 3)) (blkOk_by (own := [("ones", 4)]) (N := N_how_many_unseen) (sc := defScope s_how_many_unseen) (by decide +kernel)) (fun _ _ _ _ _ => (pg_name (i := 4) sc_how_many_unseen.nd rfl (by first | exact Or.inl rfl | exact Or.inr rfl))) (fun _ _ _ _ _ => pts_nil) (fun _ _ _ _ _ => (pe_op op_mul (pe_dget (hu_of hr) (pv 3) (pv 4) (fun _ _ => rfl)) (pe_call (G_signed_sets T) (hr.mono (by decide)) (by rfl) T.g_signed_sets T.F_signed_sets.kp T.b_signed_sets .nil pass0 (pa_cons (pv 1) (pa_cons (pv 4) (pa_cons (pv 2) pa_nil)))))))) pa_nil)) (pe_op op_shl pe_int (pe_fld (pv 0) rfl))))))))), ?_⟩
  obtain ⟨hK, hw16, dx, ha⟩ := id hC
  have hz : 2 ^ wd ≤ 2 ^ 8 := Nat.pow_le_pow_right (by decide) hw
  have hzn : (0 : Int) < ((2 ^ wd : Nat) : Int) := Int.natCast_pos.mpr (Nat.two_pow_pos wd)
  have eN : (1 : Int) * 2 ^ ((wd : Int)).toNat = ((2 ^ wd : Nat) : Int) := by rw [Int.toNat_natCast, Int.one_mul, Int.natCast_pow]; rfl
  refine ⟨_, rfl, a, wd, W, rfl, hC, hw, ?_⟩
  refine ⟨_, rfl, n, 0, some 1000000000000000000, rfl, by omega, (fun j h => by cases h; omega), ?_⟩
  refine ⟨_, rfl, f, 0, some 8, rfl, by omega, (fun j h => by cases h; omega), ?_⟩
  refine ⟨_, rfl, _, rfl, a, wd, W, n, rfl, hC, hw, hn, fun H1 b s1 nb h1 => ?_⟩
  refine ⟨b, _, h1, trivial, fun od => ?_⟩
  have lenB : (booksM wd W n).length ≤ 2 ^ wd := books_len _ _
  have hat := fun p h => books_at (wd := wd) (W := W) (n := n) (p := p) h
  have es := unseen_sum hK n f
  generalize booksM wd W n = D at *
  refine ⟨_, rfl, b, od, rfl, .inl ⟨kvD D, upd_same, fun Dn nD => ?_⟩⟩
  have nDa : Dn ≠ b := fun z => by rw [z, upd_same] at nD; cases nD
  have hfz : upd H1 b (.frz od (.dK (kvD D))) b = some (.frz od (.dK (kvD D))) := upd_same
  refine lc_dW (walk_keys (d := b) (o := od) (kvs := kvD D)) (S := []) Has.nil (D.map fun p => some (PyData.int (p.2 * sset (n - p.1.toNat) p.1.toNat f))) nD (by rw [List.length_map, kvD_len]) (by rw [kvD_len]; exact small1000' (by omega)) (fun H' s => s _ _ hfz) ?_ ?_
  · rintro i o H0 x H'' hi ho s0 hH ⟨rfl, k, v, hk, rfl⟩ Qt qt
    unfold kvD at hk
    rw [List.getElem?_map] at hk
    obtain ⟨p, hp, hpe⟩ := Option.map_eq_some_iff.mp hk
    cases hpe
    rw [List.getElem?_map, hp] at ho
    cases ho
    obtain ⟨o, ho, eo, hb1, hb2, hget⟩ := hat p (List.mem_of_getElem? hp)
    rw [eo] at hget
    dsimp only at qt
    rw [eo, Int.toNat_natCast] at qt
    refine ⟨by rw [eo]; rfl, ?_⟩
    walk_at "go"
    refine ⟨b, .int p.2, rfl, .inl ⟨kvD D, .inl p.1, .inr ⟨od, s0 _ _ hfz⟩, rfl, by rw [val_kvD, eo, hget]; rfl⟩, ?_⟩
    walk_at "go"
    refine ⟨n, o, f, by show [V.int (n : Int), V.int p.1, V.int (f : Int)] = _; rw [eo], hn, ho, hf, fun H3 s3 => ?_⟩
    refine ⟨_, _, rfl, rfl, .inl ⟨by omega, by omega⟩, ?_⟩
    exact qt _ _ s3 (.int _)
  intro H2 s2 _ dD
  have el : ((D.map fun p => some (PyData.int (p.2 * sset (n - p.1.toNat) p.1.toNat f))).filterMap id) = (D.map fun p => p.2 * sset (n - p.1.toNat) p.1.toNat f).map PyData.int := by
    rw [sel_map, List.map_map]
    rfl
  rw [el, rs_nil] at dD
  obtain ⟨_, e, hD⟩ := Dt.intsE (ns := D.map fun p => p.2 * sset (n - p.1.toNat) p.1.toNat f) dD
  cases e
  refine ⟨s2 _ _ hfz, ?_⟩
  have hD2 : upd H2 b (.dK (kvD D)) Dn = some (.lst ((D.map fun p => p.2 * sset (n - p.1.toNat) p.1.toNat f).map V.int)) := by rw [upd_ne nDa]; exact hD
  have s12 : Same H1 (upd H2 b (.dK (kvD D))) := fun c u hc => by
    by_cases z : c = b
    · rw [z, h1] at hc
      rw [z, upd_same]
      exact hc
    · rw [upd_ne z]
      exact s2 c u (by rw [upd_ne z]; exact hc)
  generalize upd H2 b (.dK (kvD D)) = H3 at *
  have s3 := s1.trans s12
  refine ⟨Dn, _, rfl, .inl (.inl hD2), ?_⟩
  refine ⟨_, rfl, a, T.C_Check, dx, _, _, rfl, s3 _ _ ha, T.cl_Check, T.na_Check_size, rfl, _, _, rfl, rfl, ⟨by omega, by omega, by decide⟩, ?_⟩
  walk_at "b"
  rw [eN]
  refine ⟨_, _, rfl, rfl, wide_div (b := 60) hzn (by rw [Int.natAbs_natCast]; omega) (by decide) (by decide), ?_⟩
  walk_at "b"
  rw [show ((2 ^ wd : Nat) : Int) = 2 ^ wd by rw [Int.natCast_pow]; rfl, show (D.map fun p => p.2 * sset (n - p.1.toNat) p.1.toNat f).sum / 2 ^ wd = subC (pws wd W n) f 0 from es]
  exact q _ s3
end
end My

namespace My
open PySem PySem.Spec PyProof.Rows L2 Pre
theorem pow_small {b : Int} {k : Nat} (hb : b.natAbs ≤ 12) (hk : k ≤ 40) : (b ^ k).natAbs < 2 ^ 160 := by
  rw [Int.natAbs_pow]
  exact Nat.lt_of_le_of_lt (Nat.le_trans (Nat.pow_le_pow_left hb k) (Nat.pow_le_pow_right (by decide) hk)) (by decide)
theorem chance_low {wd W : Nat} (C : Ck wd W) (n : Nat) (u t : Int) {S : Int} (hS : sumP (fun x => (u - 2 * t) ^ x.toNat * u ^ (n - x.toNat)) (booksM wd W n) = S) : lowF (S - 2 ^ wd * (u - t) ^ n) (2 ^ wd * u ^ n) = lowF (lawT wd W n (u - t) t) (u ^ n) := by
  subst hS
  rw [chance_books C, Int.mul_comm (2 ^ wd), Int.mul_comm (2 ^ wd)]
  exact lowF_scale _ _ (Int.pow_pos (by decide))
local macro_rules | `(tactic| walk_at "go") => `(tactic| repeat (first | (with_reducible first | refine iteT ?_ | refine iteF ?_ | refine iteNtt ?_ | refine iteNff ?_ | refine iteET (by omega) ?_ | refine iteEF (by omega) ?_ | refine iteENT (by omega) ?_ | refine iteENF (by omega) ?_ | refine iteDT (by omega) ?_ | refine iteDF (by omega) ?_ | refine iteNT (by omega) ?_ | refine iteNF (by omega) ?_) | refine ⟨_, rfl, ?_⟩ | refine ⟨_, _, rfl, rfl, ?_⟩ | refine ⟨_, _, rfl, ?_⟩ | refine ⟨rfl, ?_⟩ | refine .inl ⟨_, rfl, ?_⟩ | refine .inr ⟨_, rfl, ?_⟩))
local macro_rules | `(tactic| walk_at "b") => `(tactic| try dsimp (config := { proj := false, iota := false, eta := false, zeta := false }) only)
section
variable {P : Program} {w : World} {K : PySem.W.Frag} {mg : Str → Option Value} {base : Heap}
def sp_chance (C : Addr) (K : PySem.W.Frag) : Sp := fun vs H Q _ => ∃ (a : Addr) (wd W n t u : Nat), vs = [.ref a, .int n, .int t, .int u] ∧ CheckAt C H a wd W ∧ wd ≤ 8 ∧ n ≤ 40 ∧ t ≤ u ∧ 1 ≤ u ∧ u ≤ 12 ∧
  ∀ H' p, Same H H' → H p = none → H' p = some (.tup ([(lowF (lawT wd W n ((u : Int) - (t : Int)) t) ((u : Int) ^ n)).1, (lowF (lawT wd W n ((u : Int) - (t : Int)) t) ((u : Int) ^ n)).2].map V.int)) → Q (.ref p) H'
theorem G_chance (T : Top K mg) : FnOk P w K mg base CX0 5 T.f_chance T.fd_chance ["check", "many", "top", "under"] (sp_chance T.C_Check K) := by
  refine T.F_chance.ok sc_chance (fun vs H Q E h => by obtain ⟨a, wd, W, n, t, u, rfl, _⟩ := h; rfl) (fun cdv A outer s H vs Q E hr h => ?_)
  obtain ⟨a, wd, W, n, t, u, rfl, hC, hw, hn, htu, hu1, hu, q⟩ := h
  refine ⟨_, PSs.nox (pss_cons (ps_expr (pe_call (G_check_counted T) (hr.mono (by decide)) (by rfl) T.g_check_counted T.F_check_counted.kp T.b_check_counted .nil pass0 (pa_cons (pv 0) pa_nil)))
  (pss_cons (ps_expr (pe_call (G_check_number T) (hr.mono (by decide)) (by rfl) T.g_check_number T.F_check_number.kp T.b_check_number .nil pass0 (pa_cons (pv 1) (pa_cons pe_int (pa_cons (pe_glob (v := .int 60) rfl T.m_MOST_TURNED ⟨_, rfl⟩) pa_nil)))))
  (pss_cons (ps_expr (pe_call (G_check_number T) (hr.mono (by decide)) (by rfl) T.g_check_number T.F_check_number.kp T.b_check_number .nil pass0 (pa_cons (pv 2) (pa_cons pe_int (pa_cons (pe_glob (v := .int 1000) rfl T.m_MOST_UNDER ⟨_, rfl⟩) pa_nil)))))
  (pss_cons (ps_expr (pe_call (G_check_number T) (hr.mono (by decide)) (by rfl) T.g_check_number T.F_check_number.kp T.b_check_number .nil pass0 (pa_cons (pv 3) (pa_cons (pe_callB (call_max2 rfl) (by rfl) T.n_max (by decide +kernel) (pa_cons pe_int (pa_cons (pv 2) pa_nil))) (pa_cons (pe_glob (v := .int 1000) rfl T.m_MOST_UNDER ⟨_, rfl⟩) pa_nil)))))
  (pss_cons (ps_asg (pe_tup (pa_cons (pe_call (G_masks_by_ones T) (hr.mono (by decide)) (by rfl) T.g_masks_by_ones T.F_masks_by_ones.kp T.b_masks_by_ones .nil pass0 (pa_cons (pv 0) (pa_cons (pv 1) pa_nil))) (pa_cons (pe_op op_shlW pe_int (pe_fld (pv 0) rfl)) pa_nil))) (k_pgT K rfl (by rfl) (pgs_cons (pg_name (i := 5) sc_chance.nd rfl (by first | exact Or.inl rfl | exact Or.inr rfl)) (pgs_cons (pg_name (i := 6) sc_chance.nd rfl (by first | exact Or.inl rfl | exact Or.inr rfl)) pgs_nil))))
  (pss_cons (ps_set (i := 4) sc_chance.nd rfl (by first | exact Or.inl rfl | exact Or.inr rfl) (pe_callB (k_sum K rfl rfl) (by rfl) T.n_sum (by decide +kernel) (pa_cons (pe_lock (pe_lc (own := [("ones", 7)]) (g := gName 7) (tt := tYes) (by rfl) sc_chance.nd (pi_keys (pv 5)) (blkOk_by (own := [("ones", 7)]) (N := N_chance) (sc := defScope s_chance) (by decide +kernel)) (fun _ _ _ _ _ => (pg_name (i := 7) sc_chance.nd rfl (by first | exact Or.inl rfl | exact Or.inr rfl))) (fun _ _ _ _ _ => pts_nil) (fun _ _ _ _ _ => (pe_op op_mulX (pe_op op_mulX (pe_dget (hu_of hr) (pv 5) (pv 7) (fun _ _ => rfl)) (pe_call (G_raised T) (hr.mono (by decide)) (by rfl) T.g_raised T.F_raised.kp T.b_raised .nil pass0 (pa_cons (pe_op op_sub (pv 3) (pe_op op_mulX pe_int (pv 2))) (pa_cons (pv 7) pa_nil)))) (pe_call (G_raised T) (hr.mono (by decide)) (by rfl) T.g_raised T.F_raised.kp T.b_raised .nil pass0 (pa_cons (pv 3) (pa_cons (pe_op op_sub (pv 1) (pv 7)) pa_nil))))))) pa_nil)))
  (pss_one (ps_ret (pe_call (G_fraction T) (hr.mono (by decide)) (by rfl) T.g_fraction T.F_fraction.kp T.b_fraction .nil pass0 (pa_cons (pe_op op_sub (pv 4) (pe_op op_mulX (pv 6) (pe_call (G_raised T) (hr.mono (by decide)) (by rfl) T.g_raised T.F_raised.kp T.b_raised .nil pass0 (pa_cons (pe_op op_sub (pv 3) (pv 2)) (pa_cons (pv 1) pa_nil))))) (pa_cons (pe_op op_mulX (pv 6) (pe_call (G_raised T) (hr.mono (by decide)) (by rfl) T.g_raised T.F_raised.kp T.b_raised .nil pass0 (pa_cons (pv 3) (pa_cons (pv 1) pa_nil)))) pa_nil))))))))))), ?_⟩
  obtain ⟨hK, hw16, dx, ha⟩ := id hC
  have hz : 2 ^ wd ≤ 2 ^ 8 := Nat.pow_le_pow_right (by decide) hw
  have hzn : (0 : Int) < ((2 ^ wd : Nat) : Int) := Int.natCast_pos.mpr (Nat.two_pow_pos wd)
  have eN : (1 : Int) * 2 ^ ((wd : Int)).toNat = ((2 ^ wd : Nat) : Int) := by rw [Int.toNat_natCast, Int.one_mul, Int.natCast_pow]; rfl
  refine ⟨_, rfl, a, wd, W, rfl, hC, hw, ?_⟩
  refine ⟨_, rfl, n, 0, some 60, rfl, by omega, (fun j h => by cases h; omega), ?_⟩
  refine ⟨_, rfl, t, 0, some 1000, rfl, by omega, (fun j h => by cases h; omega), ?_⟩
  refine ⟨_, rfl, _, rfl, _, _, rfl, ?_⟩
  refine ⟨u, if (t : Int) > 1 then (t : Int) else 1, some 1000, rfl, by split <;> omega, (fun j h => by cases h; omega), ?_⟩
  refine ⟨_, rfl, _, rfl, a, wd, W, n, rfl, hC, hw, by omega, fun H1 b s1 nb h1 => ?_⟩
  refine ⟨_, rfl, a, T.C_Check, dx, _, _, rfl, s1 _ _ ha, T.cl_Check, T.na_Check_size, rfl, _, _, rfl, rfl, ⟨by omega, by rw [show Builtin.Int.intBits 1 = 1 by decide]; omega⟩, ?_⟩
  walk_at "b"
  rw [eN]
  refine ⟨(show 2 ≤ sizeLine by decide), fun tp ntp => ?_⟩
  obtain ⟨H2, e2, s2, h2⟩ := fresh (.tup [V.ref b, V.int ((2 ^ wd : Nat) : Int)]) ntp
  rw [e2]
  refine ⟨tp, _, rfl, .inl (.inl h2), rfl, _, _, rfl, _, _, rfl, rfl, ?_⟩
  have hb2 := s2 _ _ h1
  have s02 := s1.trans s2
  have lenB : (booksM wd W n).length ≤ 2 ^ wd := books_len _ _
  have hat := fun p h => books_at (wd := wd) (W := W) (n := n) (p := p) h
  have es := chance_low hK n u t rfl
  generalize booksM wd W n = D at *
  refine ⟨b, _, hb2, trivial, fun od => ?_⟩
  refine ⟨_, rfl, b, od, rfl, .inl ⟨kvD D, upd_same, fun Dn nD => ?_⟩⟩
  have nDa : Dn ≠ b := fun z => by rw [z, upd_same] at nD; cases nD
  have hfz : upd H2 b (.frz od (.dK (kvD D))) b = some (.frz od (.dK (kvD D))) := upd_same
  have c1 : ∀ {o : Nat}, o ≤ n → (((u : Int) - 2 * (t : Int)) ^ o).natAbs < 2 ^ 160 := fun h => pow_small (by omega) (by omega)
  have c2 : ∀ {o : Nat}, o ≤ n → (((u : Int)) ^ o).natAbs < 2 ^ 160 := fun h => pow_small (by omega) (by omega)
  refine lc_dW (walk_keys (d := b) (o := od) (kvs := kvD D)) (S := []) Has.nil (D.map fun p => some (PyData.int (p.2 * (((u : Int) - 2 * (t : Int)) ^ p.1.toNat * (u : Int) ^ (n - p.1.toNat))))) nD (by rw [List.length_map, kvD_len]) (by rw [kvD_len]; exact small1000' (by omega)) (fun H' s => s _ _ hfz) ?_ ?_
  · rintro i o H0 x H'' hi ho s0 hH ⟨rfl, k, v, hk, rfl⟩ Qt qt
    unfold kvD at hk
    rw [List.getElem?_map] at hk
    obtain ⟨p, hp, hpe⟩ := Option.map_eq_some_iff.mp hk
    cases hpe
    rw [List.getElem?_map, hp] at ho
    cases ho
    obtain ⟨o, ho, eo, hb1, hb2', hget⟩ := hat p (List.mem_of_getElem? hp)
    rw [eo] at hget
    dsimp only at qt
    rw [eo, Int.toNat_natCast, ← Int.mul_assoc] at qt
    refine ⟨by rw [eo]; rfl, ?_⟩
    walk_at "go"
    refine ⟨b, .int p.2, rfl, .inl ⟨kvD D, .inl p.1, .inr ⟨od, s0 _ _ hfz⟩, rfl, by rw [val_kvD, eo, hget]; rfl⟩, ?_⟩
    walk_at "go"
    refine ⟨mulX_ok (a := 10) (b := 10) (by decide) (by omega) (by decide), ?_⟩
    walk_at "go"
    have b1 : p.2.natAbs < 2 ^ 10 := by omega
    refine ⟨(u : Int) - 2 * (t : Int), o, by show [V.int ((u : Int) - 2 * (t : Int)), V.int p.1] = _; rw [eo], by omega, by omega, by omega, ?_⟩
    refine ⟨_, _, rfl, rfl, mulX_ok b1 (c1 ho) (by decide), ?_⟩
    walk_at "go"
    refine ⟨(u : Int), n - o, by show [V.int (u : Int), V.int ((n : Int) - p.1)] = _; rw [eo, show (n : Int) - (o : Int) = ((n - o : Nat) : Int) by omega], by omega, by omega, by omega, ?_⟩
    refine ⟨_, _, rfl, rfl, mulX_ok (wide_lt b1 (c1 ho)) (c2 (Nat.sub_le _ _)) (by decide), ?_⟩
    exact qt _ _ (Same.refl _) (.int _)
  intro H3 s3 _ dD
  have el : ((D.map fun p => some (PyData.int (p.2 * (((u : Int) - 2 * (t : Int)) ^ p.1.toNat * (u : Int) ^ (n - p.1.toNat))))).filterMap id) = (D.map fun p => p.2 * (((u : Int) - 2 * (t : Int)) ^ p.1.toNat * (u : Int) ^ (n - p.1.toNat))).map PyData.int := by
    rw [sel_map, List.map_map]
    rfl
  rw [el, rs_nil] at dD
  obtain ⟨_, e, hD⟩ := Dt.intsE (ns := D.map fun p => p.2 * (((u : Int) - 2 * (t : Int)) ^ p.1.toNat * (u : Int) ^ (n - p.1.toNat))) dD
  cases e
  refine ⟨s3 _ _ hfz, ?_⟩
  have hD2 : upd H3 b (.dK (kvD D)) Dn = some (.lst ((D.map fun p => p.2 * (((u : Int) - 2 * (t : Int)) ^ p.1.toNat * (u : Int) ^ (n - p.1.toNat))).map V.int)) := by rw [upd_ne nDa]; exact hD
  have s23 : Same H2 (upd H3 b (.dK (kvD D))) := fun c u hc => by
    by_cases z : c = b
    · rw [z, hb2] at hc
      rw [z, upd_same]
      exact hc
    · rw [upd_ne z]
      exact s3 c u (by rw [upd_ne z]; exact hc)
  generalize upd H3 b (.dK (kvD D)) = H4 at *
  have s4 := s02.trans s23
  refine ⟨Dn, _, rfl, .inl (.inl hD2), ?_⟩
  have eS : sumP (fun x => ((u : Int) - 2 * (t : Int)) ^ x.toNat * (u : Int) ^ (n - x.toNat)) D = (D.map fun p => p.2 * (((u : Int) - 2 * (t : Int)) ^ p.1.toNat * (u : Int) ^ (n - p.1.toNat))).sum := rfl
  rw [eS] at es
  generalize (D.map fun p => p.2 * (((u : Int) - 2 * (t : Int)) ^ p.1.toNat * (u : Int) ^ (n - p.1.toNat))).sum = S at *
  walk_at "go"
  have cd : (((u : Int) - (t : Int)) ^ n).natAbs < 2 ^ 160 := pow_small (by omega) hn
  have cN : (((2 ^ wd : Nat) : Int)).natAbs < 2 ^ 10 := by rw [Int.natAbs_natCast]; omega
  refine ⟨by omega, by omega, by omega, ?_⟩
  refine ⟨_, _, rfl, rfl, mulX_ok cN cd (by decide), ?_⟩
  walk_at "go"
  refine ⟨by omega, by omega, by omega, ?_⟩
  have cu := c2 (Nat.le_refl n)
  refine ⟨_, _, rfl, rfl, mulX_ok cN cu (by decide), ?_⟩
  walk_at "go"
  have pu : (0 : Int) < (u : Int) ^ n := Int.pow_pos (by omega)
  have cw := wide_lt cN cu
  have cp : (0 : Int) < ((2 ^ wd : Nat) : Int) * (u : Int) ^ n := Int.mul_pos hzn pu
  have h2w : ((2 ^ wd : Nat) : Int) = 2 ^ wd := by rw [Int.natCast_pow]; rfl
  refine ⟨cp, by omega, fun H5 p s5 np h5 => ?_⟩
  rw [h2w, es] at h5
  exact q _ p (s4.trans s5) (s4.free np) h5
end
end My

namespace My
open PySem PySem.Spec PyProof.Rows L2 Pre
/-- the places below i with a value -/
def plN (wd W i x : Nat) : List Nat := (List.range i).filter fun j => decide (pw wd W j = x)
theorem plN_next (wd W i x : Nat) : plN wd W (i + 1) x = plN wd W i x ++ (if pw wd W i = x then [i] else []) := by
  unfold plN
  rw [List.range_succ, List.filter_append]
  congr 1
  by_cases h : pw wd W i = x <;> simp [h]
theorem plN_len (wd W i x : Nat) : (plN wd W i x).length ≤ i := Nat.le_trans (List.length_filter_le _ _) (by rw [List.length_range]; exact Nat.le_refl _)
/-- a dict of lists of places, none of them the list f -/
def SpQ (wd W i : Nat) (f : Addr) (H : Hp) (kvs : List (Key × V)) : Prop := kvs.length ≤ i ∧ ∀ x : Nat, (valV kvs (.inl (x : Int)) = none ∧ plN wd W i x = []) ∨ ∃ l, valV kvs (.inl (x : Int)) = some (.ref l) ∧ l ≠ f ∧ H l = some (.lst ((natI (plN wd W i x)).map V.int))
theorem SpQ.but {wd W i : Nat} {f : Addr} {H H' : Hp} {kvs : List (Key × V)} (h : SpQ wd W i f H kvs) (s : ∀ b xs, b ≠ f → H b = some (.lst xs) → H' b = some (.lst xs)) : SpQ wd W i f H' kvs :=
  ⟨h.1, fun x => by
    rcases h.2 x with h | ⟨l, h1, h2, h3⟩
    · exact .inl h
    · exact .inr ⟨l, h1, h2, s _ _ h2 h3⟩⟩
theorem SpQ.next {wd W i : Nat} {f l : Addr} {H : Hp} {kvs : List (Key × V)} (h : SpQ wd W i f H kvs) (nf : l ≠ f) (hl : H l = some (.lst ((natI (plN wd W i (pw wd W i) ++ [i])).map V.int))) : SpQ wd W (i + 1) f H (putK kvs (.inl ((pw wd W i : Nat) : Int)) (.ref l)) := by
  refine ⟨?_, fun x => ?_⟩
  · have := length_putK kvs (.inl ((pw wd W i : Nat) : Int)) (.ref l)
    have := h.1
    omega
  · rw [valV_put, plN_next]
    by_cases c : pw wd W i = x
    · subst c
      rw [if_pos rfl, if_pos rfl]
      exact .inr ⟨l, rfl, nf, hl⟩
    · rw [if_neg (fun z => c (by have := Sum.inl.inj z; omega)), if_neg c, List.append_nil]
      exact h.2 x
theorem SpQ.get {wd W i : Nat} {f l : Addr} {H H' : Hp} {kvs : List (Key × V)} (h : SpQ wd W i f H kvs) (x : Nat) (s : Same H H') (hl : H' l = some (.lst [])) : ∃ m, (valV kvs (.inl (x : Int))).getD (.ref l) = .ref m ∧ H' m = some (.lst ((natI (plN wd W i x)).map V.int)) := by
  rcases h.2 x with ⟨h1, h2⟩ | ⟨m, h1, _, h5⟩
  · exact ⟨l, by rw [h1]; rfl, by rw [h2]; exact hl⟩
  · exact ⟨m, by rw [h1]; rfl, s _ _ h5⟩
theorem behind_sel (j : Nat) (l : List Nat) : ((l.map fun b => if j < b then some (V.int (b : Int)) else none).filterMap id).length = (l.filter fun b => decide (j < b)).length := by
  induction l with
  | nil => rfl
  | cons b l ih =>
    rw [List.map_cons, List.filter_cons]
    by_cases c : j < b
    · rw [if_pos c, if_pos (decide_eq_true c), List.filterMap_cons]
      show (_ :: _).length = _
      rw [List.length_cons, List.length_cons, ih]
    · rw [if_neg c, if_neg (by rw [decide_eq_false c]; decide), List.filterMap_cons]
      exact ih
local macro_rules | `(tactic| walk_at "go") => `(tactic| repeat (first | (with_reducible first | refine iteT ?_ | refine iteF ?_ | refine iteNtt ?_ | refine iteNff ?_ | refine iteET (by omega) ?_ | refine iteEF (by omega) ?_ | refine iteENT (by omega) ?_ | refine iteENF (by omega) ?_ | refine iteDT (by omega) ?_ | refine iteDF (by omega) ?_ | refine iteNT (by omega) ?_ | refine iteNF (by omega) ?_) | refine ⟨_, rfl, ?_⟩ | refine ⟨_, _, rfl, rfl, ?_⟩ | refine ⟨_, _, rfl, ?_⟩ | refine ⟨rfl, ?_⟩ | refine .inl ⟨_, rfl, ?_⟩ | refine .inr ⟨_, rfl, ?_⟩))
local macro_rules | `(tactic| walk_at "b") => `(tactic| try dsimp (config := { proj := false, iota := false, eta := false, zeta := false }) only)
section
variable {P : Program} {w : World} {K : PySem.W.Frag} {mg : Str → Option Value} {base : Heap}
def sp_law_lowest : Sp := fun vs H Q _ => ∃ a b : Nat, vs = [.int a, .int b] ∧ 0 < b ∧ b < 2 ^ 1000 ∧ ∀ H' p, Same H H' → H p = none → H' p = some (.tup ([(lowF a b).1, (lowF a b).2].map V.int)) → Q (.ref p) H'
theorem G_law_lowest (T : Top K mg) : FnOk P w K mg base CX0 1 T.f_law_lowest T.fd_law_lowest ["_law_top", "_law_under"] sp_law_lowest := by
  refine T.F_law_lowest.ok sc_law_lowest (fun vs H Q E h => by obtain ⟨a, b, rfl, _⟩ := h; rfl) (fun cdv A outer s H vs Q E hr h => ?_)
  obtain ⟨a, b, rfl, hb, hb2, q⟩ := h
  refine ⟨_, PSs.nox (pss_cons (ps_par (by rfl) sc_law_lowest.nd (i := 2) (j := 3) rfl rfl (by decide) rfl rfl (pa_cons (pe_callB call_abs (by rfl) T.n_abs (by decide +kernel) (pa_cons (pv 0) pa_nil)) (pa_cons (pv 1) pa_nil)) (by rfl))
  (pss_cons (ps_while PassesOwn.never (pt_cmpR op_ne (pv 3) pe_int (nomark _))
    (pss_one (ps_par (by rfl) sc_law_lowest.nd (i := 2) (j := 3) rfl rfl (by decide) rfl rfl (pa_cons (pv 3) (pa_cons (pe_op op_mod (pv 2) (pv 3)) pa_nil)) (by rfl))))
  (pss_one (ps_ret (pe_tup (pa_cons (pe_op op_fdivW (pv 0) (pv 2)) (pa_cons (pe_op op_fdivW (pv 1) (pv 2)) pa_nil))))))), ?_⟩
  walk_at "go"
  refine ⟨fun k σ H2 => ∃ x y : Nat, σ = [some (.int a), some (.int b), some (.int x), some (.int y)] ∧ y = k ∧ Nat.gcd x y = Int.gcd a b ∧ H2 = H, ⟨b, a, b, rfl, rfl, rfl, rfl⟩, ?_⟩
  rintro k σ H2 ⟨x, y, rfl, rfl, hg, rfl⟩
  refine ⟨_, rfl, rfl, _, rfl, ?_⟩
  by_cases hy : y = 0
  · subst hy
    rw [Nat.gcd_zero_right] at hg
    refine iteENF rfl ?_
    have h1 : 0 < Int.gcd a b := Int.gcd_pos_of_ne_zero_right _ (by omega)
    have h2 : (Int.gcd a b : Int) ≤ b := Int.le_of_dvd (by omega) (Int.gcd_dvd_right ..)
    subst hg
    have hw : ∀ x, CDivW x ((Int.gcd a b : Nat) : Int) := fun x => wide_div (b := 1000) (by omega) (by rw [Int.natAbs_natCast]; omega) (by decide) (by decide)
    walk_at "go"
    refine ⟨hw _, ?_⟩
    walk_at "go"
    refine ⟨hw _, (show 2 ≤ sizeLine by decide), fun p np => ?_⟩
    exact q _ p (same_upd np) np upd_same
  · refine iteENT (by omega) ?_
    refine ⟨fun σ' H' => ∃ x' y' : Nat, σ' = [some (.int a), some (.int b), some (.int x'), some (.int y')] ∧ y' < y ∧ Nat.gcd x' y' = Int.gcd a b ∧ H' = H2, fun σ' H' ⟨x', y', e1, e2, e3, e4⟩ => ⟨y', e2, x', y', e1, rfl, e3, e4⟩, ?_⟩
    refine ⟨_, rfl, _, rfl, _, rfl, _, _, rfl, rfl, (by show (0 : Int) < _; omega), _, _, rfl, y, x % y, ?_, Nat.mod_lt _ (by omega), ?_, rfl⟩
    · show [some (V.int (a : Int)), some (.int (b : Int)), some (.int (y : Int)), some (.int ((x : Int) % (y : Int)))] = _
      rw [Int.natCast_emod]
    · rw [← hg, Nat.gcd_comm y, ← Nat.gcd_rec, Nat.gcd_comm]
def sp_law_pairs : Sp := fun vs H Q _ => ∃ n d : Nat, vs = [.int n, .int d] ∧ n ≤ 10 ^ 18 ∧ 1 ≤ d ∧ d ≤ 256 ∧ Q (.int (pairsF d n)) H
theorem G_law_pairs (T : Top K mg) : FnOk P w K mg base CX0 1 T.f_law_pairs T.fd_law_pairs ["_law_many", "_law_step"] sp_law_pairs := by
  refine T.F_law_pairs.ok sc_law_pairs (fun vs H Q E h => by obtain ⟨n, d, rfl, _⟩ := h; rfl) (fun cdv A outer s H vs Q E hr h => ?_)
  obtain ⟨n, d, rfl, hn, hd, hd2, q⟩ := h
  refine ⟨_, PSs.nox (pss_cons (ps_par (by rfl) sc_law_pairs.nd (i := 2) (j := 3) rfl rfl (by decide) rfl rfl (pa_cons (pe_op op_fdivW (pv 0) (pv 1)) (pa_cons (pe_op op_mod (pv 0) (pv 1)) pa_nil)) (by rfl))
  (pss_one (ps_ret (pe_op op_add (pe_op op_fdivW (pe_op op_mul (pe_op op_mul (pv 3) (pe_op op_add (pv 2) pe_int)) (pv 2)) pe_int) (pe_op op_fdivW (pe_op op_mul (pe_op op_mul (pe_op op_sub (pv 1) (pv 3)) (pv 2)) (pe_op op_sub (pv 2) pe_int)) pe_int))))), ?_⟩
  have e := pairs_law d n hd
  have h1 : n / d ≤ n := Nat.div_le_self _ _
  have h2 : n % d < d := Nat.mod_lt _ hd
  walk_at "go"
  refine ⟨wide_div (b := 60) (by omega) (by omega) (by decide) (by decide), ?_⟩
  walk_at "go"
  refine ⟨by omega, ?_⟩
  walk_at "b"
  have e1 : (n : Int) / (d : Int) = ((n / d : Nat) : Int) := (Int.natCast_ediv ..).symm
  have e2 : (n : Int) % (d : Int) = ((n % d : Nat) : Int) := (Int.natCast_emod ..).symm
  rw [e1, e2]
  generalize n / d = x at *
  generalize n % d = y at *
  walk_at "go"
  refine ⟨.inl ⟨by omega, by omega⟩, ?_⟩
  walk_at "go"
  refine ⟨.inr ⟨by omega, by omega⟩, ?_⟩
  walk_at "go"
  refine ⟨⟨by decide, by decide⟩, ?_⟩
  walk_at "go"
  refine ⟨.inl ⟨by omega, by omega⟩, ?_⟩
  walk_at "go"
  refine ⟨.inr ⟨by omega, by omega⟩, ?_⟩
  walk_at "go"
  refine ⟨⟨by decide, by decide⟩, ?_⟩
  walk_at "go"
  walk_at "b"
  rw [e]
  exact q
def sp_law_threes (K : PySem.W.Frag) : Sp := fun vs H Q _ => ∃ wd W n : Nat, vs = [.int W, .int n] ∧ Ck wd W ∧ wd ≤ 8 ∧ n ≤ 40 ∧ ∀ H', Same H H' → Q (.int (subC (pws wd W n) 3 0)) H'
theorem G_law_threes (T : Top K mg) : FnOk P w K mg base CX0 2 T.f_law_threes T.fd_law_threes ["_law_whole", "_law_many"] (sp_law_threes K) := by
  refine T.F_law_threes.ok sc_law_threes (fun vs H Q E h => by obtain ⟨wd, W, n, rfl, _⟩ := h; rfl) (fun cdv A outer s H vs Q E hr h => ?_)
  obtain ⟨wd, W, n, rfl, hK, hw, hn, q⟩ := h
  refine ⟨_, PSs.nox (pss_cons (ps_par3 (by rfl) sc_law_threes.nd (i := 4) (j := 5) (l := 6) rfl rfl rfl (by decide) (by decide) (by decide) rfl rfl rfl (pa_cons pe_dnewK (pa_cons (pe_lst pa_nil) (pa_cons pe_int pa_nil))) (by rfl))
  (pss_cons (ps_for PassesOwn.never rfl (pi_range1 (by rfl) T.n_range (pa_cons (pv 1) pa_nil)) (pg_name (i := 2) sc_law_threes.nd rfl (by first | exact Or.inl rfl | exact Or.inr rfl))
    (pss_cons (ps_expr (pe_bm PySem.F.plainAttrs_list PySem.F.slot_list_append PySem.F.type_list_append mt_append (pv 5) (pa_cons (pe_call (G_law_rest T) (hr.mono (by decide)) (by rfl) T.g_law_rest T.F_law_rest.kp T.b_law_rest .nil pass0 (pa_cons (pv 0) (pa_cons (pe_op op_shl pe_int (pv 2)) pa_nil))) pa_nil)))
  (pss_one (ps_dput (hu_of hr) (pv 4) (pe_ix (k_ixL K rfl) (pv 5) (pv 2) (fun _ _ => rfl)) (pe_op op_cat (pe_dget2 (hu_of hr) (pv 4) (pe_ix (k_ixL K rfl) (pv 5) (pv 2) (fun _ _ => rfl)) (pe_lst pa_nil) ⟨by rfl, by rfl, by rfl, by rfl⟩) (pe_lst (pa_cons (pv 2) pa_nil))) rfl))))
  (pss_cons (ps_for PassesOwn.never rfl (pi_range1 (by rfl) T.n_range (pa_cons (pv 1) pa_nil)) (pg_name (i := 3) sc_law_threes.nd rfl (by first | exact Or.inl rfl | exact Or.inr rfl))
    (pss_one (ps_for PassesOwn.never rfl (pi_range2 (by rfl) T.n_range (pa_cons (pe_op op_add (pv 3) pe_int) (pa_cons (pv 1) pa_nil))) (pg_name (i := 7) sc_law_threes.nd rfl (by first | exact Or.inl rfl | exact Or.inr rfl))
    (pss_one (ps_set (i := 6) sc_law_threes.nd rfl (by first | exact Or.inl rfl | exact Or.inr rfl) (pe_op op_add (pv 6) (pe_callB (k_len K rfl) (by rfl) T.n_len (by decide +kernel) (pa_cons (pe_lc (own := [("_law_last", 8)]) (g := gName 8) (by rfl) sc_law_threes.nd (k_piL K rfl (pe_dget2 (hu_of hr) (pv 4) (pe_op op_xor (pe_ix (k_ixL K rfl) (pv 5) (pv 3) (fun _ _ => rfl)) (pe_ix (k_ixL K rfl) (pv 5) (pv 7) (fun _ _ => rfl))) (pe_lst pa_nil) ⟨by rfl, by rfl, by rfl, by rfl⟩)) (blkOk_by (own := [("_law_last", 8)]) (N := N_law_threes) (sc := defScope s_law_threes) (by decide +kernel)) (fun _ _ _ _ _ => (pg_name (i := 8) sc_law_threes.nd rfl (by first | exact Or.inl rfl | exact Or.inr rfl))) (fun _ _ _ _ _ => (pts_one (pt_cmpR op_gt (pv 8) (pv 7) (nomark _)))) (fun _ _ _ _ _ => (pv 8))) pa_nil))))))))
  (pss_one (ps_ret (pv 6)))))), ?_⟩
  intro sp nsp
  obtain ⟨H1, e1, s1, hsp1⟩ := fresh (.dK []) nsp
  rw [e1]
  refine ⟨Nat.zero_le _, fun f nf => ?_⟩
  obtain ⟨H2, e2, s2, hf2⟩ := fresh (.lst []) nf
  rw [e2]
  have n1 : H sp = none := nsp
  have n2 : H f = none := s1.free nf
  have hsf : sp ≠ f := ne_of_none hsp1 nf
  walk_at "go"
  refine ⟨_, _, _, rfl, ?_⟩
  walk_at "go"
  refine ⟨by omega, by omega, ?_⟩
  rw [Int.toNat_natCast]
  walk_at "b"
  refine for_range (lo := 0) (n := n) (fun i σ H3 => ∃ (v2 v3 v7 v8 : Option V) (kvs : List (Key × V)), σ = [some (.int W), some (.int n), v2, v3, some (.ref sp), some (.ref f), some (.int 0), v7, v8] ∧ Same H H3 ∧ H3 sp = some (.dK kvs) ∧ H3 f = some (.lst ((powsL wd W i).map V.int)) ∧ SpQ wd W i f H3 kvs)
    ⟨_, _, _, _, [], rfl, s1.trans s2, s2 _ _ hsp1, hf2, Nat.le_refl _, fun x => .inl ⟨rfl, rfl⟩⟩ ?_ ?_
  · rintro i σ H3 hi ⟨v2, v3, v7, v8, kvs, rfl, s3, hsp3, hf3, hS3⟩
    rw [Int.zero_add]
    walk_at "go"
    refine ⟨.inl ⟨rfl, _, .inl (.inl hf3)⟩, ?_⟩
    walk_at "go"
    refine ⟨⟨by omega, by omega, by decide⟩, ?_⟩
    walk_at "b"
    have esh : (1 : Int) * 2 ^ ((i : Int)).toNat = ((2 ^ i : Nat) : Int) := by rw [Int.one_mul, Int.toNat_natCast, Int.natCast_pow]; rfl
    rw [esh]
    walk_at "go"
    refine ⟨wd, W, 2 ^ i, rfl, hK, by omega, Nat.pow_lt_pow_right (by decide) (by omega), ?_⟩
    rw [show rem wd W (2 ^ i) = pw wd W i from rfl]
    walk_at "go"
    refine ⟨f, _, _, rfl, rfl, hf3, by rw [List.length_map, powsL_len]; exact small1000' (by omega), ?_⟩
    obtain ⟨H4, e4⟩ : ∃ H4, upd H3 f (.lst ((powsL wd W i).map V.int ++ [V.int (pw wd W i)])) = H4 := ⟨_, rfl⟩
    rw [e4]
    have hf4 : H4 f = some (.lst ((powsL wd W (i + 1)).map V.int)) := by
      rw [← e4, upd_same, powsL_next, List.map_append]
      rfl
    have o4 : ∀ b o, b ≠ f → H3 b = some o → H4 b = some o := fun b o nb hb => by rw [← e4, upd_ne nb]; exact hb
    have s4 : Same H H4 := by rw [← e4]; exact same_over n2 s3
    have hsp4 := o4 _ _ hsf hsp3
    have hS4 := hS3.but (H' := H4) fun b o nb hb => o4 b _ nb hb
    have at4 : ∀ {H5 : Hp}, Same H4 H5 → SqL K H5 f ((powsL wd W (i + 1)).map V.int) ∧ atI ((powsL wd W (i + 1)).map V.int) (i : Int) = some (.int ((pw wd W i : Nat) : Int)) := fun s => ⟨.inl (.inl (s _ _ hf4)), powsL_atI (Nat.lt_succ_self i)⟩
    walk_at "go"
    refine ⟨.inl ⟨kvs, .inl hsp4⟩, ?_⟩
    walk_at "go"
    refine ⟨f, _, _, _, rfl, rfl, (at4 (Same.refl _)).1, (at4 (Same.refl _)).2, ?_⟩
    refine ⟨Nat.zero_le _, fun l nl => ?_⟩
    obtain ⟨H5, e5, s5, h5⟩ := fresh (.lst []) nl
    rw [e5]
    obtain ⟨m, em, hm⟩ := hS4.get (pw wd W i) s5 h5
    refine ⟨_, DGet.k (k := .inl ((pw wd W i : Nat) : Int)) (s5 _ _ hsp4), ?_⟩
    rw [em]
    walk_at "go"
    refine ⟨(show 1 ≤ sizeLine by decide), fun l2 nl2 => ?_⟩
    obtain ⟨H6, e6, s6, h6⟩ := fresh (.lst [V.int i]) nl2
    rw [e6]
    have pl := plN_len wd W i (pw wd W i)
    have enl : ∀ l : List Nat, (natI l).length = l.length := fun l => List.length_map ..
    refine ⟨m, l2, _, _, rfl, rfl, s6 _ _ hm, h6, by rw [List.length_map, enl]; exact Nat.le_of_lt (small1000' (show _ + 1 ≤ _ by omega)), fun l3 nl3 => ?_⟩
    obtain ⟨H7, e7, s7, h7⟩ := fresh (.lst ((natI (plN wd W i (pw wd W i))).map V.int ++ [V.int i])) nl3
    rw [e7]
    have s47 := (s5.trans s6).trans s7
    walk_at "go"
    refine ⟨f, _, _, _, rfl, rfl, (at4 s47).1, (at4 s47).2, ?_⟩
    have hsp7 := s47 _ _ hsp4
    have hf7 := s47 _ _ hf4
    have hS7 := hS4.but (H' := H7) fun b o nb hb => s47 b _ hb
    refine ⟨sp, _, rfl, DPut.k (k := .inl ((pw wd W i : Nat) : Int)) hsp7 (Nat.lt_of_le_of_lt hS7.1 (small1000' (by omega))), ?_⟩
    have l3f : l3 ≠ f := (ne_of_none (s6 _ _ (s5 _ _ hf4)) nl3).symm
    have l3s : l3 ≠ sp := (ne_of_none (s6 _ _ (s5 _ _ hsp4)) nl3).symm
    refine ⟨_, _, _, _, _, rfl, same_over n1 (s4.trans s47), upd_same, by rw [upd_ne hsf.symm]; exact hf7, ?_⟩
    have hS8 := hS7.but (H' := upd H7 sp (.dK (putK kvs (.inl ((pw wd W i : Nat) : Int)) (.ref l3)))) fun b xs nb hb => by
      rw [upd_ne fun z => by rw [z, hsp7] at hb; cases hb]
      exact hb
    refine hS8.next l3f ?_
    rw [upd_ne l3s, h7]
    unfold natI
    rw [List.map_append, List.map_append]
    rfl
  rintro σ H3 ⟨v2, v3, v7, v8, kvs, rfl, s3, hsp3, hf3, hS3⟩
  walk_at "go"
  refine ⟨by omega, by omega, ?_⟩
  rw [Int.toNat_natCast]
  walk_at "b"
  have atP : ∀ {H5 : Hp} {a : Nat}, Same H3 H5 → a < n → SqL K H5 f ((powsL wd W n).map V.int) ∧ atI ((powsL wd W n).map V.int) (a : Int) = some (.int ((pw wd W a : Nat) : Int)) := fun s ha => ⟨.inl (.inl (s _ _ hf3)), powsL_atI ha⟩
  refine for_range (lo := 0) (n := n) (fun i σ H4 => ∃ (v2 v3 v7 v8 : Option V) (F : Int), σ = [some (.int W), some (.int n), v2, v3, some (.ref sp), some (.ref f), some (.int F), v7, v8] ∧ Same H3 H4 ∧ F + subC ((pws wd W n).drop i) 3 0 = subC (pws wd W n) 3 0) ⟨_, _, _, _, 0, rfl, Same.refl _, by rw [List.drop_zero, Int.zero_add]⟩ ?_ ?_
  · rintro i σ H4 hi ⟨v2, v3, v7, v8, F, rfl, s4, hF⟩
    rw [Int.zero_add]
    walk_at "go"
    refine ⟨⟨by omega, by omega, by omega, by omega⟩, ?_⟩
    walk_at "b"
    refine for_range (lo := (i : Int) + 1) (n := ((n : Int) - ((i : Int) + 1)).toNat) (fun k σ H5 => ∃ (v7 v8 : Option V) (G : Int), σ = [some (.int W), some (.int n), v2, some (.int (i : Int)), some (.ref sp), some (.ref f), some (.int G), v7, v8] ∧ Same H3 H5 ∧ G + subC ((pws wd W n).drop (i + 1 + k)) 2 (pw wd W i) = F + subC ((pws wd W n).drop (i + 1)) 2 (pw wd W i)) ⟨_, _, F, rfl, s4, rfl⟩ ?_ ?_
    · rintro k σ H5 hk ⟨v7, v8, G, rfl, s5, hG⟩
      rw [show ((i : Int) + 1 + (k : Int)) = ((i + 1 + k : Nat) : Int) by omega]
      obtain ⟨j, hj⟩ : ∃ j, j = i + 1 + k := ⟨_, rfl⟩
      have hjn : j < n := by omega
      rw [← hj] at hG ⊢
      have hsp5 := s5 _ _ hsp3
      walk_at "go"
      refine ⟨.inl ⟨kvs, .inl hsp5⟩, ?_⟩
      walk_at "go"
      refine ⟨f, _, _, _, rfl, rfl, (atP s5 hi).1, (atP s5 hi).2, ?_⟩
      walk_at "go"
      refine ⟨f, _, _, _, rfl, rfl, (atP s5 hjn).1, (atP s5 hjn).2, ?_⟩
      refine ⟨_, _, rfl, rfl, ?_⟩
      refine ⟨Nat.zero_le _, fun l nl => ?_⟩
      obtain ⟨H6, e6, s6, h6⟩ := fresh (.lst []) nl
      rw [e6]
      have s36 := s5.trans s6
      have ex := bx (pw wd W i) (pw wd W j)
      obtain ⟨v, hv⟩ : ∃ v, v = pw wd W i ^^^ pw wd W j := ⟨_, rfl⟩
      rw [← hv] at ex
      obtain ⟨m, em, hm⟩ := hS3.get v s36 h6
      refine ⟨valV kvs (.inl (v : Int)), by show DGet H6 sp (V.int (Builtin.bitXor ((pw wd W i : Nat) : Int) ((pw wd W j : Nat) : Int))) _; rw [ex]; exact DGet.k (k := .inl (v : Int)) (s36 _ _ hsp3), ?_⟩
      rw [em]
      have pl := plN_len wd W n v
      have enl : ∀ l : List Nat, (natI l).length = l.length := fun l => List.length_map ..
      refine ⟨m, rfl, ⟨_, .inl (.inl hm)⟩, fun D nD => ?_⟩
      refine lc_selL (K := K) (xs := (natI (plN wd W n v)).map V.int) ((plN wd W n v).map fun b => if j < b then some (V.int (b : Int)) else none) nD (.inl (.inl hm)) (by rw [List.length_map, List.length_map, enl]) (by rw [List.length_map, enl]; exact small1000' (by omega)) (fun x => rfl) ?_ ?_
      · intro a x o H7 hx ho s7 Qt qt
        obtain ⟨b, hb⟩ : ∃ b, (plN wd W n v)[a]? = some b := by
          rw [List.getElem?_map] at ho
          obtain ⟨b, hb, _⟩ := Option.map_eq_some_iff.mp ho
          exact ⟨b, hb⟩
        unfold natI at hx
        rw [List.getElem?_map, List.getElem?_map, hb] at hx
        rw [List.getElem?_map, hb] at ho
        cases hx
        cases ho
        walk_at "go"
        refine ite2 (fun c => ?_) (fun c => ?_)
        · have c1 : (j : Int) < (b : Int) := of_decide_eq_true c
          have z := qt H7 (Same.refl _)
          dsimp only at z
          rw [if_pos (by omega)] at z
          exact ⟨_, rfl, z⟩
        · have c1 : ¬ (j : Int) < (b : Int) := of_decide_eq_false (by rwa [Bool.not_eq_true] at c)
          have z := qt H7 (Same.refl _)
          dsimp only at z
          rw [if_neg (by omega)] at z
          exact z
      · intro H7 s7 hD
        refine ⟨D, _, rfl, .inl (.inl (.inl hD)), ?_⟩
        refine ⟨_, _, rfl, rfl, ?_⟩
        refine ⟨_, _, _, rfl, s36.trans s7, ?_⟩
        rw [behind_sel, show i + 1 + (k + 1) = j + 1 by omega]
        rw [threes_two hjn, ← hv, cnt_behind] at hG
        unfold plN
        omega
    · rintro σ H5 ⟨v7, v8, G, rfl, s5, hG⟩
      rw [show i + 1 + ((n : Int) - ((i : Int) + 1)).toNat = n by omega, drop_all, Int.add_zero] at hG
      exact ⟨_, _, _, _, _, rfl, s5, by rw [hG, Int.add_assoc, Int.add_comm (subC _ 2 _), ← threes_one hi]; exact hF⟩
  rintro σ H4 ⟨v2, v3, v7, v8, F, rfl, s4, hF⟩
  rw [drop_all, Int.add_zero] at hF
  walk_at "go"
  rw [hF]
  exact q _ (s3.trans s4)
end
end My

namespace My
section
variable {w W : Nat} (C : Ck w W)
/-! ### the law's counts of all numbers, by their ones -/
theorem sg_swap (g : Nat → Nat → Int) (n : Nat) : ∀ j : Nat, sg n (fun f => sg j (g f)) = sg j (fun x => sg n fun f => g f x)
  | 0 => sg_zero n
  | j + 1 => by
    show sg n (fun f => sg j (g f) + g f j) = sg j (fun x => sg n fun f => g f x) + sg n fun f => g f j
    rw [sg_add, sg_swap g n j]
def cntF (w W m j f : Nat) : Int := sg j fun x => if rem w W x = 0 ∧ (onesN x m).length = f then 1 else 0
def cntS (w W m j : Nat) : List Int := (List.range 9).map (cntF w W m j)
theorem cntS_len (m j : Nat) : (cntS w W m j).length = 9 := by
  unfold cntS
  rw [List.length_map, List.length_range]
theorem cntS_get {m j f : Nat} (h : f < 9) : (cntS w W m j)[f]? = some (cntF w W m j f) := by
  unfold cntS
  rw [List.getElem?_map, List.getElem?_range h]
  rfl
theorem cntF_next (m j f : Nat) : cntF w W m (j + 1) f = cntF w W m j f + if rem w W j = 0 ∧ (onesN j m).length = f then 1 else 0 := rfl
theorem cntS_no {m j : Nat} (h : rem w W j ≠ 0) : cntS w W m (j + 1) = cntS w W m j :=
  List.map_congr_left fun f _ => by rw [cntF_next, if_neg (fun z => h z.1), Int.add_zero]
theorem cntS_yes {m j : Nat} (h : rem w W j = 0) (l : (onesN j m).length < 9) : (cntS w W m j).set (onesN j m).length (cntF w W m j (onesN j m).length + 1) = cntS w W m (j + 1) := by
  apply List.ext_getElem?
  intro i
  by_cases hi : i < 9
  · rw [List.getElem?_set, cntS_get hi, cntS_get hi, cntS_len, cntF_next]
    by_cases c : (onesN j m).length = i
    · rw [if_pos c, if_pos l, if_pos ⟨h, c⟩, c]
    · rw [if_neg c, if_neg (fun z => c z.2), Int.add_zero]
  · rw [List.getElem?_eq_none (by rw [List.length_set, cntS_len]; omega), List.getElem?_eq_none (by rw [cntS_len]; omega)]
theorem cntF_bnd (m f : Nat) : ∀ j : Nat, 0 ≤ cntF w W m j f ∧ cntF w W m j f ≤ (j : Int)
  | 0 => ⟨Int.le_refl 0, Int.le_refl 0⟩
  | j + 1 => by
    obtain ⟨h1, h2⟩ := cntF_bnd m f j
    rw [cntF_next]
    split <;> omega
theorem ones_le (x m : Nat) : (onesN x m).length ≤ m := Nat.le_trans (List.length_filter_le _ _) (by rw [List.length_range]; exact Nat.le_refl _)
include C in
theorem cntF_all (m f : Nat) : cntF w W m (2 ^ m) f = subC (pws w W m) f 0 := numC_eq C m f 0
include C in
theorem cntS_sum {m : Nat} (hm : m ≤ 8) (h : w ≤ m) : sg 9 (cntF w W m (2 ^ m)) = 2 ^ (m - w) := by
  have e : sg 9 (cntF w W m (2 ^ m)) = remC w W m 0 := by
    show sg 9 (fun f => sg (2 ^ m) fun x => if rem w W x = 0 ∧ (onesN x m).length = f then 1 else 0) = _
    rw [sg_swap]
    refine sg_congr fun x _ => ?_
    by_cases c : rem w W x = 0
    · rw [if_pos c, sg_congr (g := fun i => if i = (onesN x m).length then 1 else 0) fun i _ => ?_]
      · exact sg_one (by have := ones_le x m; omega) 1
      · by_cases d : i = (onesN x m).length
        · rw [if_pos d, if_pos ⟨c, d.symm⟩]
        · rw [if_neg d, if_neg (fun z => d z.2.symm)]
    · rw [if_neg c, sg_congr (g := fun _ => 0) fun i _ => if_neg (fun z => c z.1)]
      exact sg_zero 9
  obtain ⟨k, rfl⟩ : ∃ k, m = w + k := ⟨m - w, by omega⟩
  rw [e, remC_high C k 0 (Nat.two_pow_pos w), Nat.add_sub_cancel_left]
/-- the law's own sum is of no sign -/
theorem lawT_nonneg {n : Nat} {v t : Int} (hv : 0 ≤ v) (ht : 0 ≤ t) : 0 ≤ lawT w W n v t :=
  sg_nonneg fun i _ => Int.mul_nonneg (Int.mul_nonneg (subC_nonneg _ _ _) (Int.pow_nonneg ht)) (Int.pow_nonneg hv)
def lawK (w W n : Nat) (v t : Int) (k : Nat) : Int := sg k fun i => subC (pws w W n) (i + 1) 0 * t ^ (i + 1) * v ^ (n - (i + 1))
theorem lawK_next (n : Nat) (v t : Int) (k : Nat) : lawK w W n v t (k + 1) = lawK w W n v t k + subC (pws w W n) (k + 1) 0 * t ^ (k + 1) * v ^ (n - (k + 1)) := rfl
end
end My

namespace My
open PySem PySem.Spec PyProof.Rows L2 Pre
theorem pow_small8 {b : Int} {k : Nat} (hb : b.natAbs ≤ 12) (hk : k ≤ 8) : (b ^ k).natAbs < 2 ^ 40 := by
  rw [Int.natAbs_pow]
  exact Nat.lt_of_le_of_lt (Nat.le_trans (Nat.pow_le_pow_left hb k) (Nat.pow_le_pow_right (by decide) hk)) (by decide)
/-- ways of an `and` that meet again behind it -/
theorem join3 {b : Bool} {A B : Prop} {R : Hp → Prop} {H : Hp} (Pv : Hp → Prop) (cont : ∀ H', Pv H' → R H') (h1 : b = true → (∀ H', Pv H' → R H') → A) (h2 : b = false → Pv H) : if b = true then A else (if false = true then B else R H) := by
  cases b with
  | true => rw [if_pos rfl]; exact h1 rfl cont
  | false => rw [if_neg (by decide), if_neg (by decide)]; exact cont _ (h2 rfl)
local macro_rules | `(tactic| walk_at "go") => `(tactic| repeat (first | (with_reducible first | refine iteT ?_ | refine iteF ?_ | refine iteNtt ?_ | refine iteNff ?_ | refine iteET (by omega) ?_ | refine iteEF (by omega) ?_ | refine iteENT (by omega) ?_ | refine iteENF (by omega) ?_ | refine iteDT (by omega) ?_ | refine iteDF (by omega) ?_ | refine iteNT (by omega) ?_ | refine iteNF (by omega) ?_) | refine ⟨_, rfl, ?_⟩ | refine ⟨_, _, rfl, rfl, ?_⟩ | refine ⟨_, _, rfl, ?_⟩ | refine ⟨rfl, ?_⟩ | refine .inl ⟨_, rfl, ?_⟩ | refine .inr ⟨_, rfl, ?_⟩))
local macro_rules | `(tactic| walk_at "b") => `(tactic| try dsimp (config := { proj := false, iota := false, eta := false, zeta := false }) only)
section
variable {P : Program} {w : World} {K : PySem.W.Frag} {mg : Str → Option Value} {base : Heap}
def sp_law_places : Sp := fun vs H Q _ => ∃ n k : Nat, vs = [.int n] ∧ n < 2 ^ k ∧ k ≤ 1000 ∧ ∀ H' p, Same H H' → H p = none → H' p = some (.lst ((natI (onesN n k)).map V.int)) → Q (.ref p) H'
theorem G_law_places (T : Top K mg) : FnOk P w K mg base CX0 1 T.f_law_places T.fd_law_places ["_law_number"] sp_law_places := by
  refine T.F_law_places.ok sc_law_places (fun vs H Q E h => by obtain ⟨n, k0, rfl, _⟩ := h; rfl) (fun cdv A outer s H vs Q E hr h => ?_)
  obtain ⟨n, k0, rfl, hn, hk0, q⟩ := h
  refine ⟨_, PSs.nox (pss_one (ps_ret (pe_lc (own := [("_law_place", 1)]) (g := gName 1) (by rfl) sc_law_places.nd (pi_range1 (by rfl) T.n_range (pa_cons (pe_bits (pv 0)) pa_nil)) (blkOk_by (own := [("_law_place", 1)]) (N := N_law_places) (sc := defScope s_law_places) (by decide +kernel)) (fun _ _ _ _ _ => (pg_name (i := 1) sc_law_places.nd rfl (by first | exact Or.inl rfl | exact Or.inr rfl))) (fun _ _ _ _ _ => (pts_one (pt_cmpR op_eq (pe_op op_mod (pe_op op_shr (pv 0) (pv 1)) pe_int) pe_int (nomark _)))) (fun _ _ _ _ _ => (pv 1))))), ?_⟩
  have hb : Builtin.Int.intBits (n : Int) ≤ k0 := bl_iff.mpr hn
  have hs : n < 2 ^ Builtin.Int.intBits (n : Int) := bl_iff.mp (Nat.le_refl _)
  rw [ones_more hs hb] at q
  obtain ⟨k, ek⟩ : ∃ k, Builtin.Int.intBits (n : Int) = k := ⟨_, rfl⟩
  rw [ek] at hb q
  refine ⟨_, rfl, _, rfl, _, rfl, by rw [ek]; omega, by rw [ek]; omega, fun D nD => ?_⟩
  rw [ek]
  refine lc_selR (lo := 0) (n := ((k : Int)).toNat) ((List.range k).map fun i => if n.testBit i = true then some (V.int (i : Int)) else none) nD (by rw [List.length_map, List.length_range]; rfl) (small1000' (by omega)) (fun x => rfl) ?_ ?_
  · intro i o H' hi ho s Qt qt
    rw [Int.toNat_natCast] at hi
    rw [List.getElem?_map, List.getElem?_range hi] at ho
    cases ho
    rw [show (0 + (i : Int)) = (i : Int) by omega]
    have eb := bit_mod n i
    refine ⟨_, rfl, _, rfl, _, _, rfl, rfl, by omega, _, _, rfl, rfl, (by show (0 : Int) < 2; decide), rfl, _, rfl, ?_⟩
    by_cases c : n.testBit i = true
    · refine iteET (eb.trans (by rw [c]; rfl)) ?_
      have z := qt H' (Same.refl _)
      dsimp only at z
      rw [if_pos c] at z
      exact ⟨_, rfl, z⟩
    · refine iteEF (fun z => c (by have z2 := eb.symm.trans z; cases h : n.testBit i <;> first | rfl | (rw [h] at z2; simp at z2))) ?_
      have z := qt H' (Same.refl _)
      dsimp only at z
      rw [if_neg c] at z
      exact z
  · intro H' s hD
    rw [ones_sel] at hD
    exact q _ D s nD hD
def sp_law_small_right (C : Addr) (K : PySem.W.Frag) : Sp := fun vs H Q _ => ∃ (g c : Addr) (N wd W m : Nat), vs = [.ref g, .ref c, .int W, .int m] ∧ GenAt H g N ∧ N ≤ 10 ^ 11 ∧ CheckAt C H c wd W ∧ wd ≤ 4 ∧ m ≤ 8 ∧ ∀ H', But g H H' → GenAt H' g (N + 300) → Q (.bl true) H'
theorem G_law_small_right (T : Top K mg) : FnOk P w K mg base CX0 6 T.f_law_small_right T.fd_law_small_right ["_law_generator_here", "_law_check", "_law_whole", "_law_many"] (sp_law_small_right T.C_Check K) := by
  refine T.F_law_small_right.ok sc_law_small_right (fun vs H Q E h => by obtain ⟨g, c, N, wd, W, m, rfl, _⟩ := h; rfl) (fun cdv A outer s H vs Q E hr h => ?_)
  obtain ⟨g, c, N, wd, W, m, rfl, hG, hN, hC, hw, hm, q⟩ := h
  refine ⟨_, PSs.nox (pss_cons (ps_set (i := 4) sc_law_small_right.nd rfl (by first | exact Or.inl rfl | exact Or.inr rfl) (pe_op op_rep (pe_lst (pa_cons pe_int pa_nil)) pe_int))
  (pss_cons (ps_for PassesOwn.never rfl (pi_range1 (by rfl) T.n_range (pa_cons (pe_op op_shl pe_int (pv 3)) pa_nil)) (pg_name (i := 5) sc_law_small_right.nd rfl (by first | exact Or.inl rfl | exact Or.inr rfl))
    (pss_one (ps_if (pt_cmpR op_eq (pe_call (G_law_rest T) (hr.mono (by decide)) (by rfl) T.g_law_rest T.F_law_rest.kp T.b_law_rest .nil pass0 (pa_cons (pv 2) (pa_cons (pv 5) pa_nil))) pe_int (nomark _))
    (pss_cons (ps_set (i := 10) sc_law_small_right.nd rfl (by first | exact Or.inl rfl | exact Or.inr rfl) (pe_callB (k_len K rfl) (by rfl) T.n_len (by decide +kernel) (pa_cons (pe_call (G_law_places T) (hr.mono (by decide)) (by rfl) T.g_law_places T.F_law_places.kp T.b_law_places .nil pass0 (pa_cons (pv 5) pa_nil)) pa_nil)))
  (pss_one (ps_asg (pe_op op_add (pe_ix (k_ixL K rfl) (pv 4) (pv 10) (fun _ _ => rfl)) pe_int) (pg_sub (pv 4) (pv 10) set_list))))
    pss_nil)))
  (pss_cons (ps_if (pt_cmpR (k_neD K rfl hr.units) (pe_lc (own := [("_law_few", 9)]) (g := gName 9) (tt := tYes) (by rfl) sc_law_small_right.nd (pi_range1 (by rfl) T.n_range (pa_cons pe_int pa_nil)) (blkOk_by (own := [("_law_few", 9)]) (N := N_law_small_right) (sc := defScope s_law_small_right) (by decide +kernel)) (fun _ _ _ _ _ => (pg_name (i := 9) sc_law_small_right.nd rfl (by first | exact Or.inl rfl | exact Or.inr rfl))) (fun _ _ _ _ _ => pts_nil) (fun _ _ _ _ _ => (pe_call (G_how_many_unseen T) (hr.mono (by decide)) (by rfl) T.g_how_many_unseen T.F_how_many_unseen.kp T.b_how_many_unseen .nil pass0 (pa_cons (pv 1) (pa_cons (pv 3) (pa_cons (pv 9) pa_nil)))))) (pv 4) (nomark _))
    (pss_one (ps_ret pe_bl))
    pss_nil)
  (pss_cons (ps_if (PW.pt (pw_and (pt_cmpR op_ge (pv 3) (pe_prop (pv 1) T.cl_Check T.po_Check_width (G_Check_width T) (hr.mono (by decide)) T.bp_Check_width .nil pass0 rfl) (nomark _)) (pw_and1 (pt_cmpR op_ne (pe_callB (k_sum K rfl rfl) (by rfl) T.n_sum (by decide +kernel) (pa_cons (pv 4) pa_nil)) (pe_op op_shl pe_int (pe_op op_sub (pv 3) (pe_prop (pv 1) T.cl_Check T.po_Check_width (G_Check_width T) (hr.mono (by decide)) T.bp_Check_width .nil pass0 rfl))) (nomark _)))))
    (pss_one (ps_ret pe_bl))
    pss_nil)
  (pss_cons (ps_set (i := 6) sc_law_small_right.nd rfl (by first | exact Or.inl rfl | exact Or.inr rfl) (pe_op op_add pe_int (pe_call (G_law_random T) (hr.mono (by decide)) (by rfl) T.g_law_random T.F_law_random.kp T.b_law_random .nil pass0 (pa_cons (pv 0) (pa_cons pe_int pa_nil)))))
  (pss_cons (ps_for PassesOwn.never rfl (k_piL K rfl (pe_lst (pa_cons (pe_call (G_law_random T) (hr.mono (by decide)) (by rfl) T.g_law_random T.F_law_random.kp T.b_law_random .nil pass0 (pa_cons (pv 0) (pa_cons (pe_op op_add (pv 6) pe_int) pa_nil))) (pa_cons pe_int (pa_cons (pv 6) pa_nil))))) (pg_name (i := 7) sc_law_small_right.nd rfl (by first | exact Or.inl rfl | exact Or.inr rfl))
    (pss_cons (ps_set (i := 8) sc_law_small_right.nd rfl (by first | exact Or.inl rfl | exact Or.inr rfl) pe_int)
  (pss_cons (ps_for PassesOwn.never rfl (pi_range2 (by rfl) T.n_range (pa_cons pe_int (pa_cons (pe_op op_add (pv 3) pe_int) pa_nil))) (pg_name (i := 9) sc_law_small_right.nd rfl (by first | exact Or.inl rfl | exact Or.inr rfl))
    (pss_one (ps_set (i := 8) sc_law_small_right.nd rfl (by first | exact Or.inl rfl | exact Or.inr rfl) (pe_op op_add (pv 8) (pe_op op_mul (pe_op op_mul (pe_ix (k_ixL K rfl) (pv 4) (pv 9) (fun _ _ => rfl)) (pe_call (G_law_raised T) (hr.mono (by decide)) (by rfl) T.g_law_raised T.F_law_raised.kp T.b_law_raised .nil pass0 (pa_cons (pv 7) (pa_cons (pv 9) pa_nil)))) (pe_call (G_law_raised T) (hr.mono (by decide)) (by rfl) T.g_law_raised T.F_law_raised.kp T.b_law_raised .nil pass0 (pa_cons (pe_op op_sub (pv 6) (pv 7)) (pa_cons (pe_op op_sub (pv 3) (pv 9)) pa_nil))))))))
  (pss_one (ps_if (pt_cmpR (k_neD K rfl hr.units) (pe_call (G_chance T) (hr.mono (by decide)) (by rfl) T.g_chance T.F_chance.kp T.b_chance .nil pass0 (pa_cons (pv 1) (pa_cons (pv 3) (pa_cons (pv 7) (pa_cons (pv 6) pa_nil))))) (pe_call (G_law_lowest T) (hr.mono (by decide)) (by rfl) T.g_law_lowest T.F_law_lowest.kp T.b_law_lowest .nil pass0 (pa_cons (pv 8) (pa_cons (pe_call (G_law_raised T) (hr.mono (by decide)) (by rfl) T.g_law_raised T.F_law_raised.kp T.b_law_raised .nil pass0 (pa_cons (pv 6) (pa_cons (pv 3) pa_nil))) pa_nil))) (nomark _))
    (pss_one (ps_ret pe_bl))
    pss_nil)))))
  (pss_one (ps_ret pe_bl)))))))), ?_⟩
  have hK := hC.1
  have h17 : 2 ^ m ≤ 2 ^ 8 := Nat.pow_le_pow_right (by decide) hm
  have hzn : (0 : Int) < ((2 ^ m : Nat) : Int) := Int.natCast_pos.mpr (Nat.two_pow_pos m)
  have eN : (1 : Int) * 2 ^ ((m : Int)).toNat = ((2 ^ m : Nat) : Int) := by rw [Int.toNat_natCast, Int.one_mul, Int.natCast_pow]; rfl
  refine ⟨(show 1 ≤ sizeLine by decide), fun z0 nz => ?_⟩
  obtain ⟨H1, e1, s1, h1⟩ := fresh (.lst [V.int 0]) nz
  rw [e1]
  walk_at "go"
  refine ⟨z0, _, _, rfl, rfl, h1, by omega, by omega, by rw [sizeLine_eq]; decide, fun l nl => ?_⟩
  obtain ⟨H2, e2, s2, h2⟩ := fresh (.lst ((cntS wd W m 0).map V.int)) nl
  rw [show upd H1 l (.lst (List.replicate (9 : Int).toNat [V.int 0]).flatten) = H2 from e2]
  have s12 := s1.trans s2
  have nlH : H l = none := s1.free nl
  have lg : l ≠ g := hG.ne nlH
  walk_at "go"
  refine ⟨⟨by omega, by omega, by decide⟩, ?_⟩
  walk_at "b"
  rw [eN]
  walk_at "go"
  refine ⟨by omega, by omega, ?_⟩
  rw [Int.toNat_natCast]
  walk_at "b"
  refine for_range (lo := 0) (n := 2 ^ m) (fun j σ H3 => ∃ (v5 v10 : Option V), σ = [some (.ref g), some (.ref c), some (.int W), some (.int m), some (.ref l), v5, none, none, none, none, v10] ∧ Same H H3 ∧ H3 l = some (.lst ((cntS wd W m j).map V.int))) ⟨none, none, rfl, s12, h2⟩ ?_ ?_
  · rintro j σ H3 hj ⟨v5, v10, rfl, s3, h3⟩
    rw [Int.zero_add]
    walk_at "go"
    refine ⟨wd, W, j, rfl, hK, by omega, Nat.lt_of_lt_of_le hj (Nat.pow_le_pow_right (by decide) (by omega)), ?_⟩
    walk_at "go"
    by_cases cz : rem wd W j = 0
    · refine iteET (by rw [cz]; rfl) ?_
      walk_at "go"
      refine ⟨j, m, rfl, hj, by omega, fun H4 p s4 np h4 => ?_⟩
      refine ⟨p, _, rfl, .inl (.inl (.inl h4)), ?_⟩
      rw [nat_len]
      have h34 := s4 _ _ h3
      have l9 := ones_le j m
      have l9' : (onesN j m).length < 9 := by omega
      walk_at "go"
      refine ⟨l, _, _, _, rfl, rfl, .inl (.inl h34), atI_nat (by rw [List.getElem?_map, cntS_get l9']; rfl), ?_⟩
      walk_at "go"
      refine ⟨l, _, _, (onesN j m).length, rfl, rfl, h34, by rw [List.length_map, cntS_len]; unfold ixN; rw [if_pos (by omega), Int.toNat_natCast, if_pos (Int.ofNat_lt.mpr l9')], ?_⟩
      refine ⟨_, _, rfl, same_over nlH (s3.trans s4), ?_⟩
      rw [upd_same, ← cntS_yes cz l9', List.map_set]
    · refine iteEF (fun z => cz (by omega)) ?_
      exact ⟨_, _, rfl, s3, by rw [cntS_no cz]; exact h3⟩
  rintro σ H3 ⟨v5, v10, rfl, s3, h3⟩
  have hC3 := hC.same s3
  have hG3 := hG.same s3
  walk_at "go"
  refine ⟨by decide, by decide, fun D nD => ?_⟩
  refine lc_mapR (lo := 0) (n := 9) ((cntS wd W m (2 ^ m)).map V.int) nD (by rw [List.length_map, cntS_len]) (small1000' (by omega)) (fun x => rfl) ?_ ?_
  · intro i y H' hi hy s Qt qt
    rw [List.getElem?_map, cntS_get hi] at hy
    cases hy
    rw [Int.zero_add]
    walk_at "go"
    refine ⟨c, wd, W, m, i, rfl, hC3.same s, by omega, by omega, by omega, fun H4 s4 => ?_⟩
    have z := qt _ s4
    rw [cntF_all hK m i] at z
    exact z
  intro H4 s4 hD
  have s34 := s4
  have h4 := s4 _ _ h3
  walk_at "go"
  refine ne_lst (.inl (.inl hD)) (.inl (.inl h4)) ?_
  walk_at "go"
  have hC4 := hC3.same s4
  have hG4 := hG3.same s4
  obtain ⟨_, _, dx, hc4⟩ := id hC4
  refine ⟨c, dx, _, rfl, hc4, c, dx, _, _, rfl, hc4, rfl, ?_⟩
  walk_at "go"
  walk_at "b"
  refine join3 (fun H' => H' = H4) (fun Hx ex => ?_) (fun hd cont => ?_) (fun hd => rfl)
  rotate_left
  · have hwm : wd ≤ m := by have := of_decide_eq_true hd; omega
    walk_at "go"
    refine ⟨l, cntS wd W m (2 ^ m), rfl, .inl (.inl h4), ?_⟩
    walk_at "go"
    refine ⟨c, dx, _, rfl, hc4, c, dx, _, _, rfl, hc4, rfl, ?_⟩
    refine ⟨_, _, rfl, rfl, ?_⟩
    refine ⟨_, _, rfl, rfl, ⟨by omega, by omega, by decide⟩, ?_⟩
    refine ⟨rfl, _, rfl, iteENF ?_ ?_⟩
    · unfold cntS
      rw [sum_sg, cntS_sum hK hm hwm, show ((m : Int) - (wd : Int)).toNat = m - wd by omega, Int.one_mul]
    · exact cont _ rfl
  rw [ex]
  walk_at "go"
  refine ⟨g, _, _, rfl, hG4, by omega, by decide, small_2900 (by decide), fun r1 H5 r10 r11 g5 b5 => ?_⟩
  walk_at "go"
  obtain ⟨u, hu⟩ : ∃ u : Nat, 1 + r1 = (u : Int) := ⟨(1 + r1).toNat, by omega⟩
  walk_at "b"
  rw [hu]
  refine ⟨g, _, _, rfl, g5, by omega, by omega, small_2900 (by omega), fun r2 H6 r20 r21 g6 b6 => ?_⟩
  walk_at "go"
  refine ⟨(show 3 ≤ sizeLine by decide), fun F nF => ?_⟩
  obtain ⟨H7, e7, s7, h7⟩ := fresh (.lst [V.int r2, V.int 0, V.int u]) nF
  rw [e7]
  have b47 : But g H4 H7 := (b5.trans b6).same s7
  obtain ⟨x0, y0, z0', hg4, _⟩ := id hG4
  have hC7 := hC4.but (hC4.ne hg4) b47
  have h7l : H7 l = some (.lst ((cntS wd W m (2 ^ m)).map V.int)) := b47 _ _ lg h4
  have g7 := g6.same s7
  have bH7 : But g H H7 := ((But.of (s3.trans s4)).trans b47)
  refine ⟨F, rfl, ⟨_, .inl (.inl h7)⟩, for_list (K := K) (a := F) (xs := [V.int r2, V.int 0, V.int u]) (fun j σ H8 => ∃ (v7 v8 v9 : Option V), σ = [some (.ref g), some (.ref c), some (.int W), some (.int m), some (.ref l), v5, some (.int u), v7, v8, v9, v10] ∧ Same H7 H8) ⟨_, _, _, rfl, Same.refl _⟩ (fun j σ H8 _ ⟨_, _, _, _, s⟩ => .inl (.inl (s _ _ h7))) ?_ ?_⟩
  · rintro j x σ H8 hx ⟨v7, v8, v9, rfl, s8⟩
    obtain ⟨t, ht, rfl⟩ : ∃ t : Nat, t ≤ u ∧ x = .int (t : Int) := by
      match j, hx with
      | 0, hx => cases hx; exact ⟨r2.toNat, by omega, by congr 1; omega⟩
      | 1, hx => cases hx; exact ⟨0, by omega, rfl⟩
      | 2, hx => cases hx; exact ⟨u, Nat.le_refl _, rfl⟩
      | j + 3, hx => simp at hx
    have hC8 := hC7.same s8
    have h8l := s8 _ _ h7l
    walk_at "go"
    refine ⟨⟨by omega, by omega, by omega, by omega⟩, ?_⟩
    walk_at "b"
    refine for_range (lo := 1) (n := ((m : Int) + 1 - 1).toNat) (fun k σ H9 => ∃ (v9 : Option V), σ = [some (.ref g), some (.ref c), some (.int W), some (.int m), some (.ref l), v5, some (.int u), some (.int t), some (.int (lawK wd W m ((u : Int) - (t : Int)) t k)), v9, v10] ∧ H9 = H8) ⟨_, rfl, rfl⟩ ?_ ?_
    · rintro k σ H9 hk ⟨v9, rfl, rfl⟩
      rw [show (1 : Int) + (k : Int) = ((k + 1 : Nat) : Int) by omega]
      have hk8 : k + 1 < 9 := by omega
      walk_at "go"
      refine ⟨l, _, _, _, rfl, rfl, .inl (.inl h8l), atI_nat (by rw [List.getElem?_map, cntS_get hk8]; rfl), ?_⟩
      have hb := cntF_bnd (w := wd) (W := W) m (k + 1) (2 ^ m)
      have he := cntF_all hK m (k + 1)
      have c3 := pow_small8 (b := (u : Int) - (t : Int)) (k := m - (k + 1)) (by omega) (by omega)
      walk_at "go"
      refine ⟨by omega, by omega, by omega, ?_⟩
      refine ⟨_, _, rfl, rfl, .inl ⟨by omega, by omega⟩, ?_⟩
      walk_at "go"
      refine ⟨(u : Int) - (t : Int), m - (k + 1), by show [V.int ((u : Int) - (t : Int)), V.int ((m : Int) - ((k + 1 : Nat) : Int))] = _; rw [show (m : Int) - ((k + 1 : Nat) : Int) = ((m - (k + 1) : Nat) : Int) by omega], by omega, by omega, by omega, ?_⟩
      refine ⟨_, _, rfl, rfl, .inr ⟨by omega, by omega⟩, ?_⟩
      walk_at "go"
      refine ⟨some (.int ((k + 1 : Nat) : Int)), ?_, rfl⟩
      rw [lawK_next, ← he]
      rfl
    · rintro σ H9 ⟨v9, rfl, rfl⟩
      rw [show ((m : Int) + 1 - 1).toNat = m by omega]
      have hA : 0 ≤ lawT wd W m ((u : Int) - (t : Int)) t := lawT_nonneg (by omega) (by omega)
      obtain ⟨A, hA2⟩ : ∃ A : Nat, lawT wd W m ((u : Int) - (t : Int)) t = (A : Int) := ⟨(lawT wd W m ((u : Int) - (t : Int)) t).toNat, by omega⟩
      have eK : lawK wd W m ((u : Int) - (t : Int)) t m = (A : Int) := hA2
      rw [eK]
      have eP : ((u : Int)) ^ m = ((u ^ m : Nat) : Int) := by rw [Int.natCast_pow]
      walk_at "go"
      refine ⟨c, wd, W, m, t, u, rfl, hC8, by omega, by omega, by omega, by omega, by omega, fun H10 p1 s10 np1 h10 => ?_⟩
      walk_at "go"
      refine ⟨by omega, by omega, by omega, ?_⟩
      rw [eP]
      walk_at "go"
      refine ⟨Nat.pow_pos (by omega), Nat.lt_of_le_of_lt (Nat.le_trans (Nat.pow_le_pow_left (show u ≤ 12 by omega) m) (Nat.pow_le_pow_right (by decide) hm)) (by decide), fun H11 p2 s11 np2 h11 => ?_⟩
      rw [hA2, eP] at h10
      refine ne_tup (.inl (.inl (s11 _ _ h10))) (.inl (.inl h11)) ?_
      walk_at "go"
      exact ⟨_, _, _, rfl, s8.trans (s10.trans s11)⟩
  · rintro σ H8 ⟨v7, v8, v9, rfl, s8⟩
    exact q _ (bH7.same s8) ((g7.same s8).mono (by omega))
end
end My

namespace My
open PySem PySem.Spec PyProof.Rows L2 Pre
theorem lowF_zero {u : Int} (h : 0 < u) : lowF 0 u = (0, 1) := by
  unfold lowF
  rw [Int.gcd_zero_left, show ((u.natAbs : Nat) : Int) = u by omega, Int.zero_ediv, Int.ediv_self (by omega)]
theorem subC_first {wd W : Nat} (C : Ck wd W) (n : Nat) : subC (pws wd W n) 1 0 = 0 := by
  rw [subC_one]
  unfold cnt
  rw [List.filter_eq_nil_iff.mpr fun p hp z => ?_]
  · rfl
  · obtain ⟨i, _, rfl⟩ := List.mem_map.mp hp
    exact pw_ne C i (of_decide_eq_true z)
theorem none_odd {wd W : Nat} (C : Ck wd W) (hW : (onesN W (wd + 1)).length % 2 = 0) (n : Nat) {f : Nat} (hf : f % 2 = 1) : subC (pws wd W n) f 0 = 0 :=
  odd_none (w := wd) (pws_odd C hW n) (by
    have e : onesN 0 wd = [] := List.filter_eq_nil_iff.mpr fun i _ => by rw [Nat.zero_testBit]; decide
    rw [e]
    show (0 + f) % 2 = 1
    omega)
theorem fm_nil4 : ([none, none, none, none] : List (Option V)).filterMap id = [] := rfl
local macro_rules | `(tactic| walk_at "go") => `(tactic| repeat (first | (with_reducible first | refine iteT ?_ | refine iteF ?_ | refine iteNtt ?_ | refine iteNff ?_ | refine iteET (by omega) ?_ | refine iteEF (by omega) ?_ | refine iteENT (by omega) ?_ | refine iteENF (by omega) ?_ | refine iteDT (by omega) ?_ | refine iteDF (by omega) ?_ | refine iteNT (by omega) ?_ | refine iteNF (by omega) ?_) | refine ⟨_, rfl, ?_⟩ | refine ⟨_, _, rfl, rfl, ?_⟩ | refine ⟨_, _, rfl, ?_⟩ | refine ⟨rfl, ?_⟩ | refine .inl ⟨_, rfl, ?_⟩ | refine .inr ⟨_, rfl, ?_⟩))
local macro_rules | `(tactic| walk_at "b") => `(tactic| try dsimp (config := { proj := false, iota := false, eta := false, zeta := false }) only)
section
variable {P : Program} {w : World} {K : PySem.W.Frag} {mg : Str → Option Value} {base : Heap}
def sp_law_great_right (C : Addr) (K : PySem.W.Frag) : Sp := fun vs H Q _ => ∃ (g c : Addr) (N wd W m : Nat), vs = [.ref g, .ref c, .int W, .int m] ∧ GenAt H g N ∧ N ≤ 10 ^ 11 ∧ CheckAt C H c wd W ∧ wd ≤ 8 ∧ m ≤ 40 ∧ ∀ H', But g H H' → GenAt H' g (N + 300) → Q (.bl true) H'
theorem G_law_great_right (T : Top K mg) : FnOk P w K mg base CX0 6 T.f_law_great_right T.fd_law_great_right ["_law_generator_here", "_law_check", "_law_whole", "_law_many"] (sp_law_great_right T.C_Check K) := by
  refine T.F_law_great_right.ok sc_law_great_right (fun vs H Q E h => by obtain ⟨g, c, N, wd, W, m, rfl, _⟩ := h; rfl) (fun cdv A outer s H vs Q E hr h => ?_)
  obtain ⟨g, c, N, wd, W, m, rfl, hG, hN, hC, hw, hm, q⟩ := h
  refine ⟨_, PSs.nox (pss_cons (ps_set (i := 4) sc_law_great_right.nd rfl (by first | exact Or.inl rfl | exact Or.inr rfl) (pe_ix (k_ixL K rfl) (pe_lst (pa_cons (pe_op op_powW pe_int pe_int) (pa_cons (pe_call (G_law_random T) (hr.mono (by decide)) (by rfl) T.g_law_random T.F_law_random.kp T.b_law_random .nil pass0 (pa_cons (pv 0) (pa_cons (pe_op op_powW pe_int pe_int) pa_nil))) (pa_cons (pv 3) pa_nil)))) (pe_call (G_law_random T) (hr.mono (by decide)) (by rfl) T.g_law_random T.F_law_random.kp T.b_law_random .nil pass0 (pa_cons (pv 0) (pa_cons pe_int pa_nil))) (fun _ _ => rfl)))
  (pss_cons (ps_setLc (i := 5) (own := [("_law_few", 6)]) (g := gName 6) (tt := tYes) (by rfl) sc_law_great_right.nd rfl rfl (sw_true rfl rfl rfl (by decide +kernel)) (pi_range1 (by rfl) T.n_range (pa_cons pe_int pa_nil)) (blkOk_by (own := [("_law_few", 6)]) (N := N_law_great_right) (sc := defScope s_law_great_right) (by decide +kernel)) (fun _ _ _ _ _ => (pg_name (i := 6) sc_law_great_right.nd rfl (by first | exact Or.inl rfl | exact Or.inr rfl))) (fun _ _ _ _ _ => pts_nil) (fun _ _ _ _ _ => (pe_call (G_how_many_unseen T) (hr.mono (by decide)) (by rfl) T.g_how_many_unseen T.F_how_many_unseen.kp T.b_how_many_unseen .nil pass0 (pa_cons (pv 1) (pa_cons (pv 4) (pa_cons (pv 6) pa_nil))))))
  (pss_cons (ps_if (pt_cmpR (k_neD K rfl hr.units) (pv 5) (pe_lst (pa_cons pe_int (pa_cons pe_int (pa_cons (pe_call (G_law_pairs T) (hr.mono (by decide)) (by rfl) T.g_law_pairs T.F_law_pairs.kp T.b_law_pairs .nil pass0 (pa_cons (pv 4) (pa_cons (pe_call (G_order T) (hr.mono (by decide)) (by rfl) T.g_order T.F_order.kp T.b_order .nil pass0 (pa_cons (pv 1) pa_nil)) pa_nil))) pa_nil)))) (nomark _))
    (pss_one (ps_ret pe_bl))
    pss_nil)
  (pss_cons (ps_if (pt_cmpR op_ne (pe_call (G_how_many_unseen T) (hr.mono (by decide)) (by rfl) T.g_how_many_unseen T.F_how_many_unseen.kp T.b_how_many_unseen .nil pass0 (pa_cons (pv 1) (pa_cons (pv 3) (pa_cons pe_int pa_nil)))) (pe_call (G_law_threes T) (hr.mono (by decide)) (by rfl) T.g_law_threes T.F_law_threes.kp T.b_law_threes .nil pass0 (pa_cons (pv 2) (pa_cons (pv 3) pa_nil))) (nomark _))
    (pss_one (ps_ret pe_bl))
    pss_nil)
  (pss_cons (ps_if (PW.pt (pw_and (pt_val (pe_call (G_all_odd T) (hr.mono (by decide)) (by rfl) T.g_all_odd T.F_all_odd.kp T.b_all_odd .nil pass0 (pa_cons (pv 1) pa_nil))) (pw_and1 (pt_cmpR (k_neD K rfl hr.units) (pe_lc (own := [("_law_few", 6)]) (g := gName 6) (by rfl) sc_law_great_right.nd (k_piL K rfl (pe_lst (pa_cons pe_int (pa_cons pe_int (pa_cons pe_int (pa_cons pe_int pa_nil)))))) (blkOk_by (own := [("_law_few", 6)]) (N := N_law_great_right) (sc := defScope s_law_great_right) (by decide +kernel)) (fun _ _ _ _ _ => (pg_name (i := 6) sc_law_great_right.nd rfl (by first | exact Or.inl rfl | exact Or.inr rfl))) (fun _ _ _ _ _ => (pts_one (pt_cmpR op_ne (pe_call (G_how_many_unseen T) (hr.mono (by decide)) (by rfl) T.g_how_many_unseen T.F_how_many_unseen.kp T.b_how_many_unseen .nil pass0 (pa_cons (pv 1) (pa_cons (pv 4) (pa_cons (pv 6) pa_nil)))) pe_int (nomark _)))) (fun _ _ _ _ _ => (pv 6))) (pe_lst pa_nil) (nomark _)))))
    (pss_one (ps_ret pe_bl))
    pss_nil)
  (pss_cons (ps_if (pt_cmpR op_lt (pv 3) (pe_prop (pv 1) T.cl_Check T.po_Check_width (G_Check_width T) (hr.mono (by decide)) T.bp_Check_width .nil pass0 rfl) (nomark _))
    (pss_one (ps_ret (pe_cmpR (k_eqD K rfl hr.units) (pe_call (G_chance T) (hr.mono (by decide)) (by rfl) T.g_chance T.F_chance.kp T.b_chance .nil pass0 (pa_cons (pv 1) (pa_cons (pv 3) (pa_cons pe_int (pa_cons pe_int pa_nil))))) (pe_tup (pa_cons pe_int (pa_cons pe_int pa_nil))) (nomark _))))
    pss_nil)
  (pss_one (ps_ret (pe_cmpR (k_eqD K rfl hr.units) (pe_call (G_chance T) (hr.mono (by decide)) (by rfl) T.g_chance T.F_chance.kp T.b_chance .nil pass0 (pa_cons (pv 1) (pa_cons (pv 3) (pa_cons pe_int (pa_cons pe_int pa_nil))))) (pe_call (G_law_lowest T) (hr.mono (by decide)) (by rfl) T.g_law_lowest T.F_law_lowest.kp T.b_law_lowest .nil pass0 (pa_cons (pe_op op_sub (pe_op op_shl pe_int (pe_op op_sub (pv 3) (pe_prop (pv 1) T.cl_Check T.po_Check_width (G_Check_width T) (hr.mono (by decide)) T.bp_Check_width .nil pass0 rfl))) pe_int) (pa_cons (pe_op op_shl pe_int (pv 3)) pa_nil))) (nomark _)))))))))), ?_⟩
  have hK := hC.1
  have h17 : 2 ^ wd ≤ 2 ^ 8 := Nat.pow_le_pow_right (by decide) hw
  obtain ⟨d, hO, hd⟩ := order_ex hK
  have ep : (10 : Int) ^ ((18 : Int)).toNat = 1000000000000000000 := by decide
  walk_at "go"
  refine ⟨⟨by decide, by decide⟩, ?_⟩
  walk_at "go"
  refine ⟨⟨by decide, by decide⟩, ?_⟩
  walk_at "b"
  rw [ep]
  walk_at "go"
  refine ⟨g, _, _, rfl, hG, by omega, by decide, small_2900 (by decide), fun r1 H1 r10 r11 g1 b1 => ?_⟩
  walk_at "go"
  refine ⟨(show 3 ≤ sizeLine by decide), fun F nF => ?_⟩
  obtain ⟨H2, e2, s2, h2⟩ := fresh (.lst [V.int 1000000000000000000, V.int r1, V.int m]) nF
  rw [e2]
  walk_at "go"
  refine ⟨g, _, _, rfl, g1.same s2, by omega, by decide, small_2900 (by decide), fun r2 H3 r20 r21 g3 b3 => ?_⟩
  have Fg : F ≠ g := g1.ne nF
  have h3 := b3 _ _ Fg h2
  obtain ⟨fr, hf1, hf2⟩ : ∃ fr : Nat, fr ≤ 10 ^ 18 ∧ atI [V.int 1000000000000000000, V.int r1, V.int m] r2 = some (.int (fr : Int)) := by
    obtain ⟨i, rfl⟩ : ∃ i : Nat, r2 = (i : Int) := ⟨r2.toNat, by omega⟩
    match i, r21 with
    | 0, _ => exact ⟨10 ^ 18, Nat.le_refl _, atI_nat rfl⟩
    | 1, _ => exact ⟨r1.toNat, by omega, atI_nat (by show some (V.int r1) = _; rw [show ((r1.toNat : Nat) : Int) = r1 by omega])⟩
    | 2, _ => exact ⟨m, by omega, atI_nat rfl⟩
    | i + 3, h => omega
  refine ⟨F, _, _, _, rfl, rfl, .inl (.inl h3), hf2, ?_⟩
  have b03 : But g H H3 := (b1.same s2).trans b3
  obtain ⟨x0, y0, z0', hg0, _⟩ := id hG
  have hC3 := hC.but (hC.ne hg0) b03
  walk_at "go"
  refine ⟨by decide, by decide, fun D nD => ?_⟩
  refine lc_mapR (lo := 0) (n := 3) (([1, 0, (pairsF d fr : Int)]).map V.int) nD rfl (small1000' (by decide)) (fun x => rfl) ?_ ?_
  · intro i y H' hi hy s Qt qt
    rw [Int.zero_add]
    walk_at "go"
    refine ⟨c, wd, W, fr, i, rfl, hC3.same s, hw, hf1, by omega, fun H4 s4 => ?_⟩
    have z := qt _ s4
    match i, hy with
    | 0, hy => cases hy; rw [subC_zero, if_pos rfl]; exact z
    | 1, hy => cases hy; rw [subC_first hK]; exact z
    | 2, hy => cases hy; rw [pairs_sub hK hO]; exact z
    | i + 3, hy => simp at hy
  intro H4 s4 hD
  have hC4 := hC3.same s4
  walk_at "go"
  refine ⟨c, wd, W, rfl, hC4, fun d2 H5 s5 hO2 => ?_⟩
  have ed := order_uniq hO2 hO
  rw [ed]
  walk_at "go"
  refine ⟨hf1, hO.pos, by omega, (show 3 ≤ sizeLine by decide), fun L nL => ?_⟩
  obtain ⟨H6, e6, s6, h6⟩ := fresh (.lst [V.int 1, V.int 0, V.int (pairsF d fr)]) nL
  rw [e6]
  have s46 := s5.trans s6
  refine ne_lst (ns := [1, 0, (pairsF d fr : Int)]) (.inl (.inl (s46 _ _ hD))) (.inl (.inl h6)) ?_
  walk_at "go"
  have hC6 := hC4.same s46
  refine ⟨c, wd, W, m, 3, rfl, hC6, hw, by omega, by decide, fun H7 s7 => ?_⟩
  walk_at "go"
  refine ⟨wd, W, m, rfl, hK, hw, hm, fun H8 s8 => ?_⟩
  refine ⟨rfl, _, rfl, iteENF rfl ?_⟩
  have hC8 := hC6.same (s7.trans s8)
  walk_at "go"
  refine ⟨c, wd, W, rfl, hC8, fun H9 s9 => ?_⟩
  have hC9 := hC8.same s9
  walk_at "go"
  walk_at "b"
  refine join3 (fun H' => Same H9 H') (fun H10 s10 => ?_) (fun hd cont => ?_) (fun hd => Same.refl _)
  rotate_left
  · have hWe : (onesN W (wd + 1)).length % 2 = 0 := of_decide_eq_true hd
    refine ⟨(show 4 ≤ sizeLine by decide), fun L2 nL2 => ?_⟩
    obtain ⟨H10, e10, s10, h10⟩ := fresh (.lst [V.int 1, V.int 3, V.int 5, V.int 7]) nL2
    rw [e10]
    walk_at "go"
    refine ⟨⟨_, .inl (.inl h10)⟩, fun E nE => ?_⟩
    refine lc_selL (K := K) (xs := [V.int 1, V.int 3, V.int 5, V.int 7]) [none, none, none, none] nE (.inl (.inl h10)) rfl (small1000' (by decide)) (fun x => rfl) ?_ ?_
    · intro i x o H11 hx ho s11 Qt qt
      obtain ⟨f, hf, hf2, rfl⟩ : ∃ f : Nat, f ≤ 8 ∧ f % 2 = 1 ∧ x = .int (f : Int) := by
        match i, hx with
        | 0, hx => cases hx; exact ⟨1, by decide, rfl, rfl⟩
        | 1, hx => cases hx; exact ⟨3, by decide, rfl, rfl⟩
        | 2, hx => cases hx; exact ⟨5, by decide, rfl, rfl⟩
        | 3, hx => cases hx; exact ⟨7, by decide, rfl, rfl⟩
        | i + 4, hx => simp at hx
      have eo : o = none := by
        match i, ho with
        | 0, ho => cases ho; rfl
        | 1, ho => cases ho; rfl
        | 2, ho => cases ho; rfl
        | 3, ho => cases ho; rfl
        | i + 4, ho => simp at ho
      subst eo
      walk_at "go"
      refine ⟨c, wd, W, fr, f, rfl, hC9.same (s10.trans s11), hw, hf1, hf, fun H12 s12 => ?_⟩
      rw [none_odd hK hWe fr hf2]
      walk_at "go"
      exact qt _ s12
    · intro H11 s11 hE
      rw [fm_nil4] at hE
      walk_at "go"
      refine ⟨Nat.zero_le _, fun E2 nE2 => ?_⟩
      obtain ⟨H12, e12, s12, h12⟩ := fresh (.lst []) nE2
      rw [e12]
      refine ne_lst (ns := []) (.inl (.inl (s12 _ _ hE))) (.inl (.inl h12)) ?_
      refine ⟨_, rfl, iteF ?_⟩
      exact cont _ (s10.trans (s11.trans s12))
  walk_at "go"
  have hC10 := hC9.same s10
  obtain ⟨_, _, dx, hc10⟩ := id hC10
  refine ⟨c, dx, _, rfl, hc10, c, dx, _, _, rfl, hc10, rfl, ?_⟩
  refine ⟨_, _, rfl, rfl, _, rfl, ?_⟩
  have g3' := g3
  have s310 : Same H3 H10 := ((((s4.trans s46).trans (s7.trans s8)).trans s9).trans s10)
  have el := lawT_half hK m
  have eu : ((2 : Nat) : Int) - ((1 : Nat) : Int) = 1 := rfl
  have e2m : ((2 : Nat) : Int) ^ m = ((2 ^ m : Nat) : Int) := by rw [Int.natCast_pow]
  have p2 : 0 < 2 ^ m := Nat.two_pow_pos m
  have fin : ∀ {H' : Hp}, Same H10 H' → Q (.bl true) H' := fun s => q _ (b03.same (s310.trans s)) ((g3.same (s310.trans s)).mono (by omega))
  refine ite2 (fun cc => ?_) (fun cc => ?_)
  · have c1 : (m : Int) < (wd : Int) := of_decide_eq_true cc
    walk_at "go"
    refine ⟨c, wd, W, m, 1, 2, rfl, hC10, hw, hm, by decide, by decide, by decide, fun H11 p s11 np h11 => ?_⟩
    rw [eu, show ((1 : Nat) : Int) = 1 from rfl, el, if_neg (by omega), e2m, lowF_zero (by omega)] at h11
    walk_at "go"
    refine ⟨(show 2 ≤ sizeLine by decide), fun p2 np2 => ?_⟩
    obtain ⟨H12, e12, s12, h12⟩ := fresh (.tup [V.int 0, V.int 1]) np2
    rw [e12]
    refine eq_tup (ns := [0, 1]) (.inl (.inl (s12 _ _ h11))) (.inl (.inl h12)) ?_
    exact fin (s11.trans s12)
  · have c1 : ¬ (m : Int) < (wd : Int) := of_decide_eq_false (by rwa [Bool.not_eq_true] at cc)
    walk_at "go"
    refine ⟨c, wd, W, m, 1, 2, rfl, hC10, hw, hm, by decide, by decide, by decide, fun H11 p s11 np h11 => ?_⟩
    rw [eu, show ((1 : Nat) : Int) = 1 from rfl, el, if_pos (by omega), e2m] at h11
    obtain ⟨_, _, dx, hc11⟩ := id (hC10.same s11)
    walk_at "go"
    refine ⟨c, dx, _, rfl, hc11, c, dx, _, _, rfl, hc11, rfl, ?_⟩
    refine ⟨_, _, rfl, rfl, ?_⟩
    refine ⟨_, _, rfl, rfl, ⟨by omega, by omega, by decide⟩, ?_⟩
    walk_at "go"
    refine ⟨⟨by omega, by omega, by decide⟩, ?_⟩
    walk_at "b"
    have k1 : 0 < 2 ^ (m - wd) := Nat.two_pow_pos _
    have ea : (1 : Int) * 2 ^ ((m : Int) - (wd : Int)).toNat - 1 = ((2 ^ (m - wd) - 1 : Nat) : Int) := by
      rw [show ((m : Int) - (wd : Int)).toNat = m - wd by omega, Int.one_mul, Int.ofNat_sub (by omega), Int.natCast_pow]
      rfl
    have eb : (1 : Int) * 2 ^ ((m : Int)).toNat = ((2 ^ m : Nat) : Int) := by rw [Int.toNat_natCast, Int.one_mul, Int.natCast_pow]; rfl
    have ec : (2 : Int) ^ (m - wd) - 1 = ((2 ^ (m - wd) - 1 : Nat) : Int) := by
      rw [Int.ofNat_sub (by omega), Int.natCast_pow]
      rfl
    rw [ec] at h11
    rw [ea, eb]
    refine ⟨2 ^ (m - wd) - 1, 2 ^ m, rfl, p2, Nat.pow_lt_pow_right (by decide) (by omega), fun H12 p2 s12 np2 h12 => ?_⟩
    refine eq_tup (.inl (.inl (s12 _ _ h11))) (.inl (.inl h12)) ?_
    exact fin (s11.trans s12)
end
end My

namespace My
open PySem PySem.Spec PyProof.Rows L2 Pre
theorem three_counts : (List.range 9).map (fun f => subC (pws 3 11 7) f 0) = [1, 0, 0, 7, 7, 0, 0, 1, 0] := by decide +kernel
theorem three_one : lowF (lawT 3 11 7 (((2 : Nat) : Int) - ((1 : Nat) : Int)) ((1 : Nat) : Int)) (((2 : Nat) : Int) ^ 7) = (15, 128) := by decide +kernel
theorem three_two : lowF (lawT 3 11 0 (((2 : Nat) : Int) - ((1 : Nat) : Int)) ((1 : Nat) : Int)) (((2 : Nat) : Int) ^ 0) = (0, 1) := by decide +kernel
theorem three_three : lowF (lawT 3 11 7 (((3 : Nat) : Int) - ((3 : Nat) : Int)) ((3 : Nat) : Int)) (((3 : Nat) : Int) ^ 7) = (1, 1) := by decide +kernel
local macro_rules | `(tactic| walk_at "go") => `(tactic| repeat (first | (with_reducible first | refine iteT ?_ | refine iteF ?_ | refine iteNtt ?_ | refine iteNff ?_ | refine iteET (by omega) ?_ | refine iteEF (by omega) ?_ | refine iteENT (by omega) ?_ | refine iteENF (by omega) ?_ | refine iteDT (by omega) ?_ | refine iteDF (by omega) ?_ | refine iteNT (by omega) ?_ | refine iteNF (by omega) ?_) | refine ⟨_, rfl, ?_⟩ | refine ⟨_, _, rfl, rfl, ?_⟩ | refine ⟨_, _, rfl, ?_⟩ | refine ⟨rfl, ?_⟩ | refine .inl ⟨_, rfl, ?_⟩ | refine .inr ⟨_, rfl, ?_⟩))
local macro_rules | `(tactic| walk_at "b") => `(tactic| try dsimp (config := { proj := false, iota := false, eta := false, zeta := false }) only)
section
variable {P : Program} {w : World} {K : PySem.W.Frag} {mg : Str → Option Value} {base : Heap}
def sp_law (K : PySem.W.Frag) : Sp := fun vs H Q _ => ∃ (a : Addr) (ns : List Int), vs = [.ref a] ∧ SqL K H a (ns.map V.int) ∧ ns.length ≤ 63 ∧ ∀ H', Q (.bl true) H'
theorem G_law (T : Top K mg) : FnOk P w K mg base CX0 7 T.f_law T.fd_law ["_law_script"] (sp_law K) := by
  refine T.F_law.ok sc_law (fun vs H Q E h => by obtain ⟨a, ns, rfl, _⟩ := h; rfl) (fun cdv A outer s H vs Q E hr h => ?_)
  obtain ⟨a, ns, rfl, hS, hn, q⟩ := h
  refine ⟨_, PSs.nox (pss_cons (ps_for PassesOwn.never rfl (pi_range1 (by rfl) T.n_range (pa_cons pe_int pa_nil)) (pg_name (i := 1) sc_law.nd rfl (by first | exact Or.inl rfl | exact Or.inr rfl))
    (pss_cons (ps_set (i := 3) sc_law.nd rfl (by first | exact Or.inl rfl | exact Or.inr rfl) (pe_call (G_law_generator T) (hr.mono (by decide)) (by rfl) T.g_law_generator T.F_law_generator.kp T.b_law_generator .nil pass0 (pa_cons (pv 0) (pa_cons (pv 1) pa_nil))))
  (pss_cons (ps_set (i := 4) sc_law.nd rfl (by first | exact Or.inl rfl | exact Or.inr rfl) (pe_op op_add pe_int (pe_call (G_law_random T) (hr.mono (by decide)) (by rfl) T.g_law_random T.F_law_random.kp T.b_law_random .nil pass0 (pa_cons (pv 3) (pa_cons pe_int pa_nil)))))
  (pss_cons (ps_set (i := 5) sc_law.nd rfl (by first | exact Or.inl rfl | exact Or.inr rfl) (pe_call (G_law_drawn T) (hr.mono (by decide)) (by rfl) T.g_law_drawn T.F_law_drawn.kp T.b_law_drawn .nil pass0 (pa_cons (pv 3) (pa_cons (pv 4) pa_nil))))
  (pss_cons (ps_if (pt_not (pt_val (pe_call (G_law_small_right T) (hr.mono (by decide)) (by rfl) T.g_law_small_right T.F_law_small_right.kp T.b_law_small_right .nil pass0 (pa_cons (pv 3) (pa_cons (pe_make T.mk_Check (G_Check___init__ T) (hr.mono (by decide)) (by rfl) T.gc_Check T.b_Check___init__ .nil pass0 (pa_cons (pv 4) (pa_cons (pv 5) pa_nil))) (pa_cons (pe_op op_add (pe_op op_shl pe_int (pv 4)) (pv 5)) (pa_cons (pe_call (G_law_random T) (hr.mono (by decide)) (by rfl) T.g_law_random T.F_law_random.kp T.b_law_random .nil pass0 (pa_cons (pv 3) (pa_cons pe_int pa_nil))) pa_nil)))))))
    (pss_one (ps_ret pe_bl))
    pss_nil)
  (pss_cons (ps_set (i := 4) sc_law.nd rfl (by first | exact Or.inl rfl | exact Or.inr rfl) (pe_op op_add pe_int (pe_call (G_law_random T) (hr.mono (by decide)) (by rfl) T.g_law_random T.F_law_random.kp T.b_law_random .nil pass0 (pa_cons (pv 3) (pa_cons pe_int pa_nil)))))
  (pss_cons (ps_set (i := 5) sc_law.nd rfl (by first | exact Or.inl rfl | exact Or.inr rfl) (pe_call (G_law_drawn T) (hr.mono (by decide)) (by rfl) T.g_law_drawn T.F_law_drawn.kp T.b_law_drawn .nil pass0 (pa_cons (pv 3) (pa_cons (pv 4) pa_nil))))
  (pss_one (ps_if (pt_not (pt_val (pe_call (G_law_great_right T) (hr.mono (by decide)) (by rfl) T.g_law_great_right T.F_law_great_right.kp T.b_law_great_right .nil pass0 (pa_cons (pv 3) (pa_cons (pe_make T.mk_Check (G_Check___init__ T) (hr.mono (by decide)) (by rfl) T.gc_Check T.b_Check___init__ .nil pass0 (pa_cons (pv 4) (pa_cons (pv 5) pa_nil))) (pa_cons (pe_op op_add (pe_op op_shl pe_int (pv 4)) (pv 5)) (pa_cons (pe_call (G_law_random T) (hr.mono (by decide)) (by rfl) T.g_law_random T.F_law_random.kp T.b_law_random .nil pass0 (pa_cons (pv 3) (pa_cons pe_int pa_nil))) pa_nil)))))))
    (pss_one (ps_ret pe_bl))
    pss_nil)))))))))
  (pss_cons (ps_set (i := 2) sc_law.nd rfl (by first | exact Or.inl rfl | exact Or.inr rfl) (pe_make T.mk_Check (G_Check___init__ T) (hr.mono (by decide)) (by rfl) T.gc_Check T.b_Check___init__ .nil pass0 (pa_cons pe_int (pa_cons pe_int pa_nil))))
  (pss_cons (ps_if (pt_cmpR (k_neD K rfl hr.units) (pe_lc (own := [("_law_few", 6)]) (g := gName 6) (tt := tYes) (by rfl) sc_law.nd (pi_range1 (by rfl) T.n_range (pa_cons pe_int pa_nil)) (blkOk_by (own := [("_law_few", 6)]) (N := N_law) (sc := defScope s_law) (by decide +kernel)) (fun _ _ _ _ _ => (pg_name (i := 6) sc_law.nd rfl (by first | exact Or.inl rfl | exact Or.inr rfl))) (fun _ _ _ _ _ => pts_nil) (fun _ _ _ _ _ => (pe_call (G_how_many_unseen T) (hr.mono (by decide)) (by rfl) T.g_how_many_unseen T.F_how_many_unseen.kp T.b_how_many_unseen .nil pass0 (pa_cons (pv 2) (pa_cons pe_int (pa_cons (pv 6) pa_nil)))))) (pe_lst (pa_cons pe_int (pa_cons pe_int (pa_cons pe_int (pa_cons pe_int (pa_cons pe_int (pa_cons pe_int (pa_cons pe_int (pa_cons pe_int (pa_cons pe_int pa_nil)))))))))) (nomark _))
    (pss_one (ps_ret pe_bl))
    pss_nil)
  (pss_one (ps_ret (pe_and (pe_cmpR (k_eqD K rfl hr.units) (pe_call (G_chance T) (hr.mono (by decide)) (by rfl) T.g_chance T.F_chance.kp T.b_chance .nil pass0 (pa_cons (pv 2) (pa_cons pe_int (pa_cons pe_int (pa_cons pe_int pa_nil))))) (pe_tup (pa_cons pe_int (pa_cons pe_int pa_nil))) (nomark _)) (pe_and (pe_cmpR (k_eqD K rfl hr.units) (pe_call (G_chance T) (hr.mono (by decide)) (by rfl) T.g_chance T.F_chance.kp T.b_chance .nil pass0 (pa_cons (pv 2) (pa_cons pe_int (pa_cons pe_int (pa_cons pe_int pa_nil))))) (pe_tup (pa_cons pe_int (pa_cons pe_int pa_nil))) (nomark _)) (pe_one (pe_cmpR (k_eqD K rfl hr.units) (pe_call (G_chance T) (hr.mono (by decide)) (by rfl) T.g_chance T.F_chance.kp T.b_chance .nil pass0 (pa_cons (pv 2) (pa_cons pe_int (pa_cons pe_int (pa_cons pe_int pa_nil))))) (pe_tup (pa_cons pe_int (pa_cons pe_int pa_nil))) (nomark _)))))))))), ?_⟩
  refine ⟨_, rfl, by decide, by decide, ?_⟩
  refine for_range (lo := 0) (n := ((2 : Int)).toNat) (fun i σ H1 => ∃ v1 v2 v3 v4 v5 v6, σ = [some (.ref a), v1, v2, v3, v4, v5, v6] ∧ Same H H1) ⟨none, none, none, none, none, none, rfl, Same.refl _⟩ ?_ ?_
  · rintro i σ H1 hi ⟨v1, v2, v3, v4, v5, v6, rfl, s1⟩
    rw [show (0 : Int) + (i : Int) = i by omega]
    have hi3 : i < 2 := hi
    refine ⟨_, rfl, _, rfl, a, ns, i, rfl, s1.seq hS, fun H2 g s2 ng g2 => ?_⟩
    have s02 := s1.trans s2
    have nHg : H g = none := s1.free ng
    refine ⟨_, rfl, g, _, _, rfl, g2, by omega, by decide, small_2900 (by decide), fun r1 H3 r10 r11 g3 b3 => ?_⟩
    refine ⟨_, _, rfl, rfl, ?_⟩
    obtain ⟨wd, hwd⟩ : ∃ wd : Nat, 1 + r1 = (wd : Int) := ⟨(1 + r1).toNat, by omega⟩
    have w1 : 1 ≤ wd := by omega
    have w4 : wd ≤ 4 := by omega
    dsimp only
    rw [hwd]
    refine ⟨_, rfl, _, rfl, g, _, wd, rfl, g3, by omega, w1, by omega, fun l H4 l1 l2 g4 b4 => ?_⟩
    walk_at "go"
    intro c dx nc ndx nec
    obtain ⟨H5, e5⟩ : ∃ H5, upd (upd H4 dx (.own c)) c (.ins T.C_Check dx []) = H5 := ⟨_, rfl⟩
    rw [e5]
    have s5 : Same H4 H5 := fun b o e => by
      rw [← e5, upd_ne (ne_of_none e nc), upd_ne (ne_of_none e ndx)]
      exact e
    refine ⟨c, dx, wd, l, rfl, by rw [← e5]; exact upd_same, w1, by omega, l1, l2, fun H6 kp hC6 => ⟨rfl, ?_⟩⟩
    have s6 : Same H4 H6 := fun b o e => kp b o (ne_of_none e nc) (s5 b o e)
    have g6 := g4.same s6
    have b26 : But g H2 H6 := (b3.trans b4).same s6
    have eW : (1 : Int) * 2 ^ ((wd : Int)).toNat + (l : Int) = ((2 ^ wd + l : Nat) : Int) := by
      rw [Int.one_mul, Int.toNat_natCast]
      have : ((2 ^ wd : Nat) : Int) = 2 ^ wd := by rw [Int.natCast_pow]; rfl
      omega
    refine ⟨_, rfl, _, _, rfl, rfl, ⟨by omega, by omega, by decide⟩, _, rfl, _, _, rfl, rfl, ?_⟩
    dsimp only
    rw [eW]
    obtain ⟨W, hW⟩ : ∃ W, W = 2 ^ wd + l := ⟨_, rfl⟩
    rw [← hW] at hC6 ⊢
    obtain ⟨xg, yg, zg, hg6, _⟩ := id g6
    have ncg : c ≠ g := hC6.ne hg6
    refine ⟨_, rfl, g, _, _, rfl, g6, by omega, by decide, small_2900 (by decide), fun r2 H7 r20 r21 g7 b7 => ?_⟩
    obtain ⟨m, hm⟩ : ∃ m : Nat, r2 = (m : Int) := ⟨r2.toNat, by omega⟩
    subst hm
    have hC7 := hC6.but ncg b7
    refine ⟨g, c, _, wd, W, m, rfl, g7, by omega, hC7, w4, by omega, fun H8 b8 g8 => ?_⟩
    have b28 : But g H2 H8 := (b26.trans b7).trans b8
    clear b3 b4 b7 b8 b26 kp e5 s5 s6 g3 g4 g6 g7 hC6 hC7 hg6
    walk_at "go"
    refine ⟨g, _, _, rfl, g8, by omega, by decide, small_2900 (by decide), fun r3 H9 r30 r31 g9 b9 => ?_⟩
    refine ⟨_, _, rfl, rfl, ?_⟩
    obtain ⟨wd2, hwd2⟩ : ∃ wd2 : Nat, 1 + r3 = (wd2 : Int) := ⟨(1 + r3).toNat, by omega⟩
    have y1 : 1 ≤ wd2 := by omega
    have y4 : wd2 ≤ 8 := by omega
    walk_at "b"
    rw [hwd2]
    refine ⟨_, rfl, _, rfl, g, _, wd2, rfl, g9, by omega, y1, by omega, fun l' H10 l1' l2' g10 b10 => ?_⟩
    walk_at "go"
    intro c' dx' nc' ndx' nec'
    obtain ⟨H11, e11⟩ : ∃ H11, upd (upd H10 dx' (.own c')) c' (.ins T.C_Check dx' []) = H11 := ⟨_, rfl⟩
    rw [e11]
    have s11 : Same H10 H11 := fun b o e => by
      rw [← e11, upd_ne (ne_of_none e nc'), upd_ne (ne_of_none e ndx')]
      exact e
    refine ⟨c', dx', wd2, l', rfl, by rw [← e11]; exact upd_same, y1, by omega, l1', l2', fun H12 kp hC12 => ⟨rfl, ?_⟩⟩
    have s12 : Same H10 H12 := fun b o e => kp b o (ne_of_none e nc') (s11 b o e)
    have g12 := g10.same s12
    have b812 : But g H2 H12 := (b28.trans (b9.trans b10)).same s12
    have eW2 : (1 : Int) * 2 ^ ((wd2 : Int)).toNat + (l' : Int) = ((2 ^ wd2 + l' : Nat) : Int) := by
      rw [Int.one_mul, Int.toNat_natCast]
      have : ((2 ^ wd2 : Nat) : Int) = 2 ^ wd2 := by rw [Int.natCast_pow]; rfl
      omega
    refine ⟨_, rfl, _, _, rfl, rfl, ⟨by omega, by omega, by decide⟩, _, rfl, _, _, rfl, rfl, ?_⟩
    walk_at "b"
    rw [eW2]
    obtain ⟨W2, hW2⟩ : ∃ W2, W2 = 2 ^ wd2 + l' := ⟨_, rfl⟩
    rw [← hW2] at hC12 ⊢
    obtain ⟨xg, yg, zg, hg12, _⟩ := id g12
    have ncg2 : c' ≠ g := hC12.ne hg12
    refine ⟨_, rfl, g, _, _, rfl, g12, by omega, by decide, small_2900 (by decide), fun r4 H13 r40 r41 g13 b13 => ?_⟩
    obtain ⟨m2, hm2⟩ : ∃ m2 : Nat, r4 = (m2 : Int) := ⟨r4.toNat, by omega⟩
    subst hm2
    have hC13 := hC12.but ncg2 b13
    refine ⟨g, c', _, wd2, W2, m2, rfl, g13, by omega, hC13, y4, by omega, fun H14 b14 g14 => ?_⟩
    walk_at "go"
    exact ⟨_, _, _, _, _, _, rfl, But.fresh s02 nHg ((b812.trans b13).trans b14)⟩
  · rintro σ H1 ⟨v1, v2, v3, v4, v5, v6, rfl, s1⟩
    walk_at "go"
    intro c dx nc ndx nec
    obtain ⟨H5, e5⟩ : ∃ H5, upd (upd H1 dx (.own c)) c (.ins T.C_Check dx []) = H5 := ⟨_, rfl⟩
    rw [e5]
    refine ⟨c, dx, 3, 3, rfl, by rw [← e5]; exact upd_same, by decide, by decide, by decide, by decide, fun H6 kp hC6 => ⟨rfl, ?_⟩⟩
    have hC : CheckAt T.C_Check H6 c 3 11 := hC6
    clear kp e5 hC6 nc ndx nec
    walk_at "go"
    refine ⟨by decide, by decide, fun D nD => ?_⟩
    refine lc_mapR (lo := 0) (n := 9) (((List.range 9).map fun f => subC (pws 3 11 7) f 0).map V.int) nD (by rw [List.length_map, List.length_map, List.length_range]) (small1000' (by decide)) (fun x => rfl) ?_ ?_
    · intro j y H' hj hy s Qt qt
      rw [List.getElem?_map, List.getElem?_map, List.getElem?_range hj] at hy
      cases hy
      rw [Int.zero_add]
      walk_at "go"
      exact ⟨c, 3, 11, 7, j, rfl, hC.same s, by decide, by decide, by omega, fun H4 s4 => qt _ s4⟩
    intro H7 s7 hD
    rw [three_counts] at hD
    walk_at "go"
    refine ⟨(show 9 ≤ sizeLine by decide), fun L nL => ?_⟩
    obtain ⟨H8, e8, s8, h8⟩ := fresh (.lst [V.int 1, V.int 0, V.int 0, V.int 7, V.int 7, V.int 0, V.int 0, V.int 1, V.int 0]) nL
    rw [e8]
    refine ne_lst (ns := [1, 0, 0, 7, 7, 0, 0, 1, 0]) (.inl (.inl (s8 _ _ hD))) (.inl (.inl h8)) ?_
    have hC8 := hC.same (s7.trans s8)
    walk_at "go"
    refine ⟨c, 3, 11, 7, 1, 2, rfl, hC8, by decide, by decide, by decide, by decide, by decide, fun H9 p s9 np h9 => ?_⟩
    rw [three_one] at h9
    refine ⟨(show 2 ≤ sizeLine by decide), fun p2 np2 => ?_⟩
    obtain ⟨H10, e10, s10, h10⟩ := fresh (.tup [V.int 15, V.int 128]) np2
    rw [e10]
    refine eq_tup (ns := [15, 128]) (.inl (.inl (s10 _ _ h9))) (.inl (.inl h10)) ?_
    have hC10 := hC8.same (s9.trans s10)
    walk_at "go"
    refine ⟨c, 3, 11, 0, 1, 2, rfl, hC10, by decide, by decide, by decide, by decide, by decide, fun H11 p s11 np h11 => ?_⟩
    rw [three_two] at h11
    refine ⟨(show 2 ≤ sizeLine by decide), fun p2 np2 => ?_⟩
    obtain ⟨H12, e12, s12, h12⟩ := fresh (.tup [V.int 0, V.int 1]) np2
    rw [e12]
    refine eq_tup (ns := [0, 1]) (.inl (.inl (s12 _ _ h11))) (.inl (.inl h12)) ?_
    have hC12 := hC10.same (s11.trans s12)
    walk_at "go"
    refine ⟨c, 3, 11, 7, 3, 3, rfl, hC12, by decide, by decide, by decide, by decide, by decide, fun H13 p s13 np h13 => ?_⟩
    rw [three_three] at h13
    refine ⟨(show 2 ≤ sizeLine by decide), fun p2 np2 => ?_⟩
    obtain ⟨H14, e14, s14, h14⟩ := fresh (.tup [V.int 1, V.int 1]) np2
    rw [e14]
    refine eq_tup (ns := [1, 1]) (.inl (.inl (s14 _ _ h13))) (.inl (.inl h14)) ?_
    exact q _
end
end My

open PySem PySem.W PySem.Calls PyProof.Rows
set_option maxRecDepth 100000 in
set_option maxHeartbeats 0 in
theorem PySem.Challenge.cw_wholesound_k66_whole_counts_of_the_unsee_holds : PySem.Challenge.rw_wholesound_k66_whole_counts_of_the_unsee.Holds := by
  w_on; o_law
  refine HandSHeadRun.head_any (r := OpenLaw.row PySem.Challenge.rw_wholesound_k66_whole_counts_of_the_unsee) (q := view (OpenLaw.row PySem.Challenge.rw_wholesound_k66_whole_counts_of_the_unsee).prog [49]) (H := My.hk) (ob := My.ob) (M := 8000) (loose := My.loose) (d := HandSHeadRun.topDef (OpenLaw.row PySem.Challenge.rw_wholesound_k66_whole_counts_of_the_unsee).prog 49) (kwd := []) My.ob_eq
    (by kernel_rfl) (fun s => by kernel_rfl) My.run (by kernel_rfl) (by kernel_rfl) (by kernel_rfl) (by rfl) (by first | assumption | decide +kernel) (by decide +kernel) ⟨rfl, rfl, rfl, rfl, rfl, by decide +kernel⟩ ?hw ?hc
  case hw => w_witness2
  case hc =>
    refine L2.walk_ofE (l := PySem.Challenge.rw_wholesound_k66_whole_counts_of_the_unsee) (n := 63) (k := 7) (x := "_law_script") (CX := L2.CX0) rfl (by decide) (by kernel_rfl) ⟨rfl, by decide, by decide⟩ ?F (fun _ _ _ _ z => z)
    intro w mg fa h Y G hmg0
    obtain ⟨K, KX, c⟩ := Y
    have hmg : mg ("law" : PySem.Str) = some (.ref fa) := by
      have e : (HandSHeadRun.topDef (OpenLaw.row PySem.Challenge.rw_wholesound_k66_whole_counts_of_the_unsee).prog 49).name = ("law" : PySem.Str) := by kernel_rfl
      rw [← e]
      exact hmg0
    have T : My.Top K mg := My.top_mk KX G c
    have e := hmg.symm.trans T.g_law
    cases e
    have b := L2.FunD.bindsA (ps := ["_law_script"]) T.F_law fun _ _ _ _ _ _ us hl => match us, hl with | [_], _ => rfl
    exact ⟨K, T.fd_law, My.sp_law K, KX, fun s v => b s [v] rfl, fun H a ns hl _ hS => ⟨a, ns, rfl, hS, hl, fun _ => rfl⟩, fun base _ _ => My.G_law T⟩


