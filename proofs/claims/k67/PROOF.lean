import PyProof.Rows.All
import Wide.All
import OpenK.AllK
import Wide.FinOn
import KE.KStateDown
import Lean
import HandS.ForMost
import HandS.Exc
import HandS.Flow
import HandS.DictComp
import HandS.Style
import HandS.Wide
import HandS.WideBits
import HandS.IsInst
import HandS.Codes
import HandS.Walk
import HandS.Words
import HandS.WordsExc
import HandS.Defaults
import HandS.Head0
import HandS.Head1
import HandS.Head2
import HandS.HeadEnd
import HandS.HeadHook1
import HandS.HeadHook2
import HandS.SortInts
import PyProof.Rows.SortShellAny
import PyProof.InstNe
import KE.DataMinMax
import KE.SortData
import KE.IntBitsLaws
import KE.BitLaws
import HandS.Deep
import HandS.SetKeys
import PyProof.Rows.StrMul
import HandS.TupLe
import HandS.Property
import HandS.Conv
import HandS.NoneIn
import PySem.Challenge.RW_wholesound_k67_whole_pairs_of_checks
set_option Elab.async false
set_option linter.all false
set_option maxRecDepth 100000
set_option maxHeartbeats 4000000
set_option exponentiation.threshold 100000
namespace Pre
open PySem PySem.Spec PyProof.Rows L2
/-! ### heaps -/
theorem same_upd {H : Hp} {p : Addr} {o : HO} (h : H p = none) : Same H (upd H p o) := fun b x e => by
  rw [upd_ne (ne_of_none e h)]
  exact e
/-- a fresh thing that is then changed is no change of what was -/
theorem same_over {H H' : Hp} {p : Addr} {o : HO} (n : H p = none) (s : Same H H') : Same H (upd H' p o) := fun b x e => by
  rw [upd_ne (ne_of_none e n)]
  exact s b x e
theorem Same.tup {K : PySem.W.Frag} {H H' : Hp} {a : Addr} {xs : List V} (e : Same H H') (h : SqT K H a xs) : SqT K H' a xs := by
  rcases h with (h | ⟨o, h⟩) | h
  · exact .inl (.inl (e _ _ h))
  · exact .inl (.inr ⟨o, e _ _ h⟩)
  · exact .inr h
mutual
theorem dp_same {K : PySem.W.Frag} {H H' : Hp} (s : Same H H') : ∀ (d : PyData) (v : V), Dp K H v d → Dp K H' v d
  | .none, _, h => by cases h; exact .non
  | .bool _, _, h => by cases h; exact .bl _
  | .int _, _, h => by cases h; exact .int _
  | .str _, _, h => by cases h; exact .str _
  | .list ds, _, h => by cases h with | lst a b => exact .lst (s.seq a) (dps_same s ds _ b)
  | .tuple ds, _, h => by cases h with | tup a b => exact .tup (Same.tup s a) (dps_same s ds _ b)
  | .dict _, _, h => nomatch h
theorem dps_same {K : PySem.W.Frag} {H H' : Hp} (s : Same H H') : ∀ (ds : List PyData) (vs : List V), DpAll K H vs ds → DpAll K H' vs ds
  | [], _, h => by cases h; exact .nil
  | d :: ds, _, h => by cases h with | cons a b => exact .cons (dp_same s d _ a) (dps_same s ds _ b)
end
theorem dp_ints {K : PySem.W.Frag} {H : Hp} : ∀ ns : List Int, DpAll K H (ns.map V.int) (ns.map PyData.int)
  | [] => .nil
  | n :: r => .cons (.int n) (dp_ints r)
theorem eqv_ints : ∀ ns ms : List Int, PyData.eqvAll (ns.map PyData.int) (ms.map PyData.int) = decide (ns = ms)
  | [], [] => rfl
  | [], _ :: _ => rfl
  | _ :: _, [] => rfl
  | n :: r, m :: q => by
    show (PyData.eqv (.int n) (.int m) && PyData.eqvAll (r.map PyData.int) (q.map PyData.int)) = decide (n :: r = m :: q)
    rw [eqv_ints r q]
    show ((n == m) && decide (r = q)) = decide (n :: r = m :: q)
    by_cases h : n = m
    · subst h; simp
    · simp [h]
theorem lay_ints : ∀ ns : List Int, PyData.canLayAll0 (ns.map PyData.int) = true
  | [] => rfl
  | n :: r => by
    show (PyData.canLay0 (.int n) && PyData.canLayAll0 (r.map PyData.int)) = true
    rw [lay_ints r]
    rfl
theorem depth_ints : ∀ ns : List Int, PyData.depthAll (ns.map PyData.int) = 0
  | [] => by simp [PyData.depthAll]
  | n :: r => by
    show PyData.depthAll (.int n :: r.map PyData.int) = 0
    rw [PyData.depthAll, depth_ints r]
    simp [PyData.depth]
theorem shaped_ints (ns : List Int) : SeqAt.shaped (.list (ns.map PyData.int)) = true := by
  unfold SeqAt.shaped
  rw [PyData.canLay0, lay_ints, PyData.depth, depth_ints]
  rfl
theorem shaped_tup (ns : List Int) : SeqAt.shaped (.tuple (ns.map PyData.int)) = true := by
  unfold SeqAt.shaped
  rw [PyData.canLay0, lay_ints, PyData.depth, depth_ints]
  rfl
/-! ### comparisons of lists and tuples of whole numbers that are told alike -/
theorem ne_tup {K : PySem.W.Frag} {H : Hp} {a b : Addr} {ns : List Int} {Q : V → Hp → Prop} (ha : SqT K H a (ns.map V.int)) (hb : SqT K H b (ns.map V.int)) (q : Q (.bl false) H) : rNeD K (.ref a) (.ref b) H Q := by
  refine ⟨.tuple (ns.map PyData.int), .tuple (ns.map PyData.int), .tup ha (dp_ints ns), .tup hb (dp_ints ns), shaped_tup ns, shaped_tup ns, ?_⟩
  rw [PyData.eqv, eqv_ints, decide_eq_true rfl]
  exact q
theorem eq_tup {K : PySem.W.Frag} {H : Hp} {a b : Addr} {ns : List Int} {Q : V → Hp → Prop} (ha : SqT K H a (ns.map V.int)) (hb : SqT K H b (ns.map V.int)) (q : Q (.bl true) H) : rEqD K (.ref a) (.ref b) H Q := by
  refine ⟨.tuple (ns.map PyData.int), .tuple (ns.map PyData.int), .tup ha (dp_ints ns), .tup hb (dp_ints ns), shaped_tup ns, shaped_tup ns, ?_⟩
  rw [PyData.eqv, eqv_ints, decide_eq_true rfl]
  exact q
/-- lists of whole numbers, compared -/
theorem eqD_lst {K : PySem.W.Frag} {H : Hp} {a b : Addr} {ns ms : List Int} {Q : V → Hp → Prop} (ha : SqL K H a (ns.map V.int)) (hb : SqL K H b (ms.map V.int)) (q : Q (.bl (decide (ns = ms))) H) : rEqD K (.ref a) (.ref b) H Q := by
  refine ⟨.list (ns.map PyData.int), .list (ms.map PyData.int), .lst ha (dp_ints ns), .lst hb (dp_ints ms), shaped_ints ns, shaped_ints ms, ?_⟩
  rw [PyData.eqv, eqv_ints]
  exact q
theorem neD_lst {K : PySem.W.Frag} {H : Hp} {a b : Addr} {ns ms : List Int} {Q : V → Hp → Prop} (ha : SqL K H a (ns.map V.int)) (hb : SqL K H b (ms.map V.int)) (q : Q (.bl (!decide (ns = ms))) H) : rNeD K (.ref a) (.ref b) H Q := by
  refine ⟨.list (ns.map PyData.int), .list (ms.map PyData.int), .lst ha (dp_ints ns), .lst hb (dp_ints ms), shaped_ints ns, shaped_ints ms, ?_⟩
  rw [PyData.eqv, eqv_ints]
  exact q
theorem ne_lst {K : PySem.W.Frag} {H : Hp} {a b : Addr} {ns : List Int} {Q : V → Hp → Prop} (ha : SqL K H a (ns.map V.int)) (hb : SqL K H b (ns.map V.int)) (q : Q (.bl false) H) : rNeD K (.ref a) (.ref b) H Q :=
  neD_lst ha hb (by rw [decide_eq_true rfl]; exact q)
theorem eq_lst {K : PySem.W.Frag} {H : Hp} {a b : Addr} {ns : List Int} {Q : V → Hp → Prop} (ha : SqL K H a (ns.map V.int)) (hb : SqL K H b (ns.map V.int)) (q : Q (.bl true) H) : rEqD K (.ref a) (.ref b) H Q :=
  eqD_lst ha hb (by rw [decide_eq_true rfl]; exact q)
/-! ### powers -/
def CPowW (i j : Int) : Prop := 0 ≤ j ∧ (Builtin.Int.intBits i : Int) * j ≤ 2 ^ 27
theorem op_powW {X : Cx} : OpR X (binaryOp .Pow) (rI CPowW fun i j => .int (i ^ j.toNat)) := opI fun _ _ _ _ _ _ _ hc q => pow_int hc.1 hc.2 q
/-! ### comprehensions whose parts leave what is tracked as it is: sel tells of each item what comes of it -/
theorem take_fm {α : Type} {l : List (Option α)} {i : Nat} {o : Option α} (h : l[i]? = some o) : (l.take (i + 1)).filterMap id = (l.take i).filterMap id ++ o.toList := by
  rw [List.take_add_one, h, List.filterMap_append]
  cases o <;> rfl
theorem fm_len {α : Type} (l : List (Option α)) (i : Nat) : ((l.take i).filterMap id).length ≤ l.length :=
  Nat.le_trans (List.length_filterMap_le _ _) (by rw [List.length_take]; omega)
theorem lc_selL {K : PySem.W.Frag} {a : Addr} {xs : List V} {j : Nat} {tt : TT} {te : TE} {vs : List Nat} {σ : L2.St} {H1 : Hp} {D : Addr} {Qd : Hp → Prop} (sel : List (Option V)) (nD : H1 D = none) (hS : SqL K H1 a xs) (hlen : sel.length = xs.length) (hz : xs.length < sizeLine)
    (hw : ∀ x, wipe ((wipe σ vs).set j (some x)) vs = wipe σ vs)
    (hs : ∀ (i : Nat) (x : V) (o : Option V) (H' : Hp), xs[i]? = some x → sel[i]? = some o → Same H1 H' → ∀ Qt : Option V → Hp → Prop, (∀ H'', Same H' H'' → Qt o H'') →
      tt ((wipe σ vs).set j (some x)) H' fun b H3 => if b = true then te ((wipe σ vs).set j (some x)) H3 fun y H4 => Qt (some y) H4 else Qt none H3)
    (hd : ∀ H', Same H1 H' → H' D = some (.lst (sel.filterMap id)) → Qd H') :
    ∃ W : Nat → Nat → Hp → Prop, (∃ m, W 0 m (upd H1 D (.lst []))) ∧ ∀ i m H, W i m H →
      ((Itl K a).stop i H ∧ Qd H) ∨ ((Itl K a).go i H ∧ ∃ Nx : Hp → Prop, (∀ H', Nx H' → ∃ m', m' < m ∧ W (i + 1) m' H') ∧ ∀ x H', (Itl K a).yld i H x H' → gName j x (wipe σ vs) H' fun σ2 H2 => wipe σ2 vs = wipe σ vs ∧ tt σ2 H2 fun b H3 =>
        if b = true then te σ2 H3 fun y H4 => ∃ acc, H4 D = some (.lst acc) ∧ acc.length < sizeLine ∧ Nx (upd H4 D (.lst (acc ++ [y]))) else Nx H3) := by
  refine lc_list (K := K) (a := a) (xs := xs) (fun i H => Same H1 H ∧ H D = some (.lst ((sel.take i).filterMap id))) ⟨same_upd nD, upd_same⟩ (fun i H _ p => p.1.seq hS) ?_ ?_
  · rintro i x H hx ⟨s, hD⟩
    refine ⟨hw x, ?_⟩
    have hi : i < sel.length := by rw [hlen]; exact (List.getElem?_eq_some_iff.mp hx).1
    have ho : sel[i]? = some sel[i] := List.getElem?_eq_getElem hi
    have hl : ((sel.take i).filterMap id).length < sizeLine := Nat.lt_of_le_of_lt (fm_len sel i) (by omega)
    refine hs i x sel[i] H hx ho s (fun o H4 => match o with
      | some y => ∃ acc, H4 D = some (.lst acc) ∧ acc.length < sizeLine ∧ (Same H1 (upd H4 D (.lst (acc ++ [y]))) ∧ (upd H4 D (.lst (acc ++ [y]))) D = some (.lst ((sel.take (i + 1)).filterMap id)))
      | none => Same H1 H4 ∧ H4 D = some (.lst ((sel.take (i + 1)).filterMap id))) fun H4 s4 => ?_
    generalize sel[i] = o at ho ⊢
    cases o with
    | some y =>
      refine ⟨_, s4 _ _ hD, hl, same_over nD (s.trans s4), ?_⟩
      rw [upd_same, take_fm ho]
      rfl
    | none =>
      refine ⟨s.trans s4, ?_⟩
      rw [take_fm ho, s4 _ _ hD]
      simp
  · rintro H ⟨s, hD⟩
    refine hd H s ?_
    rw [hD, ← hlen, List.take_length]
theorem lc_selR {lo : Int} {n : Nat} {j : Nat} {tt : TT} {te : TE} {vs : List Nat} {σ : L2.St} {H1 : Hp} {D : Addr} {Qd : Hp → Prop} (sel : List (Option V)) (nD : H1 D = none) (hlen : sel.length = n) (hz : n < sizeLine)
    (hw : ∀ x, wipe ((wipe σ vs).set j (some x)) vs = wipe σ vs)
    (hs : ∀ (i : Nat) (o : Option V) (H' : Hp), i < n → sel[i]? = some o → Same H1 H' → ∀ Qt : Option V → Hp → Prop, (∀ H'', Same H' H'' → Qt o H'') →
      tt ((wipe σ vs).set j (some (.int (lo + (i : Int))))) H' fun b H3 => if b = true then te ((wipe σ vs).set j (some (.int (lo + (i : Int))))) H3 fun y H4 => Qt (some y) H4 else Qt none H3)
    (hd : ∀ H', Same H1 H' → H' D = some (.lst (sel.filterMap id)) → Qd H') :
    ∃ W : Nat → Nat → Hp → Prop, (∃ m, W 0 m (upd H1 D (.lst []))) ∧ ∀ i m H, W i m H →
      ((Itr lo n).stop i H ∧ Qd H) ∨ ((Itr lo n).go i H ∧ ∃ Nx : Hp → Prop, (∀ H', Nx H' → ∃ m', m' < m ∧ W (i + 1) m' H') ∧ ∀ x H', (Itr lo n).yld i H x H' → gName j x (wipe σ vs) H' fun σ2 H2 => wipe σ2 vs = wipe σ vs ∧ tt σ2 H2 fun b H3 =>
        if b = true then te σ2 H3 fun y H4 => ∃ acc, H4 D = some (.lst acc) ∧ acc.length < sizeLine ∧ Nx (upd H4 D (.lst (acc ++ [y]))) else Nx H3) := by
  refine lc_range (lo := lo) (n := n) (fun i H => Same H1 H ∧ H D = some (.lst ((sel.take i).filterMap id))) ⟨same_upd nD, upd_same⟩ ?_ ?_
  · rintro i H hi' ⟨s, hD⟩
    refine ⟨hw _, ?_⟩
    have hi : i < sel.length := by rw [hlen]; exact hi'
    have ho : sel[i]? = some sel[i] := List.getElem?_eq_getElem hi
    have hl : ((sel.take i).filterMap id).length < sizeLine := Nat.lt_of_le_of_lt (fm_len sel i) (by omega)
    refine hs i sel[i] H hi' ho s (fun o H4 => match o with
      | some y => ∃ acc, H4 D = some (.lst acc) ∧ acc.length < sizeLine ∧ (Same H1 (upd H4 D (.lst (acc ++ [y]))) ∧ (upd H4 D (.lst (acc ++ [y]))) D = some (.lst ((sel.take (i + 1)).filterMap id)))
      | none => Same H1 H4 ∧ H4 D = some (.lst ((sel.take (i + 1)).filterMap id))) fun H4 s4 => ?_
    generalize sel[i] = o at ho ⊢
    cases o with
    | some y =>
      refine ⟨_, s4 _ _ hD, hl, same_over nD (s.trans s4), ?_⟩
      rw [upd_same, take_fm ho]
      rfl
    | none =>
      refine ⟨s.trans s4, ?_⟩
      rw [take_fm ho, s4 _ _ hD]
      simp
  · rintro H ⟨s, hD⟩
    refine hd H s ?_
    rw [hD, ← hlen, List.take_length]
theorem fm_some {α : Type} (ys : List α) : (ys.map some).filterMap id = ys := by
  rw [List.filterMap_map]
  show List.filterMap (fun y => some y) ys = ys
  exact List.filterMap_some
/-- no test: ys tells what comes of each item -/
theorem lc_mapL {K : PySem.W.Frag} {a : Addr} {xs : List V} {j : Nat} {te : TE} {vs : List Nat} {σ : L2.St} {H1 : Hp} {D : Addr} {Qd : Hp → Prop} (ys : List V) (nD : H1 D = none) (hS : SqL K H1 a xs) (hlen : ys.length = xs.length) (hz : xs.length < sizeLine)
    (hw : ∀ x, wipe ((wipe σ vs).set j (some x)) vs = wipe σ vs)
    (hs : ∀ (i : Nat) (x y : V) (H' : Hp), xs[i]? = some x → ys[i]? = some y → Same H1 H' → ∀ Qt : V → Hp → Prop, (∀ H'', Same H' H'' → Qt y H'') → te ((wipe σ vs).set j (some x)) H' Qt)
    (hd : ∀ H', Same H1 H' → H' D = some (.lst ys) → Qd H') :
    ∃ W : Nat → Nat → Hp → Prop, (∃ m, W 0 m (upd H1 D (.lst []))) ∧ ∀ i m H, W i m H →
      ((Itl K a).stop i H ∧ Qd H) ∨ ((Itl K a).go i H ∧ ∃ Nx : Hp → Prop, (∀ H', Nx H' → ∃ m', m' < m ∧ W (i + 1) m' H') ∧ ∀ x H', (Itl K a).yld i H x H' → gName j x (wipe σ vs) H' fun σ2 H2 => wipe σ2 vs = wipe σ vs ∧ tYes σ2 H2 fun b H3 =>
        if b = true then te σ2 H3 fun y H4 => ∃ acc, H4 D = some (.lst acc) ∧ acc.length < sizeLine ∧ Nx (upd H4 D (.lst (acc ++ [y]))) else Nx H3) := by
  refine lc_selL (K := K) (a := a) (xs := xs) (tt := tYes) (ys.map some) nD hS (by rw [List.length_map]; exact hlen) hz hw ?_ ?_
  · intro i x o H' hx ho s Qt qt
    rw [List.getElem?_map] at ho
    obtain ⟨y, hy, rfl⟩ := Option.map_eq_some_iff.mp ho
    show if true = true then te ((wipe σ vs).set j (some x)) H' (fun y H4 => Qt (some y) H4) else Qt none H'
    exact iteT (hs i x y H' hx hy s (fun y H4 => Qt (some y) H4) qt)
  · intro H' s hD
    rw [fm_some] at hD
    exact hd H' s hD
theorem lc_mapR {lo : Int} {n : Nat} {j : Nat} {te : TE} {vs : List Nat} {σ : L2.St} {H1 : Hp} {D : Addr} {Qd : Hp → Prop} (ys : List V) (nD : H1 D = none) (hlen : ys.length = n) (hz : n < sizeLine)
    (hw : ∀ x, wipe ((wipe σ vs).set j (some x)) vs = wipe σ vs)
    (hs : ∀ (i : Nat) (y : V) (H' : Hp), i < n → ys[i]? = some y → Same H1 H' → ∀ Qt : V → Hp → Prop, (∀ H'', Same H' H'' → Qt y H'') → te ((wipe σ vs).set j (some (.int (lo + (i : Int))))) H' Qt)
    (hd : ∀ H', Same H1 H' → H' D = some (.lst ys) → Qd H') :
    ∃ W : Nat → Nat → Hp → Prop, (∃ m, W 0 m (upd H1 D (.lst []))) ∧ ∀ i m H, W i m H →
      ((Itr lo n).stop i H ∧ Qd H) ∨ ((Itr lo n).go i H ∧ ∃ Nx : Hp → Prop, (∀ H', Nx H' → ∃ m', m' < m ∧ W (i + 1) m' H') ∧ ∀ x H', (Itr lo n).yld i H x H' → gName j x (wipe σ vs) H' fun σ2 H2 => wipe σ2 vs = wipe σ vs ∧ tYes σ2 H2 fun b H3 =>
        if b = true then te σ2 H3 fun y H4 => ∃ acc, H4 D = some (.lst acc) ∧ acc.length < sizeLine ∧ Nx (upd H4 D (.lst (acc ++ [y]))) else Nx H3) := by
  refine lc_selR (lo := lo) (n := n) (tt := tYes) (ys.map some) nD (by rw [List.length_map]; exact hlen) hz hw ?_ ?_
  · intro i o H' hi ho s Qt qt
    rw [List.getElem?_map] at ho
    obtain ⟨y, hy, rfl⟩ := Option.map_eq_some_iff.mp ho
    show if true = true then te ((wipe σ vs).set j (some (.int (lo + (i : Int))))) H' (fun y H4 => Qt (some y) H4) else Qt none H'
    exact iteT (hs i y H' hi hy s (fun y H4 => Qt (some y) H4) qt)
  · intro H' s hD
    rw [fm_some] at hD
    exact hd H' s hD
/-- an item of a list of whole numbers -/
theorem int_at {ns : List Int} {i : Nat} {x : V} (h : (ns.map V.int)[i]? = some x) : ∃ n, ns[i]? = some n ∧ x = .int n := by
  rw [List.getElem?_map] at h
  obtain ⟨n, hn, e⟩ := Option.map_eq_some_iff.mp h
  exact ⟨n, hn, e.symm⟩
/-! ### rules with the written part named (within a comprehension Lean doesn't find it) -/
section
variable {X : Cx}
theorem k_len (K : PySem.W.Frag) (h : X.K = K) : CallR X (.builtin "len") (fun xs H Q => ∃ p ys, xs = [.ref p] ∧ (SqL K H p ys ∨ SqT K H p ys) ∧ Q (.int ys.length) H) := by subst h; exact call_len_seq
theorem k_sum (K : PySem.W.Frag) (h : X.K = K) (hc : X.calm = true) : CallR X (.builtin "sum") (rSum K) := by subst h; exact cr_sum hc
theorem k_max (K : PySem.W.Frag) (h : X.K = K) (hc : X.calm = true) : CallR X (.builtin "max") (rMax K) := by subst h; exact cr_max hc
theorem k_min (K : PySem.W.Frag) (h : X.K = K) (hc : X.calm = true) : CallR X (.builtin "min") (rMin K) := by subst h; exact cr_min hc
theorem k_isi (K : PySem.W.Frag) (h : X.K = K) : CallR X (.builtin "isinstance") (rIsi K) := by subst h; exact call_isi
theorem k_listOf (K : PySem.W.Frag) (h : X.K = K) : CallR X (.type "list") (fun xs H Q => ∃ p ys, xs = [.ref p] ∧ (SqL K H p ys ∨ SqT K H p ys) ∧ ∀ l, H l = none → Q (.ref l) (upd H l (.lst ys))) := by subst h; exact call_list_of
theorem k_tupleOf (K : PySem.W.Frag) (h : X.K = K) : CallR X (.type "tuple") (fun xs H Q => ∃ p ys, xs = [.ref p] ∧ ((SqL K H p ys ∧ ∀ l, H l = none → Q (.ref l) (upd H l (.tup ys))) ∨ (SqT K H p ys ∧ Q (.ref p) H))) := by subst h; exact call_tuple_of
theorem k_ixL (K : PySem.W.Frag) (h : X.K = K) : IxR X (rIxL K) := by subst h; exact ix_list
theorem k_ixT (K : PySem.W.Frag) (h : X.K = K) : IxR X (rIxT K) := by subst h; exact ix_tup
theorem k_slL (K : PySem.W.Frag) (h : X.K = K) : SlR X (rSlL K) := by subst h; exact sl_list
theorem k_slT (K : PySem.W.Frag) (h : X.K = K) : SlR X (rSlT K) := by subst h; exact sl_tup
theorem k_eqD (K : PySem.W.Frag) (h : X.K = K) (hu : X.A.units + 64 < cLine) : OpR X (compareOp .Eq) (rEqD K) := by subst h; exact op_eqD hu
theorem k_neD (K : PySem.W.Frag) (h : X.K = K) (hu : X.A.units + 64 < cLine) : OpR X (compareOp .NotEq) (rNeD K) := by subst h; exact op_neD hu
theorem k_in (K : PySem.W.Frag) (h : X.K = K) : OpR X (compareOp .In) (rIn K false) := by subst h; exact op_in_seq
theorem k_notIn (K : PySem.W.Frag) (h : X.K = K) : OpR X (compareOp .NotIn) (rIn K true) := by subst h; exact op_notIn_seq
theorem k_piL (K : PySem.W.Frag) (h : X.K = K) {tg l : Expr} {tl : TE} (hl : PE X l tl) : PI X tg l (iList K tl) := by subst h; exact pi_list hl
theorem k_piT (K : PySem.W.Frag) (h : X.K = K) {tg l : Expr} {tl : TE} (hl : PE X l tl) : PI X tg l (iTup K tl) := by subst h; exact pi_tup hl
theorem k_piE (K : PySem.W.Frag) (h : X.K = K) {e : Expr} {ta : TA} {p pos tpos : Pos} {elts : List Expr} {kk : Nat} (hg : Gl X "enumerate") (hm : X.mg "enumerate" = none) (ha : PA X [e] ta) (hs : starEach [e] X.env = [(false, eval e X.env)] := by rfl) : PI X (.Tuple elts kk tpos) (.Call (.Name "enumerate" p) [e] [] pos) (iEnum K ta) := by subst h; exact pi_enum hg hm ha hs
theorem k_pgT (K : PySem.W.Frag) (h : X.K = K) {es : List Expr} {k : Nat} {t : TGs} {n : Nat} {pos : Pos} (hc : X.calm = true) (hp : PGs X es t) (hn : (assignEach es X.env).length = n := by rfl) (hst : (assignEach es X.env).findIdx? (·.1) = none := by rfl) : PG X (.Tuple es k pos) (gTup K n t) := by subst h; exact pg_tup hc hp hn hst
theorem k_pgL (K : PySem.W.Frag) (h : X.K = K) {es : List Expr} {k : Nat} {t : TGs} {n : Nat} {pos : Pos} (hc : X.calm = true) (hp : PGs X es t) (hn : (assignEach es X.env).length = n := by rfl) (hst : (assignEach es X.env).findIdx? (·.1) = none := by rfl) : PG X (.Tuple es k pos) (gUnl K n t) := by subst h; exact pg_unl hc hp hn hst
theorem k_fld (K : PySem.W.Frag) (h : X.K = K) {e : Expr} {f : Str} {pos : Pos} {ta : TE} (he : PE X e ta) (hb : attributeBase e f X.env (eval e X.env) = eval e X.env) : PE X (.Attribute e f pos) (tFld K ta f) := by subst h; exact pe_fld he hb
theorem k_index (K : PySem.W.Frag) (h : X.K = K) : MtR X "list.index" (rIndex K) := by subst h; exact mt_index
end
/-! ### small things -/
theorem fresh {H : Hp} {p : Addr} (o : HO) (np : H p = none) : ∃ H', upd H p o = H' ∧ Same H H' ∧ H' p = some o := ⟨_, rfl, same_upd np, upd_same⟩
theorem cut_take (xs : List V) (k : Nat) : cutV xs none (some (k : Int)) = xs.take k := by
  unfold cutV
  rw [HT.sIx_nat, HT.sIx_none, List.drop_zero, Nat.sub_zero]
  rcases Nat.le_total k xs.length with h | h
  · rw [Nat.min_eq_left h]
  · rw [Nat.min_eq_right h, List.take_of_length_le h, List.take_length]
theorem cut_drop (xs : List V) (k : Nat) : cutV xs (some (k : Int)) none = xs.drop k := by
  unfold cutV
  rw [HT.sIx_nat, HT.sIx_none]
  rcases Nat.le_total k xs.length with h | h
  · rw [Nat.min_eq_left h, List.take_of_length_le (by rw [List.length_drop]; exact Nat.le_refl _)]
  · rw [Nat.min_eq_right h, List.drop_length, List.drop_of_length_le h, List.take_nil]
theorem rep_ints (k : Nat) (ks : List Int) : (List.replicate k (ks.map V.int)).flatten = ((List.replicate k ks).flatten).map V.int := by
  rw [List.map_flatten, List.map_replicate]
theorem rep_len {α : Type} (k : Nat) (ks : List α) : ((List.replicate k ks).flatten).length = k * ks.length := by
  induction k with
  | zero => simp
  | succ k ih => rw [List.replicate_succ, List.flatten_cons, List.length_append, ih, Nat.succ_mul]; omega
theorem rep_mem {α : Type} {k : Nat} {ks : List α} {x : α} (h : x ∈ (List.replicate k ks).flatten) : x ∈ ks := by
  obtain ⟨l, hl, hx⟩ := List.mem_flatten.mp h
  rw [(List.mem_replicate.mp hl).2] at hx
  exact hx
/-! ### comprehensions that make new things: R tells what is known of the i-th; D is no part of it -/
def Off (D : Addr) (H H' : Hp) : Prop := ∀ b o, b ≠ D → H b = some o → H' b = some o
def RelPv (R : Nat → V → Hp → Prop) (H1 : Hp) (D : Addr) (i : Nat) (H : Hp) : Prop := ∃ ys : List V, Same H1 H ∧ H D = some (.lst ys) ∧ ys.length = i ∧ ∀ (k : Nat) (y : V), ys[k]? = some y → R k y H
theorem lc_relR {lo : Int} {n : Nat} {j : Nat} {te : TE} {vs : List Nat} {σ : L2.St} {H1 : Hp} {D : Addr} {Qd : Hp → Prop} (R : Nat → V → Hp → Prop) (nD : H1 D = none) (hz : n < sizeLine)
    (mono : ∀ i y H H', Off D H H' → R i y H → R i y H')
    (hw : ∀ x, wipe ((wipe σ vs).set j (some x)) vs = wipe σ vs)
    (hs : ∀ (i : Nat) (H' : Hp) (xs : List V), i < n → Same H1 H' → H' D = some (.lst xs) → ∀ Qt : V → Hp → Prop, (∀ y H'', Same H' H'' → R i y H'' → Qt y H'') → te ((wipe σ vs).set j (some (.int (lo + (i : Int))))) H' Qt)
    (hd : ∀ H' ys, Same H1 H' → H' D = some (.lst ys) → ys.length = n → (∀ (i : Nat) (y : V), ys[i]? = some y → R i y H') → Qd H') :
    ∃ W : Nat → Nat → Hp → Prop, (∃ m, W 0 m (upd H1 D (.lst []))) ∧ ∀ i m H, W i m H →
      ((Itr lo n).stop i H ∧ Qd H) ∨ ((Itr lo n).go i H ∧ ∃ Nx : Hp → Prop, (∀ H', Nx H' → ∃ m', m' < m ∧ W (i + 1) m' H') ∧ ∀ x H', (Itr lo n).yld i H x H' → gName j x (wipe σ vs) H' fun σ2 H2 => wipe σ2 vs = wipe σ vs ∧ tYes σ2 H2 fun b H3 =>
        if b = true then te σ2 H3 fun y H4 => ∃ acc, H4 D = some (.lst acc) ∧ acc.length < sizeLine ∧ Nx (upd H4 D (.lst (acc ++ [y]))) else Nx H3) := by
  refine lc_range (lo := lo) (n := n) (RelPv R H1 D) ⟨[], same_upd nD, upd_same, rfl, fun k y h => by simp at h⟩ ?_ ?_
  · rintro i H hi ⟨ys, s, hD, hl, hR⟩
    refine ⟨hw _, ?_⟩
    show if true = true then te ((wipe σ vs).set j (some (.int (lo + (i : Int))))) H (fun y H4 => ∃ acc, H4 D = some (.lst acc) ∧ acc.length < sizeLine ∧ RelPv R H1 D (i + 1) (upd H4 D (.lst (acc ++ [y])))) else RelPv R H1 D (i + 1) H
    refine iteT (hs i H ys hi s hD _ fun y H4 s4 r4 => ?_)
    refine ⟨ys, s4 _ _ hD, by omega, ys ++ [y], same_over nD (s.trans s4), upd_same, by rw [List.length_append, hl]; rfl, fun k z hz => ?_⟩
    have off : Off D H4 (upd H4 D (.lst (ys ++ [y]))) := fun b o nb h => by rw [upd_ne nb]; exact h
    by_cases hk : k < ys.length
    · rw [List.getElem?_append_left hk] at hz
      exact mono k z H _ (fun b o nb h => off b o nb (s4 b o h)) (hR k z hz)
    · rw [List.getElem?_append_right (by omega)] at hz
      have hk2 : k - ys.length = 0 := by
        have h2 := (List.getElem?_eq_some_iff.mp hz).1
        rw [List.length_singleton] at h2
        omega
      rw [hk2] at hz
      cases hz
      have ek : k = i := by omega
      rw [ek]
      exact mono i y H4 _ off r4
  · rintro H ⟨ys, s, hD, hl, hR⟩
    exact hd H ys s hD hl hR
/-! ### ways that are told by whole numbers -/
theorem iteDT {p A B : Prop} [Decidable p] (hp : p) (h : A) : if decide p = true then A else B := by rw [decide_eq_true hp]; exact iteT h
theorem iteDF {p A B : Prop} [Decidable p] (hp : ¬ p) (h : B) : if decide p = true then A else B := by rw [decide_eq_false hp]; exact iteF h
theorem iteNT {p A B : Prop} [Decidable p] (hp : ¬ p) (h : A) : if (!decide p) = true then A else B := by rw [decide_eq_false hp]; exact iteT h
theorem iteNF {p A B : Prop} [Decidable p] (hp : p) (h : B) : if (!decide p) = true then A else B := by rw [decide_eq_true hp]; exact iteF h
theorem iteET {a b : Int} {A B : Prop} [Decidable (V.int a = V.int b)] (hp : a = b) (h : A) : if decide (V.int a = V.int b) = true then A else B := iteDT (congrArg V.int hp) h
theorem iteEF {a b : Int} {A B : Prop} [Decidable (V.int a = V.int b)] (hp : ¬ a = b) (h : B) : if decide (V.int a = V.int b) = true then A else B := iteDF (fun z => hp (V.int.inj z)) h
theorem iteENT {a b : Int} {A B : Prop} [Decidable (V.int a = V.int b)] (hp : ¬ a = b) (h : A) : if (!decide (V.int a = V.int b)) = true then A else B := iteNT (fun z => hp (V.int.inj z)) h
theorem iteENF {a b : Int} {A B : Prop} [Decidable (V.int a = V.int b)] (hp : a = b) (h : B) : if (!decide (V.int a = V.int b)) = true then A else B := iteNF (congrArg V.int hp) h
theorem iteNtt {A B : Prop} (h : B) : if (!true) = true then A else B := h
theorem iteNff {A B : Prop} (h : A) : if (!false) = true then A else B := h
/-- 1 or 0 of a comparison -/
theorem int_if {p : Prop} [Decidable p] : (if decide p = true then (1 : Int) else 0) = if p then 1 else 0 := by by_cases h : p <;> simp [h]
end Pre

namespace My
open PySem PySem.Spec PyProof.Rows L2 Pre
/-! ### == and != of instances by their class's own __eq__ -/
/-- != of a class with own __eq__, without own __ne__ -/
theorem own_ne {prog : Program} {w : World} {A : Around} {E : Value → Shared → Prop} {s : Shared} {K : PySem.W.Frag} {x C f : Addr} {ox : Obj} {od : Option Obj} {b tb : Value} {Q : Value → Shared → Prop} (room : A.units + 1 < cLine) (kin : K.In s.heap)
    (inst : PySem.W.InstAt s.heap x ox C od) (tyb : PySem.W.Looks (model prog w) s.heap (typeOf b) tb) (nf : PySem.W.notFirst K C tb = true) (hne : PySem.W.findIn K (.ref C) "__ne__" = some (some (.builtin "object.__ne__")))
    (heq : PySem.W.findIn K (.ref C) "__eq__" = some (some (.ref f))) (isf : PySem.W.isFn K (.ref f) = true) (hob : PySem.W.subIn K (.ref C) (.type "object") = some true)
    (h : wpAny (model prog w) A.in1 (call (.ref f) [.ref x, b]) (fun v s' => ∃ r, v = .bool r ∧ Q (.bool (!r)) s') E s) : wpAny (model prog w) A (richCompare .NotEq (.ref x) b) Q E s := by
  have body : wpAny (model prog w) A.in1 (Builtin.«object.__ne__» ⟨[.ref x, b], []⟩) (fun fin s' => ∃ r, fin = .done (.ret (.bool r)) ∧ Q (.bool r) s') E s := by
    unfold Builtin.«object.__ne__»
    refine wpAny_bind (wpAny_of_eq (a := ((Value.ref x : Value), [b])) (by first | rfl | (simp only [slotArgs]; rfl)) ?_)
    refine wpAny_bind (wpAny_cRoomFor (show A.in1.units < cLine from room) ?_)
    refine wpAny_bind (PySem.W.ifBound_K kin inst heq isf (wpAny_mono h (fun v s' hv => ?_) fun _ _ e => e))
    obtain ⟨r, rfl, q⟩ := hv
    refine wpAny_bind (wpAny_truthy_bool ?_)
    exact wpAny_pure ⟨!r, rfl, q⟩
  have one : wpAny (model prog w) A (tryCompare (.ref x) "__ne__" b) (fun o s' => ∃ v, o = some v ∧ Q v s') E s := by
    have called : wpAny (model prog w) A (call (.builtin "object.__ne__") ([.ref x] ++ [b]) >>= fun v => pure (some v)) (fun o s' => ∃ v r, o = some v ∧ v = .bool r ∧ Q v s') E s := by
      refine wpAny_bind (wpAny_call (codeAny_call_builtin PySem.F.cmp_object.ne.plain PySem.F.cmpEntry_ne (PySem.W.check_slot PySem.F.cmpKind_ne PySem.F.cmpSplit_ne (inst.type.andThen (PySem.W.looks_subIn kin hob)) (PySem.F.cmpArgs_ne _ _) ?_)))
      refine wpAny_mono body (fun fin s' hf => ?_) fun _ _ e => e
      obtain ⟨r, rfl, q⟩ := hf
      exact wpAny_pure ⟨_, r, rfl, rfl, q⟩
    have inner : wpAny (model prog w) A (callSpecialIfBound? (.ref x) "__ne__" [b]) (fun o s' => ∃ v r, o = some v ∧ v = .bool r ∧ Q v s') E s := by
      simp only [callSpecialIfBound?, bindSpecialIfBound?]
      refine wpAny_holding (wpAny_bind (wpAny_bind (wpAny_bind (inst.type.here ((PySem.W.looks_findIn kin hne).here ?_)))))
      refine wpAny_bind (wpAny_askSetting (wpAny_ite ?_))
      rw [PySem.F.cmp_object.ne.bind]
      split
      · exact wpAny_bind (wpAny_pure (wpAny_pure called))
      · exact wpAny_tryCatch (wpAny_bind (wpAny_pure (wpAny_pure called)))
    unfold tryCompare
    refine wpAny_bind (wpAny_mono inner (fun o s' ho => ?_) fun _ _ e => e)
    obtain ⟨v, r, rfl, rfl, q⟩ := ho
    exact wpAny_pure ⟨_, rfl, q⟩
  unfold richCompare
  simp only [oneThing_ref]
  refine wpAny_holding (wpAny_bind (wpAny_cRoomFor (by omega) ?_))
  refine wpAny_bind (inst.type.here (wpAny_bind (tyb.here ?_)))
  have last : wpAny (model prog w) A (tryCompare (.ref x) "__ne__" b) (fun o s' => ∃ v, o = some v ∧ Q v s') E s := one
  split
  · rename_i q
    have e : PySem.W.subIn K tb (.ref C) = some false := by
      rcases Bool.or_eq_true_iff.mp nf with e | e
      · rw [beq_iff_eq.mp e] at q; simp at q
      · exact beq_iff_eq.mp e
    refine wpAny_bind ((PySem.W.looks_subIn kin e).here ?_)
    simp only [Bool.false_eq_true, if_false]
    refine wpAny_bind (wpAny_mono last (fun o s' z => ?_) fun _ _ e => e)
    obtain ⟨v, rfl, hq⟩ := z
    exact wpAny_pure hq
  · refine wpAny_bind (wpAny_pure ?_)
    simp only [Bool.false_eq_true, if_false]
    refine wpAny_bind (wpAny_mono last (fun o s' z => ?_) fun _ _ e => e)
    obtain ⟨v, rfl, hq⟩ := z
    exact wpAny_pure hq
/-- what is asked of a class with own __eq__ -/
structure EqC (K : PySem.W.Frag) (C f : Addr) : Prop where
  eq : PySem.W.findIn K (.ref C) "__eq__" = some (some (.ref f))
  fn : PySem.W.isFn K (.ref f) = true
  ne : PySem.W.findIn K (.ref C) "__ne__" = some (some (.builtin "object.__ne__"))
  ob : PySem.W.subIn K (.ref C) (.type "object") = some true
  li : PySem.W.subIn K (.type "list") (.ref C) = some false
  ki : PySem.W.kitOne K (.type "list") (.ref C) = some false
  tu : PySem.W.subIn K (.type "tuple") (.ref C) = some false
  kt : PySem.W.kitOne K (.type "tuple") (.ref C) = some false
/-- what stands right of ==: an instance of the same class, a list or a tuple -/
def Rhs (K : PySem.W.Frag) (H : Hp) (C : Addr) (y : V) : Prop := ∃ b, y = .ref b ∧ ((∃ dy gs, H b = some (.ins C dy gs)) ∨ (∃ xs, SqL K H b xs) ∨ ∃ xs, SqT K H b xs)
section
variable {X : Cx} {CX : CXT} {k : Nat} {f C : Addr} {fd : FuncData} {ps : List Str} {sp : Sp} {E : XK}
theorem rhs_ty {pins : List (Addr × Obj)} {σ : L2.St} {H : Hp} {s : Shared} {y : V} {u : Value} (I : Inv X pins σ H s) (c : EqC X.K C f) (h : Rhs X.K H C y) (r : RelV y u) : ∃ tb, PySem.W.Looks (model X.prog X.w) s.heap (typeOf u) tb ∧ PySem.W.notFirst X.K C tb = true := by
  obtain ⟨b, rfl, h⟩ := h
  cases r
  rcases h with ⟨dy, gs, hb⟩ | ⟨xs, hb⟩ | ⟨xs, hb⟩
  · obtain ⟨mB, J, _⟩ := ins_get I.hok hb
    obtain ⟨od, J, _⟩ := J.look
    exact ⟨_, J.type, by simp [PySem.W.notFirst]⟩
  · obtain ⟨us, _, ⟨o, n, ho, hc, _⟩, _⟩ := I.list hb
    refine ⟨.type "list", fun A Q E s' k q => wpAny_typeOf_ref (k _ _ ho) (by rw [hc]; exact q), ?_⟩
    simp only [PySem.W.notFirst, c.li]
    simp
  · obtain ⟨us, _, ⟨o, ho, hc, _⟩, _⟩ := I.tuple hb
    refine ⟨.type "tuple", fun A Q E s' k q => wpAny_typeOf_ref (k _ _ ho) (by rw [hc]; exact q), ?_⟩
    simp only [PySem.W.notFirst, c.tu]
    simp
theorem run_eq {A : Around} {pins : List (Addr × Obj)} {σ : L2.St} {H : Hp} {s : Shared} {Q : VK} {x y : V} {a : Addr} {u : Value} (F : FnOk X.prog X.w X.K X.mg X.base CX k f fd ps sp) (hr : Room k A) (fr : A.frames = X.A.frames) (hb : Binds X.K fd ps [])
    (hx : Passes CX X E) (I : Inv X pins σ H s) (ry : RelV y u) (h : sp [.ref a, y] H Q E) : wpAny (model X.prog X.w) A (call (.ref f) [.ref a, u]) (EP X pins σ Q) X.xe s := by
  have rr : Vals [V.ref a, y] [Value.ref a, u] := .cons rfl (.cons ry .nil)
  have e := I.env0
  have e0 : Env0 X.prog X.w X.K X.mg X.base A X.stack s H := ⟨by rw [fr]; exact e.frames, e.mod, e.bs, e.bsz, e.funs, e.frf, e.hok, e.bare⟩
  have bn := hb s [.ref a, u] I.kIn (by have := F.len _ _ _ _ h; simpa using this)
  rw [List.append_nil] at bn
  refine wpAny_call (codeAny_mono (F.run A X.stack s H ⟨[.ref a, u], []⟩ [.ref a, u] [.ref a, y] Q E hr e0 bn rr h) fun z s2 hz => ?_)
  match z, hz with
  | .error e, hz => exact hx pins σ H s e s2 I hz
  | .ok (.ret v), hz => exact I.after hz
def rOwn (K : PySem.W.Frag) (C : Addr) (sp : Sp) (E : XK) (no : Bool) : R2 := fun x y H Q => ∃ (a dx : Addr) (fs : List (Str × V)), x = .ref a ∧ H a = some (.ins C dx fs) ∧ Rhs K H C y ∧ sp [x, y] H (fun v H' => ∃ b, v = .bl b ∧ Q (.bl (b != no)) H') E
theorem op_own_eq (c : EqC X.K C f) (F : FnOk X.prog X.w X.K X.mg X.base CX k f fd ps sp) (hr : Room (k + 1) X.A) (hb : Binds X.K fd ps []) (hx : Passes CX X E) : OpR X (compareOp .Eq) (rOwn X.K C sp E false) := by
  intro pins s σ H x y v u Q I rx ry h
  obtain ⟨a, dx, fs, rfl, ha, hy, h⟩ := h
  cases rx
  obtain ⟨tb, lb, nf⟩ := rhs_ty I c hy ry
  obtain ⟨mA, J, _⟩ := ins_get I.hok ha
  obtain ⟨od, J, _⟩ := J.look
  obtain ⟨m, hF⟩ := I.fr
  refine PySem.W.cmp_K (op := .Eq) hr.units0 hF I.ok.mod.kin J lb nf c.eq c.fn (wpAny_mono (run_eq (x := .ref a) F (hr.mono (by omega)) rfl hb hx I ry h) (fun v s2 hv => ?_) fun _ _ z => z)
  obtain ⟨z, H2, I2, r2, b, rfl, q⟩ := hv
  cases r2
  refine ⟨.bl b, H2, I2, rfl, ?_⟩
  have e : (b != false) = b := by cases b <;> rfl
  rw [e] at q
  exact q
theorem op_own_ne (c : EqC X.K C f) (F : FnOk X.prog X.w X.K X.mg X.base CX k f fd ps sp) (hr : Room (k + 1) X.A) (hb : Binds X.K fd ps []) (hx : Passes CX X E) : OpR X (compareOp .NotEq) (rOwn X.K C sp E true) := by
  intro pins s σ H x y v u Q I rx ry h
  obtain ⟨a, dx, fs, rfl, ha, hy, h⟩ := h
  cases rx
  obtain ⟨tb, lb, nf⟩ := rhs_ty I c hy ry
  obtain ⟨mA, J, _⟩ := ins_get I.hok ha
  obtain ⟨od, J, _⟩ := J.look
  refine own_ne (by have := hr.units; omega) I.kIn J lb nf c.ne c.eq c.fn c.ob (wpAny_mono (run_eq (x := .ref a) F hr.in1 rfl hb hx I ry h) (fun v s2 hv => ?_) fun _ _ z => z)
  obtain ⟨z, H2, I2, r2, b, rfl, q⟩ := hv
  cases r2
  refine ⟨b, rfl, .bl (!b), H2, I2, rfl, ?_⟩
  have e : (b != true) = !b := by cases b <;> rfl
  rw [e] at q
  exact q
end
end My

namespace My
open PySem PySem.Spec PyProof.Rows L2
theorem nil_binds {K : PySem.W.Frag} {fd : FuncData} {ps : List Str} (h : ∃ ds, Vals [] ds ∧ Binds K fd ps ds) : Binds K fd ps [] := by
  obtain ⟨ds, v, b⟩ := h
  cases v
  exact b
def top (i : Nat) : Stmt := PySem.Challenge.pw_wholesound_k67_whole_pairs_of_checks.main.body.getD i (.Pass ⟨0, 0, 0, 0⟩)
abbrev s_is_whole : Stmt := top 6
abbrev N_is_whole : List Str := ["value"]
theorem sc_is_whole : FnScope N_is_whole ["value"] (defScope s_is_whole) := ⟨rfl, rfl, rfl, by decide +kernel, rfl, by decide +kernel, by decide +kernel⟩
abbrev s_is_between : Stmt := top 7
abbrev N_is_between : List Str := ["value", "low", "high"]
theorem sc_is_between : FnScope N_is_between ["value", "low", "high"] (defScope s_is_between) := ⟨rfl, rfl, rfl, by decide +kernel, rfl, by decide +kernel, by decide +kernel⟩
abbrev s_is_bits : Stmt := top 8
abbrev N_is_bits : List Str := ["value", "sign"]
theorem sc_is_bits : FnScope N_is_bits ["value"] (defScope s_is_bits) := ⟨rfl, rfl, rfl, by decide +kernel, rfl, by decide +kernel, by decide +kernel⟩
abbrev s_bits_of : Stmt := top 9
abbrev N_bits_of : List Str := ["number", "many", "at"]
theorem sc_bits_of : FnScope N_bits_of ["number", "many"] (defScope s_bits_of) := ⟨rfl, rfl, rfl, by decide +kernel, rfl, by decide +kernel, by decide +kernel⟩
abbrev s_check_number : Stmt := top 10
abbrev N_check_number : List Str := ["number", "low", "high"]
theorem sc_check_number : FnScope N_check_number ["number", "low", "high"] (defScope s_check_number) := ⟨rfl, rfl, rfl, by decide +kernel, rfl, by decide +kernel, by decide +kernel⟩
abbrev s_check_bits : Stmt := top 11
abbrev N_check_bits : List Str := ["bits"]
theorem sc_check_bits : FnScope N_check_bits ["bits"] (defScope s_check_bits) := ⟨rfl, rfl, rfl, by decide +kernel, rfl, by decide +kernel, by decide +kernel⟩
abbrev s_sum_of : Stmt := top 15
abbrev N_sum_of : List Str := ["check"]
theorem sc_sum_of : FnScope N_sum_of ["check"] (defScope s_sum_of) := ⟨rfl, rfl, rfl, by decide +kernel, rfl, by decide +kernel, by decide +kernel⟩
abbrev s_check_check : Stmt := top 16
abbrev N_check_check : List Str := ["check"]
theorem sc_check_check : FnScope N_check_check ["check"] (defScope s_check_check) := ⟨rfl, rfl, rfl, by decide +kernel, rfl, by decide +kernel, by decide +kernel⟩
abbrev s_check_rest : Stmt := top 17
abbrev N_check_rest : List Str := ["check", "value"]
theorem sc_check_rest : FnScope N_check_rest ["check", "value"] (defScope s_check_rest) := ⟨rfl, rfl, rfl, by decide +kernel, rfl, by decide +kernel, by decide +kernel⟩
abbrev s_rest_of : Stmt := top 18
abbrev N_rest_of : List Str := ["check", "bits", "found", "sign"]
theorem sc_rest_of : FnScope N_rest_of ["check", "bits"] (defScope s_rest_of) := ⟨rfl, rfl, rfl, by decide +kernel, rfl, by decide +kernel, by decide +kernel⟩
abbrev s_rest : Stmt := top 19
abbrev N_rest : List Str := ["check", "bits"]
theorem sc_rest : FnScope N_rest ["check", "bits"] (defScope s_rest) := ⟨rfl, rfl, rfl, by decide +kernel, rfl, by decide +kernel, by decide +kernel⟩
abbrev s_is_right : Stmt := top 20
abbrev N_is_right : List Str := ["check", "bits"]
theorem sc_is_right : FnScope N_is_right ["check", "bits"] (defScope s_is_right) := ⟨rfl, rfl, rfl, by decide +kernel, rfl, by decide +kernel, by decide +kernel⟩
abbrev s_ones_in : Stmt := top 21
abbrev N_ones_in : List Str := ["number", "place"]
theorem sc_ones_in : FnScope N_ones_in ["number"] (defScope s_ones_in) := ⟨rfl, rfl, rfl, by decide +kernel, rfl, by decide +kernel, by decide +kernel⟩
abbrev s_sum_product : Stmt := top 23
abbrev N_sum_product : List Str := ["one", "other", "found", "place"]
theorem sc_sum_product : FnScope N_sum_product ["one", "other"] (defScope s_sum_product) := ⟨rfl, rfl, rfl, by decide +kernel, rfl, by decide +kernel, by decide +kernel⟩
abbrev s_sum_divided : Stmt := top 24
abbrev N_sum_divided : List Str := ["one", "other", "found", "left", "place"]
theorem sc_sum_divided : FnScope N_sum_divided ["one", "other"] (defScope s_sum_divided) := ⟨rfl, rfl, rfl, by decide +kernel, rfl, by decide +kernel, by decide +kernel⟩
abbrev s_sum_common : Stmt := top 25
abbrev N_sum_common : List Str := ["one", "other"]
theorem sc_sum_common : FnScope N_sum_common ["one", "other"] (defScope s_sum_common) := ⟨rfl, rfl, rfl, by decide +kernel, rfl, by decide +kernel, by decide +kernel⟩
abbrev s_sum_inverse : Stmt := top 26
abbrev N_sum_inverse : List Str := ["one", "by", "left", "part", "right", "more", "many", "rest_here"]
theorem sc_sum_inverse : FnScope N_sum_inverse ["one", "by"] (defScope s_sum_inverse) := ⟨rfl, rfl, rfl, by decide +kernel, rfl, by decide +kernel, by decide +kernel⟩
abbrev s_check_two : Stmt := top 27
abbrev N_check_two : List Str := ["one", "other"]
theorem sc_check_two : FnScope N_check_two ["one", "other"] (defScope s_check_two) := ⟨rfl, rfl, rfl, by decide +kernel, rfl, by decide +kernel, by decide +kernel⟩
abbrev s_check_by : Stmt := top 28
abbrev N_check_by : List Str := ["number", "width"]
theorem sc_check_by : FnScope N_check_by ["number"] (defScope s_check_by) := ⟨rfl, rfl, rfl, by decide +kernel, rfl, by decide +kernel, by decide +kernel⟩
abbrev s_also_right : Stmt := top 29
abbrev N_also_right : List Str := ["one", "other"]
theorem sc_also_right : FnScope N_also_right ["one", "other"] (defScope s_also_right) := ⟨rfl, rfl, rfl, by decide +kernel, rfl, by decide +kernel, by decide +kernel⟩
abbrev s_parted_bits : Stmt := top 30
abbrev N_parted_bits : List Str := ["one", "other"]
theorem sc_parted_bits : FnScope N_parted_bits ["one", "other"] (defScope s_parted_bits) := ⟨rfl, rfl, rfl, by decide +kernel, rfl, by decide +kernel, by decide +kernel⟩
abbrev s_together : Stmt := top 31
abbrev N_together : List Str := ["one", "other", "found", "mine", "yours"]
theorem sc_together : FnScope N_together ["one", "other"] (defScope s_together) := ⟨rfl, rfl, rfl, by decide +kernel, rfl, by decide +kernel, by decide +kernel⟩
abbrev s_shared : Stmt := top 32
abbrev N_shared : List Str := ["one", "other", "found"]
theorem sc_shared : FnScope N_shared ["one", "other"] (defScope s_shared) := ⟨rfl, rfl, rfl, by decide +kernel, rfl, by decide +kernel, by decide +kernel⟩
abbrev s_bits_with : Stmt := top 33
abbrev N_bits_with : List Str := ["one", "other", "left", "right", "both", "by", "often", "mine", "yours", "apart", "beyond"]
theorem sc_bits_with : FnScope N_bits_with ["one", "other", "left", "right"] (defScope s_bits_with) := ⟨rfl, rfl, rfl, by decide +kernel, rfl, by decide +kernel, by decide +kernel⟩
abbrev s_law_hash : Stmt := top 35
abbrev N_law_hash : List Str := ["_law_seed", "_law_index", "_law_mixed"]
theorem sc_law_hash : FnScope N_law_hash ["_law_seed", "_law_index"] (defScope s_law_hash) := ⟨rfl, rfl, rfl, by decide +kernel, rfl, by decide +kernel, by decide +kernel⟩
abbrev s_law_random : Stmt := top 36
abbrev N_law_random : List Str := ["_law_generator_here", "_law_bound", "_law_drawn_here", "_law_turn"]
theorem sc_law_random : FnScope N_law_random ["_law_generator_here", "_law_bound"] (defScope s_law_random) := ⟨rfl, rfl, rfl, by decide +kernel, rfl, by decide +kernel, by decide +kernel⟩
abbrev s_law_cell : Stmt := top 37
abbrev N_law_cell : List Str := ["_law_script", "_law_index"]
theorem sc_law_cell : FnScope N_law_cell ["_law_script", "_law_index"] (defScope s_law_cell) := ⟨rfl, rfl, rfl, by decide +kernel, rfl, by decide +kernel, by decide +kernel⟩
abbrev s_law_generator : Stmt := top 38
abbrev N_law_generator : List Str := ["_law_script", "_law_index", "_law_seed"]
theorem sc_law_generator : FnScope N_law_generator ["_law_script", "_law_index"] (defScope s_law_generator) := ⟨rfl, rfl, rfl, by decide +kernel, rfl, by decide +kernel, by decide +kernel⟩
abbrev s_law_rest : Stmt := top 39
abbrev N_law_rest : List Str := ["_law_whole", "_law_number_here", "_law_left"]
theorem sc_law_rest : FnScope N_law_rest ["_law_whole", "_law_number_here"] (defScope s_law_rest) := ⟨rfl, rfl, rfl, by decide +kernel, rfl, by decide +kernel, by decide +kernel⟩
abbrev s_law_number : Stmt := top 40
abbrev N_law_number : List Str := ["_law_bits_here", "_law_found", "_law_sign"]
theorem sc_law_number : FnScope N_law_number ["_law_bits_here"] (defScope s_law_number) := ⟨rfl, rfl, rfl, by decide +kernel, rfl, by decide +kernel, by decide +kernel⟩
abbrev s_law_bits : Stmt := top 41
abbrev N_law_bits : List Str := ["_law_number_here", "_law_many", "_law_found", "_law_place"]
theorem sc_law_bits : FnScope N_law_bits ["_law_number_here", "_law_many"] (defScope s_law_bits) := ⟨rfl, rfl, rfl, by decide +kernel, rfl, by decide +kernel, by decide +kernel⟩
abbrev s_law_product : Stmt := top 42
abbrev N_law_product : List Str := ["_law_one", "_law_other", "_law_found", "_law_place"]
theorem sc_law_product : FnScope N_law_product ["_law_one", "_law_other"] (defScope s_law_product) := ⟨rfl, rfl, rfl, by decide +kernel, rfl, by decide +kernel, by decide +kernel⟩
abbrev s_law_drawn : Stmt := top 43
abbrev N_law_drawn : List Str := ["_law_generator_here", "_law_width"]
theorem sc_law_drawn : FnScope N_law_drawn ["_law_generator_here", "_law_width"] (defScope s_law_drawn) := ⟨rfl, rfl, rfl, by decide +kernel, rfl, by decide +kernel, by decide +kernel⟩
abbrev s_law_parts : Stmt := top 44
abbrev N_law_parts : List Str := ["_law_one", "_law_other", "_law_found", "_law_left", "_law_place"]
theorem sc_law_parts : FnScope N_law_parts ["_law_one", "_law_other"] (defScope s_law_parts) := ⟨rfl, rfl, rfl, by decide +kernel, rfl, by decide +kernel, by decide +kernel⟩
abbrev s_law_common : Stmt := top 45
abbrev N_law_common : List Str := ["_law_one", "_law_other"]
theorem sc_law_common : FnScope N_law_common ["_law_one", "_law_other"] (defScope s_law_common) := ⟨rfl, rfl, rfl, by decide +kernel, rfl, by decide +kernel, by decide +kernel⟩
abbrev s_law_check_of : Stmt := top 46
abbrev N_law_check_of : List Str := ["_law_number_here", "_law_width"]
theorem sc_law_check_of : FnScope N_law_check_of ["_law_number_here"] (defScope s_law_check_of) := ⟨rfl, rfl, rfl, by decide +kernel, rfl, by decide +kernel, by decide +kernel⟩
abbrev s_law_drawn_pair : Stmt := top 47
abbrev N_law_drawn_pair : List Str := ["_law_generator_here", "_law_most", "_law_both", "_law_found", "_law_turn", "_law_width", "_law_more", "_law_number_here"]
theorem sc_law_drawn_pair : FnScope N_law_drawn_pair ["_law_generator_here", "_law_most"] (defScope s_law_drawn_pair) := ⟨rfl, rfl, rfl, by decide +kernel, rfl, by decide +kernel, by decide +kernel⟩
abbrev s_law_all_right : Stmt := top 48
abbrev N_law_all_right : List Str := ["_law_generator_here", "_law_mine", "_law_yours", "_law_rows", "_law_here", "_law_there", "_law_alone", "_law_due", "_law_common_here", "_law_many", "_law_turn", "_law_one", "_law_other", "_law_both", "_law_some", "_law_fits", "_law_row", "_law_left", "_law_right"]
theorem sc_law_all_right : FnScope N_law_all_right ["_law_generator_here", "_law_mine", "_law_yours"] (defScope s_law_all_right) := ⟨rfl, rfl, rfl, by decide +kernel, rfl, by decide +kernel, by decide +kernel⟩
abbrev s_law_great_right : Stmt := top 49
abbrev N_law_great_right : List Str := ["_law_generator_here", "_law_mine", "_law_yours", "_law_whole", "_law_also", "_law_turn", "_law_one", "_law_other", "_law_common_here", "_law_both", "_law_some", "_law_told", "_law_row", "_law_near", "_law_left", "_law_right"]
theorem sc_law_great_right : FnScope N_law_great_right ["_law_generator_here", "_law_mine", "_law_yours"] (defScope s_law_great_right) := ⟨rfl, rfl, rfl, by decide +kernel, rfl, by decide +kernel, by decide +kernel⟩
abbrev s_law : Stmt := top 50
abbrev N_law : List Str := ["_law_script", "_law_index", "_law_generator_here", "_law_even", "_law_three", "_law_mine", "_law_yours"]
theorem sc_law : FnScope N_law ["_law_script"] (defScope s_law) := ⟨rfl, rfl, rfl, by decide +kernel, rfl, by decide +kernel, by decide +kernel⟩
abbrev s_Check___init__ : Stmt := inClass (top 14) 0
abbrev N_Check___init__ : List Str := ["self", "width", "low"]
theorem sc_Check___init__ : FnScope N_Check___init__ ["self", "width", "low"] (defScope s_Check___init__) := ⟨rfl, rfl, rfl, by decide +kernel, rfl, by decide +kernel, by decide +kernel⟩
abbrev s_Check___eq__ : Stmt := inClass (top 14) 1
abbrev N_Check___eq__ : List Str := ["self", "other"]
theorem sc_Check___eq__ : FnScope N_Check___eq__ ["self", "other"] (defScope s_Check___eq__) := ⟨rfl, rfl, rfl, by decide +kernel, rfl, by decide +kernel, by decide +kernel⟩
abbrev s_Check_bits : Stmt := inClass (top 14) 4
abbrev N_Check_bits : List Str := ["self"]
theorem sc_Check_bits : FnScope N_Check_bits ["self"] (defScope s_Check_bits) := ⟨rfl, rfl, rfl, by decide +kernel, rfl, by decide +kernel, by decide +kernel⟩
abbrev s_Check_width : Stmt := inClass (top 14) 2
theorem sc_Check_width : FnScope ["self"] ["self"] (defScope s_Check_width) := ⟨rfl, rfl, rfl, by decide +kernel, rfl, by decide +kernel, by decide +kernel⟩
abbrev s_Check_low : Stmt := inClass (top 14) 3
theorem sc_Check_low : FnScope ["self"] ["self"] (defScope s_Check_low) := ⟨rfl, rfl, rfl, by decide +kernel, rfl, by decide +kernel, by decide +kernel⟩
/-- what the top has left -/
structure Top (K : PySem.W.Frag) (mg : Str → Option Value) where
  C_Check : Addr
  gc_Check : mg "Check" = some (.ref C_Check)
  cl_Check : Cls K C_Check
  ic_Check : C8.InsC K C_Check
  f_Check___eq__ : Addr
  ec_Check : EqC K C_Check f_Check___eq__
  na_Check_size : NoAttr K C_Check "size"
  na_Check_tail : NoAttr K C_Check "tail"
  f_is_whole : Addr
  fd_is_whole : FuncData
  F_is_whole : FunD K "is_whole" "is_whole" (defArgs s_is_whole) (defBody s_is_whole) (defScope s_is_whole) [] [] f_is_whole fd_is_whole
  b_is_whole : Binds K fd_is_whole ["value"] []
  g_is_whole : mg "is_whole" = some (.ref f_is_whole)
  f_is_between : Addr
  fd_is_between : FuncData
  F_is_between : FunD K "is_between" "is_between" (defArgs s_is_between) (defBody s_is_between) (defScope s_is_between) [] [] f_is_between fd_is_between
  b_is_between : Binds K fd_is_between ["value", "low", "high"] []
  g_is_between : mg "is_between" = some (.ref f_is_between)
  f_is_bits : Addr
  fd_is_bits : FuncData
  F_is_bits : FunD K "is_bits" "is_bits" (defArgs s_is_bits) (defBody s_is_bits) (defScope s_is_bits) [] [] f_is_bits fd_is_bits
  b_is_bits : Binds K fd_is_bits ["value"] []
  g_is_bits : mg "is_bits" = some (.ref f_is_bits)
  f_bits_of : Addr
  fd_bits_of : FuncData
  F_bits_of : FunD K "bits_of" "bits_of" (defArgs s_bits_of) (defBody s_bits_of) (defScope s_bits_of) [] [] f_bits_of fd_bits_of
  b_bits_of : Binds K fd_bits_of ["number", "many"] []
  g_bits_of : mg "bits_of" = some (.ref f_bits_of)
  f_check_number : Addr
  fd_check_number : FuncData
  F_check_number : FunD K "check_number" "check_number" (defArgs s_check_number) (defBody s_check_number) (defScope s_check_number) [] [] f_check_number fd_check_number
  b_check_number : Binds K fd_check_number ["number", "low", "high"] []
  g_check_number : mg "check_number" = some (.ref f_check_number)
  f_check_bits : Addr
  fd_check_bits : FuncData
  F_check_bits : FunD K "check_bits" "check_bits" (defArgs s_check_bits) (defBody s_check_bits) (defScope s_check_bits) [] [] f_check_bits fd_check_bits
  b_check_bits : Binds K fd_check_bits ["bits"] []
  g_check_bits : mg "check_bits" = some (.ref f_check_bits)
  f_sum_of : Addr
  fd_sum_of : FuncData
  F_sum_of : FunD K "sum_of" "sum_of" (defArgs s_sum_of) (defBody s_sum_of) (defScope s_sum_of) [] [] f_sum_of fd_sum_of
  b_sum_of : Binds K fd_sum_of ["check"] []
  g_sum_of : mg "sum_of" = some (.ref f_sum_of)
  f_check_check : Addr
  fd_check_check : FuncData
  F_check_check : FunD K "check_check" "check_check" (defArgs s_check_check) (defBody s_check_check) (defScope s_check_check) [] [] f_check_check fd_check_check
  b_check_check : Binds K fd_check_check ["check"] []
  g_check_check : mg "check_check" = some (.ref f_check_check)
  f_check_rest : Addr
  fd_check_rest : FuncData
  F_check_rest : FunD K "check_rest" "check_rest" (defArgs s_check_rest) (defBody s_check_rest) (defScope s_check_rest) [] [] f_check_rest fd_check_rest
  b_check_rest : Binds K fd_check_rest ["check", "value"] []
  g_check_rest : mg "check_rest" = some (.ref f_check_rest)
  f_rest_of : Addr
  fd_rest_of : FuncData
  F_rest_of : FunD K "rest_of" "rest_of" (defArgs s_rest_of) (defBody s_rest_of) (defScope s_rest_of) [] [] f_rest_of fd_rest_of
  b_rest_of : Binds K fd_rest_of ["check", "bits"] []
  g_rest_of : mg "rest_of" = some (.ref f_rest_of)
  f_rest : Addr
  fd_rest : FuncData
  F_rest : FunD K "rest" "rest" (defArgs s_rest) (defBody s_rest) (defScope s_rest) [] [] f_rest fd_rest
  b_rest : Binds K fd_rest ["check", "bits"] []
  g_rest : mg "rest" = some (.ref f_rest)
  f_is_right : Addr
  fd_is_right : FuncData
  F_is_right : FunD K "is_right" "is_right" (defArgs s_is_right) (defBody s_is_right) (defScope s_is_right) [] [] f_is_right fd_is_right
  b_is_right : Binds K fd_is_right ["check", "bits"] []
  g_is_right : mg "is_right" = some (.ref f_is_right)
  f_ones_in : Addr
  fd_ones_in : FuncData
  F_ones_in : FunD K "ones_in" "ones_in" (defArgs s_ones_in) (defBody s_ones_in) (defScope s_ones_in) [] [] f_ones_in fd_ones_in
  b_ones_in : Binds K fd_ones_in ["number"] []
  g_ones_in : mg "ones_in" = some (.ref f_ones_in)
  f_sum_product : Addr
  fd_sum_product : FuncData
  F_sum_product : FunD K "sum_product" "sum_product" (defArgs s_sum_product) (defBody s_sum_product) (defScope s_sum_product) [] [] f_sum_product fd_sum_product
  b_sum_product : Binds K fd_sum_product ["one", "other"] []
  g_sum_product : mg "sum_product" = some (.ref f_sum_product)
  f_sum_divided : Addr
  fd_sum_divided : FuncData
  F_sum_divided : FunD K "sum_divided" "sum_divided" (defArgs s_sum_divided) (defBody s_sum_divided) (defScope s_sum_divided) [] [] f_sum_divided fd_sum_divided
  b_sum_divided : Binds K fd_sum_divided ["one", "other"] []
  g_sum_divided : mg "sum_divided" = some (.ref f_sum_divided)
  f_sum_common : Addr
  fd_sum_common : FuncData
  F_sum_common : FunD K "sum_common" "sum_common" (defArgs s_sum_common) (defBody s_sum_common) (defScope s_sum_common) [] [] f_sum_common fd_sum_common
  b_sum_common : Binds K fd_sum_common ["one", "other"] []
  g_sum_common : mg "sum_common" = some (.ref f_sum_common)
  f_sum_inverse : Addr
  fd_sum_inverse : FuncData
  F_sum_inverse : FunD K "sum_inverse" "sum_inverse" (defArgs s_sum_inverse) (defBody s_sum_inverse) (defScope s_sum_inverse) [] [] f_sum_inverse fd_sum_inverse
  b_sum_inverse : Binds K fd_sum_inverse ["one", "by"] []
  g_sum_inverse : mg "sum_inverse" = some (.ref f_sum_inverse)
  f_check_two : Addr
  fd_check_two : FuncData
  F_check_two : FunD K "check_two" "check_two" (defArgs s_check_two) (defBody s_check_two) (defScope s_check_two) [] [] f_check_two fd_check_two
  b_check_two : Binds K fd_check_two ["one", "other"] []
  g_check_two : mg "check_two" = some (.ref f_check_two)
  f_check_by : Addr
  fd_check_by : FuncData
  F_check_by : FunD K "check_by" "check_by" (defArgs s_check_by) (defBody s_check_by) (defScope s_check_by) [] [] f_check_by fd_check_by
  b_check_by : Binds K fd_check_by ["number"] []
  g_check_by : mg "check_by" = some (.ref f_check_by)
  f_also_right : Addr
  fd_also_right : FuncData
  F_also_right : FunD K "also_right" "also_right" (defArgs s_also_right) (defBody s_also_right) (defScope s_also_right) [] [] f_also_right fd_also_right
  b_also_right : Binds K fd_also_right ["one", "other"] []
  g_also_right : mg "also_right" = some (.ref f_also_right)
  f_parted_bits : Addr
  fd_parted_bits : FuncData
  F_parted_bits : FunD K "parted_bits" "parted_bits" (defArgs s_parted_bits) (defBody s_parted_bits) (defScope s_parted_bits) [] [] f_parted_bits fd_parted_bits
  b_parted_bits : Binds K fd_parted_bits ["one", "other"] []
  g_parted_bits : mg "parted_bits" = some (.ref f_parted_bits)
  f_together : Addr
  fd_together : FuncData
  F_together : FunD K "together" "together" (defArgs s_together) (defBody s_together) (defScope s_together) [] [] f_together fd_together
  b_together : Binds K fd_together ["one", "other"] []
  g_together : mg "together" = some (.ref f_together)
  f_shared : Addr
  fd_shared : FuncData
  F_shared : FunD K "shared" "shared" (defArgs s_shared) (defBody s_shared) (defScope s_shared) [] [] f_shared fd_shared
  b_shared : Binds K fd_shared ["one", "other"] []
  g_shared : mg "shared" = some (.ref f_shared)
  f_bits_with : Addr
  fd_bits_with : FuncData
  F_bits_with : FunD K "bits_with" "bits_with" (defArgs s_bits_with) (defBody s_bits_with) (defScope s_bits_with) [] [] f_bits_with fd_bits_with
  b_bits_with : Binds K fd_bits_with ["one", "other", "left", "right"] []
  g_bits_with : mg "bits_with" = some (.ref f_bits_with)
  f_law_hash : Addr
  fd_law_hash : FuncData
  F_law_hash : FunD K "_law_hash" "_law_hash" (defArgs s_law_hash) (defBody s_law_hash) (defScope s_law_hash) [] [] f_law_hash fd_law_hash
  b_law_hash : Binds K fd_law_hash ["_law_seed", "_law_index"] []
  g_law_hash : mg "_law_hash" = some (.ref f_law_hash)
  f_law_random : Addr
  fd_law_random : FuncData
  F_law_random : FunD K "_law_random" "_law_random" (defArgs s_law_random) (defBody s_law_random) (defScope s_law_random) [] [] f_law_random fd_law_random
  b_law_random : Binds K fd_law_random ["_law_generator_here", "_law_bound"] []
  g_law_random : mg "_law_random" = some (.ref f_law_random)
  f_law_cell : Addr
  fd_law_cell : FuncData
  F_law_cell : FunD K "_law_cell" "_law_cell" (defArgs s_law_cell) (defBody s_law_cell) (defScope s_law_cell) [] [] f_law_cell fd_law_cell
  b_law_cell : Binds K fd_law_cell ["_law_script", "_law_index"] []
  g_law_cell : mg "_law_cell" = some (.ref f_law_cell)
  f_law_generator : Addr
  fd_law_generator : FuncData
  F_law_generator : FunD K "_law_generator" "_law_generator" (defArgs s_law_generator) (defBody s_law_generator) (defScope s_law_generator) [] [] f_law_generator fd_law_generator
  b_law_generator : Binds K fd_law_generator ["_law_script", "_law_index"] []
  g_law_generator : mg "_law_generator" = some (.ref f_law_generator)
  f_law_rest : Addr
  fd_law_rest : FuncData
  F_law_rest : FunD K "_law_rest" "_law_rest" (defArgs s_law_rest) (defBody s_law_rest) (defScope s_law_rest) [] [] f_law_rest fd_law_rest
  b_law_rest : Binds K fd_law_rest ["_law_whole", "_law_number_here"] []
  g_law_rest : mg "_law_rest" = some (.ref f_law_rest)
  f_law_number : Addr
  fd_law_number : FuncData
  F_law_number : FunD K "_law_number" "_law_number" (defArgs s_law_number) (defBody s_law_number) (defScope s_law_number) [] [] f_law_number fd_law_number
  b_law_number : Binds K fd_law_number ["_law_bits_here"] []
  g_law_number : mg "_law_number" = some (.ref f_law_number)
  f_law_bits : Addr
  fd_law_bits : FuncData
  F_law_bits : FunD K "_law_bits" "_law_bits" (defArgs s_law_bits) (defBody s_law_bits) (defScope s_law_bits) [] [] f_law_bits fd_law_bits
  b_law_bits : Binds K fd_law_bits ["_law_number_here", "_law_many"] []
  g_law_bits : mg "_law_bits" = some (.ref f_law_bits)
  f_law_product : Addr
  fd_law_product : FuncData
  F_law_product : FunD K "_law_product" "_law_product" (defArgs s_law_product) (defBody s_law_product) (defScope s_law_product) [] [] f_law_product fd_law_product
  b_law_product : Binds K fd_law_product ["_law_one", "_law_other"] []
  g_law_product : mg "_law_product" = some (.ref f_law_product)
  f_law_drawn : Addr
  fd_law_drawn : FuncData
  F_law_drawn : FunD K "_law_drawn" "_law_drawn" (defArgs s_law_drawn) (defBody s_law_drawn) (defScope s_law_drawn) [] [] f_law_drawn fd_law_drawn
  b_law_drawn : Binds K fd_law_drawn ["_law_generator_here", "_law_width"] []
  g_law_drawn : mg "_law_drawn" = some (.ref f_law_drawn)
  f_law_parts : Addr
  fd_law_parts : FuncData
  F_law_parts : FunD K "_law_parts" "_law_parts" (defArgs s_law_parts) (defBody s_law_parts) (defScope s_law_parts) [] [] f_law_parts fd_law_parts
  b_law_parts : Binds K fd_law_parts ["_law_one", "_law_other"] []
  g_law_parts : mg "_law_parts" = some (.ref f_law_parts)
  f_law_common : Addr
  fd_law_common : FuncData
  F_law_common : FunD K "_law_common" "_law_common" (defArgs s_law_common) (defBody s_law_common) (defScope s_law_common) [] [] f_law_common fd_law_common
  b_law_common : Binds K fd_law_common ["_law_one", "_law_other"] []
  g_law_common : mg "_law_common" = some (.ref f_law_common)
  f_law_check_of : Addr
  fd_law_check_of : FuncData
  F_law_check_of : FunD K "_law_check_of" "_law_check_of" (defArgs s_law_check_of) (defBody s_law_check_of) (defScope s_law_check_of) [] [] f_law_check_of fd_law_check_of
  b_law_check_of : Binds K fd_law_check_of ["_law_number_here"] []
  g_law_check_of : mg "_law_check_of" = some (.ref f_law_check_of)
  f_law_drawn_pair : Addr
  fd_law_drawn_pair : FuncData
  F_law_drawn_pair : FunD K "_law_drawn_pair" "_law_drawn_pair" (defArgs s_law_drawn_pair) (defBody s_law_drawn_pair) (defScope s_law_drawn_pair) [] [] f_law_drawn_pair fd_law_drawn_pair
  b_law_drawn_pair : Binds K fd_law_drawn_pair ["_law_generator_here", "_law_most"] []
  g_law_drawn_pair : mg "_law_drawn_pair" = some (.ref f_law_drawn_pair)
  f_law_all_right : Addr
  fd_law_all_right : FuncData
  F_law_all_right : FunD K "_law_all_right" "_law_all_right" (defArgs s_law_all_right) (defBody s_law_all_right) (defScope s_law_all_right) [] [] f_law_all_right fd_law_all_right
  b_law_all_right : Binds K fd_law_all_right ["_law_generator_here", "_law_mine", "_law_yours"] []
  g_law_all_right : mg "_law_all_right" = some (.ref f_law_all_right)
  f_law_great_right : Addr
  fd_law_great_right : FuncData
  F_law_great_right : FunD K "_law_great_right" "_law_great_right" (defArgs s_law_great_right) (defBody s_law_great_right) (defScope s_law_great_right) [] [] f_law_great_right fd_law_great_right
  b_law_great_right : Binds K fd_law_great_right ["_law_generator_here", "_law_mine", "_law_yours"] []
  g_law_great_right : mg "_law_great_right" = some (.ref f_law_great_right)
  f_law : Addr
  fd_law : FuncData
  F_law : FunD K "law" "law" (defArgs s_law) (defBody s_law) (defScope s_law) [] [] f_law fd_law
  b_law : Binds K fd_law ["_law_script"] []
  g_law : mg "law" = some (.ref f_law)
  f_Check___init__ : Addr
  fd_Check___init__ : FuncData
  F_Check___init__ : FunD K "__init__" "Check.__init__" (defArgs s_Check___init__) (defBody s_Check___init__) (defScope s_Check___init__) [] [] f_Check___init__ fd_Check___init__
  b_Check___init__ : Binds K fd_Check___init__ ["self", "width", "low"] []
  me_Check___init__ : Meth K C_Check "__init__" f_Check___init__
  mk_Check : Mk K C_Check f_Check___init__
  fd_Check___eq__ : FuncData
  F_Check___eq__ : FunD K "__eq__" "Check.__eq__" (defArgs s_Check___eq__) (defBody s_Check___eq__) (defScope s_Check___eq__) [] [] f_Check___eq__ fd_Check___eq__
  b_Check___eq__ : Binds K fd_Check___eq__ ["self", "other"] []
  me_Check___eq__ : Meth K C_Check "__eq__" f_Check___eq__
  f_Check_bits : Addr
  fd_Check_bits : FuncData
  F_Check_bits : FunD K "bits" "Check.bits" (defArgs s_Check_bits) (defBody s_Check_bits) (defScope s_Check_bits) [] [] f_Check_bits fd_Check_bits
  b_Check_bits : Binds K fd_Check_bits ["self"] []
  me_Check_bits : Meth K C_Check "bits" f_Check_bits
  pp_Check_width : Addr
  pg_Check_width : Addr
  po_Check_width : PropOf K C_Check "width" pp_Check_width pg_Check_width
  fdp_Check_width : FuncData
  Fp_Check_width : FunD K "width" "Check.width" (defArgs s_Check_width) (defBody s_Check_width) (defScope s_Check_width) [] [] pg_Check_width fdp_Check_width
  bp_Check_width : Binds K fdp_Check_width ["self"] []
  pp_Check_low : Addr
  pg_Check_low : Addr
  po_Check_low : PropOf K C_Check "low" pp_Check_low pg_Check_low
  fdp_Check_low : FuncData
  Fp_Check_low : FunD K "low" "Check.low" (defArgs s_Check_low) (defBody s_Check_low) (defScope s_Check_low) [] [] pg_Check_low fdp_Check_low
  bp_Check_low : Binds K fdp_Check_low ["self"] []
  n_len : mg "len" = none
  n_sum : mg "sum" = none
  n_max : mg "max" = none
  n_int : mg "int" = none
  n_bool : mg "bool" = none
  n_list : mg "list" = none
  n_str : mg "str" = none
  n_range : mg "range" = none
  n_isinstance : mg "isinstance" = none
  n_repr : mg "repr" = none
  t_MOST_WIDTH : Tok
  m_MOST_WIDTH : mg "MOST_WIDTH" = some (.int 16 t_MOST_WIDTH)
def d_is_whole : He.DefD := ⟨("is_whole", none), "is_whole", "is_whole", defArgs s_is_whole, defBody s_is_whole, defScope s_is_whole, [], []⟩
def d_is_between : He.DefD := ⟨("is_between", none), "is_between", "is_between", defArgs s_is_between, defBody s_is_between, defScope s_is_between, [], []⟩
def d_is_bits : He.DefD := ⟨("is_bits", none), "is_bits", "is_bits", defArgs s_is_bits, defBody s_is_bits, defScope s_is_bits, [], []⟩
def d_bits_of : He.DefD := ⟨("bits_of", none), "bits_of", "bits_of", defArgs s_bits_of, defBody s_bits_of, defScope s_bits_of, [], []⟩
def d_check_number : He.DefD := ⟨("check_number", none), "check_number", "check_number", defArgs s_check_number, defBody s_check_number, defScope s_check_number, [], []⟩
def d_check_bits : He.DefD := ⟨("check_bits", none), "check_bits", "check_bits", defArgs s_check_bits, defBody s_check_bits, defScope s_check_bits, [], []⟩
def d_sum_of : He.DefD := ⟨("sum_of", none), "sum_of", "sum_of", defArgs s_sum_of, defBody s_sum_of, defScope s_sum_of, [], []⟩
def d_check_check : He.DefD := ⟨("check_check", none), "check_check", "check_check", defArgs s_check_check, defBody s_check_check, defScope s_check_check, [], []⟩
def d_check_rest : He.DefD := ⟨("check_rest", none), "check_rest", "check_rest", defArgs s_check_rest, defBody s_check_rest, defScope s_check_rest, [], []⟩
def d_rest_of : He.DefD := ⟨("rest_of", none), "rest_of", "rest_of", defArgs s_rest_of, defBody s_rest_of, defScope s_rest_of, [], []⟩
def d_rest : He.DefD := ⟨("rest", none), "rest", "rest", defArgs s_rest, defBody s_rest, defScope s_rest, [], []⟩
def d_is_right : He.DefD := ⟨("is_right", none), "is_right", "is_right", defArgs s_is_right, defBody s_is_right, defScope s_is_right, [], []⟩
def d_ones_in : He.DefD := ⟨("ones_in", none), "ones_in", "ones_in", defArgs s_ones_in, defBody s_ones_in, defScope s_ones_in, [], []⟩
def d_sum_product : He.DefD := ⟨("sum_product", none), "sum_product", "sum_product", defArgs s_sum_product, defBody s_sum_product, defScope s_sum_product, [], []⟩
def d_sum_divided : He.DefD := ⟨("sum_divided", none), "sum_divided", "sum_divided", defArgs s_sum_divided, defBody s_sum_divided, defScope s_sum_divided, [], []⟩
def d_sum_common : He.DefD := ⟨("sum_common", none), "sum_common", "sum_common", defArgs s_sum_common, defBody s_sum_common, defScope s_sum_common, [], []⟩
def d_sum_inverse : He.DefD := ⟨("sum_inverse", none), "sum_inverse", "sum_inverse", defArgs s_sum_inverse, defBody s_sum_inverse, defScope s_sum_inverse, [], []⟩
def d_check_two : He.DefD := ⟨("check_two", none), "check_two", "check_two", defArgs s_check_two, defBody s_check_two, defScope s_check_two, [], []⟩
def d_check_by : He.DefD := ⟨("check_by", none), "check_by", "check_by", defArgs s_check_by, defBody s_check_by, defScope s_check_by, [], []⟩
def d_also_right : He.DefD := ⟨("also_right", none), "also_right", "also_right", defArgs s_also_right, defBody s_also_right, defScope s_also_right, [], []⟩
def d_parted_bits : He.DefD := ⟨("parted_bits", none), "parted_bits", "parted_bits", defArgs s_parted_bits, defBody s_parted_bits, defScope s_parted_bits, [], []⟩
def d_together : He.DefD := ⟨("together", none), "together", "together", defArgs s_together, defBody s_together, defScope s_together, [], []⟩
def d_shared : He.DefD := ⟨("shared", none), "shared", "shared", defArgs s_shared, defBody s_shared, defScope s_shared, [], []⟩
def d_bits_with : He.DefD := ⟨("bits_with", none), "bits_with", "bits_with", defArgs s_bits_with, defBody s_bits_with, defScope s_bits_with, [], []⟩
def d_law_hash : He.DefD := ⟨("_law_hash", none), "_law_hash", "_law_hash", defArgs s_law_hash, defBody s_law_hash, defScope s_law_hash, [], []⟩
def d_law_random : He.DefD := ⟨("_law_random", none), "_law_random", "_law_random", defArgs s_law_random, defBody s_law_random, defScope s_law_random, [], []⟩
def d_law_cell : He.DefD := ⟨("_law_cell", none), "_law_cell", "_law_cell", defArgs s_law_cell, defBody s_law_cell, defScope s_law_cell, [], []⟩
def d_law_generator : He.DefD := ⟨("_law_generator", none), "_law_generator", "_law_generator", defArgs s_law_generator, defBody s_law_generator, defScope s_law_generator, [], []⟩
def d_law_rest : He.DefD := ⟨("_law_rest", none), "_law_rest", "_law_rest", defArgs s_law_rest, defBody s_law_rest, defScope s_law_rest, [], []⟩
def d_law_number : He.DefD := ⟨("_law_number", none), "_law_number", "_law_number", defArgs s_law_number, defBody s_law_number, defScope s_law_number, [], []⟩
def d_law_bits : He.DefD := ⟨("_law_bits", none), "_law_bits", "_law_bits", defArgs s_law_bits, defBody s_law_bits, defScope s_law_bits, [], []⟩
def d_law_product : He.DefD := ⟨("_law_product", none), "_law_product", "_law_product", defArgs s_law_product, defBody s_law_product, defScope s_law_product, [], []⟩
def d_law_drawn : He.DefD := ⟨("_law_drawn", none), "_law_drawn", "_law_drawn", defArgs s_law_drawn, defBody s_law_drawn, defScope s_law_drawn, [], []⟩
def d_law_parts : He.DefD := ⟨("_law_parts", none), "_law_parts", "_law_parts", defArgs s_law_parts, defBody s_law_parts, defScope s_law_parts, [], []⟩
def d_law_common : He.DefD := ⟨("_law_common", none), "_law_common", "_law_common", defArgs s_law_common, defBody s_law_common, defScope s_law_common, [], []⟩
def d_law_check_of : He.DefD := ⟨("_law_check_of", none), "_law_check_of", "_law_check_of", defArgs s_law_check_of, defBody s_law_check_of, defScope s_law_check_of, [], []⟩
def d_law_drawn_pair : He.DefD := ⟨("_law_drawn_pair", none), "_law_drawn_pair", "_law_drawn_pair", defArgs s_law_drawn_pair, defBody s_law_drawn_pair, defScope s_law_drawn_pair, [], []⟩
def d_law_all_right : He.DefD := ⟨("_law_all_right", none), "_law_all_right", "_law_all_right", defArgs s_law_all_right, defBody s_law_all_right, defScope s_law_all_right, [], []⟩
def d_law_great_right : He.DefD := ⟨("_law_great_right", none), "_law_great_right", "_law_great_right", defArgs s_law_great_right, defBody s_law_great_right, defScope s_law_great_right, [], []⟩
def d_law : He.DefD := ⟨("law", none), "law", "law", defArgs s_law, defBody s_law, defScope s_law, [], []⟩
def d_Check___init__ : He.DefD := ⟨("Check", some "__init__"), "__init__", "Check.__init__", defArgs s_Check___init__, defBody s_Check___init__, defScope s_Check___init__, [], []⟩
def d_Check___eq__ : He.DefD := ⟨("Check", some "__eq__"), "__eq__", "Check.__eq__", defArgs s_Check___eq__, defBody s_Check___eq__, defScope s_Check___eq__, [], []⟩
def d_Check_bits : He.DefD := ⟨("Check", some "bits"), "bits", "Check.bits", defArgs s_Check_bits, defBody s_Check_bits, defScope s_Check_bits, [], []⟩
def fn : List He.DefD := [d_is_whole, d_is_between, d_is_bits, d_bits_of, d_check_number, d_check_bits, d_sum_of, d_check_check, d_check_rest, d_rest_of, d_rest, d_is_right, d_ones_in, d_sum_product, d_sum_divided, d_sum_common, d_sum_inverse, d_check_two, d_check_by, d_also_right, d_parted_bits, d_together, d_shared, d_bits_with, d_law_hash, d_law_random, d_law_cell, d_law_generator, d_law_rest, d_law_number, d_law_bits, d_law_product, d_law_drawn, d_law_parts, d_law_common, d_law_check_of, d_law_drawn_pair, d_law_all_right, d_law_great_right, d_law, d_Check___init__, d_Check___eq__, d_Check_bits]
def fa0 : List He.Fa := [.glo "is_whole", .glo "is_between", .glo "is_bits", .glo "bits_of", .glo "check_number", .glo "check_bits", .glo "sum_of", .glo "check_check", .glo "check_rest", .glo "rest_of", .glo "rest", .glo "is_right", .glo "ones_in", .glo "sum_product", .glo "sum_divided", .glo "sum_common", .glo "sum_inverse", .glo "check_two", .glo "check_by", .glo "also_right", .glo "parted_bits", .glo "together", .glo "shared", .glo "bits_with", .glo "_law_hash", .glo "_law_random", .glo "_law_cell", .glo "_law_generator", .glo "_law_rest", .glo "_law_number"]
def fa1 : List He.Fa := [.glo "_law_bits", .glo "_law_product", .glo "_law_drawn", .glo "_law_parts", .glo "_law_common", .glo "_law_check_of", .glo "_law_drawn_pair", .glo "_law_all_right", .glo "_law_great_right", .glo "law", .free "len", .free "sum", .free "max", .free "int", .free "bool", .free "list", .free "str", .free "range", .free "isinstance", .free "repr", .int "MOST_WIDTH" 16, .glo "Check", .cls "Check", .noat "Check" "size", .noat "Check" "tail", .mkr "Check", .meth "Check" "__init__", .meth "Check" "__eq__", .meth "Check" "bits"]
def fa : List He.Fa := fa0 ++ fa1
/-- isinstance of an own class -/
def insB (K : PySem.W.Frag) (x : Str) : Bool := decide (PySem.W.findIn K (.ref (He.ga K x)) "__class__" = some (some (.builtin "object.__class__"))) && (decide (PySem.W.specialIn K (.builtin "object.__class__") "__get__" = some (some (.builtin "getset_descriptor.__get__"))) && (decide (PySem.W.takesIn K (.builtin "object.__class__") = some true) && (decide (PySem.W.mroIn K (He.ga K x) (.type "object") = some true) && decide (PySem.W.kitOne K (.ref (He.ga K x)) (.ref (He.ga K x)) = some true))))
theorem insB_ok {K : PySem.W.Frag} {x : Str} (cl : Cls K (He.ga K x)) (h : insB K x = true) : C8.InsC K (He.ga K x) := by
  unfold insB at h
  simp only [Bool.and_eq_true, decide_eq_true_eq] at h
  exact ⟨cl, h.1, h.2.1, h.2.2.1, h.2.2.2.1, h.2.2.2.2⟩
def eqB (K : PySem.W.Frag) (x : Str) : Bool := decide (PySem.W.findIn K (.ref (He.ga K x)) "__ne__" = some (some (.builtin "object.__ne__"))) && (decide (PySem.W.subIn K (.ref (He.ga K x)) (.type "object") = some true) && (decide (PySem.W.subIn K (.type "list") (.ref (He.ga K x)) = some false) && (decide (PySem.W.kitOne K (.type "list") (.ref (He.ga K x)) = some false) && (decide (PySem.W.subIn K (.type "tuple") (.ref (He.ga K x)) = some false) && decide (PySem.W.kitOne K (.type "tuple") (.ref (He.ga K x)) = some false)))))
theorem eqB_ok {K : PySem.W.Frag} {x : Str} {f : Addr} (m : Meth K (He.ga K x) "__eq__" f) (h : eqB K x = true) : EqC K (He.ga K x) f := by
  unfold eqB at h
  simp only [Bool.and_eq_true, decide_eq_true_eq] at h
  exact ⟨m.at_, m.fn, h.1, h.2.1, h.2.2.1, h.2.2.2.1, h.2.2.2.2.1, h.2.2.2.2.2⟩
def eqs : List Str := ["Check"]
def own : List Str := ["Check"]
def ex (K : PySem.W.Frag) : Bool := (own.all fun x => insB K x) && eqs.all fun x => eqB K x
abbrev R : PySem.W.OpenRow := PySem.W.OpenLaw.row PySem.Challenge.rw_wholesound_k67_whole_pairs_of_checks
/-- properties: the getter's place, what is asked of it -/
def pgA (K : PySem.W.Frag) (x f : Str) : Addr := match PySem.W.recIn K (He.ma K (He.ga K x) f) "property" with
  | some (.ref a :: _) => a
  | _ => 0
def prB (K : PySem.W.Frag) (x f q : Str) : Bool := decide (PySem.W.findIn K (.ref (He.ga K x)) f = some (some (.ref (He.ma K (He.ga K x) f)))) && (decide (PySem.W.specialIn K (.ref (He.ma K (He.ga K x) f)) "__get__" = some (some (.builtin "property.__get__"))) && (decide (PySem.W.takesIn K (.ref (He.ma K (He.ga K x) f)) = some true) && ((match PySem.W.recIn K (He.ma K (He.ga K x) f) "property" with
  | some (.ref _ :: _) => true
  | _ => false) && (PySem.W.keepIn K (.ref (pgA K x f)) && (match K.lookup (pgA K x f) with
  | some ⟨_, _, .func fd, _⟩ => PySem.W.codeIn K fd.code q && (He.dflB K fd.defaults [] && He.kwdB K fd.kwdefaults [])
  | _ => false)))))
def prW (K : PySem.W.Frag) (x f : Str) : He.FnW := match K.lookup (pgA K x f) with
  | some ⟨_, _, .func fd, _⟩ => some (fd.name, fd.qualname, fd.params, fd.body, fd.scope, fd.globals, fd.closure, fd.builtins)
  | _ => none
theorem prop_ok {K : PySem.W.Frag} {z : Str × Str × Str} (h : prB K z.1 z.2.1 z.2.2 = true) : PropOf K (He.ga K z.1) z.2.1 (He.ma K (He.ga K z.1) z.2.1) (pgA K z.1 z.2.1) := by
  obtain ⟨h1, h⟩ := He.ba h
  obtain ⟨h2, h⟩ := He.ba h
  obtain ⟨h3, h⟩ := He.ba h
  obtain ⟨h4, _⟩ := He.ba h
  refine ⟨of_decide_eq_true h1, of_decide_eq_true h2, of_decide_eq_true h3, ?_⟩
  unfold pgA
  cases e : PySem.W.recIn K (He.ma K (He.ga K z.1) z.2.1) "property" with
  | none => rw [e] at h4; cases h4
  | some l =>
    cases l with
    | nil => rw [e] at h4; cases h4
    | cons v r =>
      cases v with
      | ref a => exact ⟨r, rfl⟩
      | _ => rw [e] at h4; cases h4
theorem prop_fn {K : PySem.W.Frag} {z : Str × Str × Str} {name : Str} {params : Arguments} {body : List Stmt} {scope : Scope} (h : prB K z.1 z.2.1 z.2.2 = true) (e : prW K z.1 z.2.1 = some (name, z.2.2, params, .stmts body, scope, mainGlobals, [], builtinsNs)) : ∃ fd, FunD K name z.2.2 params body scope [] [] (pgA K z.1 z.2.1) fd := by
  obtain ⟨_, h⟩ := He.ba h
  obtain ⟨_, h⟩ := He.ba h
  obtain ⟨_, h⟩ := He.ba h
  obtain ⟨_, h⟩ := He.ba h
  obtain ⟨kp, c2⟩ := He.ba h
  unfold prW at e
  cases q : K.lookup (pgA K z.1 z.2.1) with
  | none => rw [q] at c2; cases c2
  | some o =>
    obtain ⟨oc, od, dt, osl⟩ := o
    rw [q] at c2 e
    cases dt with
    | func fd =>
      obtain ⟨n1, n2, n3, n4, n5, n6, n7, n8, n9, n10, n11, n12, n13, n14, n15⟩ := fd
      have e2 : (some (n1, n2, n3, n4, n5, n6, n7, n15) : He.FnW) = some (name, z.2.2, params, .stmts body, scope, mainGlobals, [], builtinsNs) := e
      simp only [Option.some.injEq, Prod.mk.injEq] at e2
      obtain ⟨h1, h2, h3, h4, h5, h6, h7, h8⟩ := e2
      subst h1 h2 h3 h4 h5 h6 h7 h8
      obtain ⟨k1, k2⟩ := He.ba (show (PySem.W.codeIn K n13 z.2.2 && (He.dflB K n8 [] && He.kwdB K n9 [])) = true from c2)
      obtain ⟨k3, k4⟩ := He.ba k2
      exact ⟨_, ⟨oc, od, n8, n9, n10, n11, n12, n13, n14, osl, rfl, q, k1, He.dflB_ok k3, He.kwdB_ok k4⟩, kp⟩
    | _ => cases c2
theorem prV_at {K : PySem.W.Frag} {ps : List (Str × Str × Str)} {vs : List He.FnW} (e : (ps.map fun z => prW K z.1 z.2.1) = vs) (i : Nat) {z : Str × Str × Str} {v : He.FnW} (hz : ps[i]? = some z) (hv : vs[i]? = some v) : prW K z.1 z.2.1 = v := by
  rw [← e, List.getElem?_map, hz] at hv
  exact Option.some.inj hv
def prs : List (Str × Str × Str) := [("Check", "width", "Check.width"), ("Check", "low", "Check.low")]
def prV : List He.FnW := [some ("width", "Check.width", defArgs s_Check_width, .stmts (defBody s_Check_width), defScope s_Check_width, mainGlobals, [], builtinsNs), some ("low", "Check.low", defArgs s_Check_low, .stmts (defBody s_Check_low), defScope s_Check_low, mainGlobals, [], builtinsNs)]
def exP (K : PySem.W.Frag) : Bool := ex K && prs.all fun z => prB K z.1 z.2.1 z.2.2
def exW (K : PySem.W.Frag) : List He.FnW := prs.map fun z => prW K z.1 z.2.1
abbrev Al : Type := He.AlD × Bool × List He.FnW
def obsG (g : Addr → Option Obj) : Al := (He.obsDG 5 fa fn g, exP (He.frG g (He.asD g 5)), exW (He.frG g (He.asD g 5)))
def Says (K : PySem.W.Frag) : Prop := He.SaysD fa fn K ∧ ex K = true ∧ (∀ z ∈ prs, prB K z.1 z.2.1 z.2.2 = true) ∧ exW K = prV
theorem says_of {K : PySem.W.Frag} (e : (He.obsD fa fn K, exP K, exW K) = ((He.valD fn, true, prV) : Al)) : Says K := by
  have e1 := congrArg Prod.fst e
  have e2 := congrArg (fun z : Al => z.2.1) e
  have e3 := congrArg (fun z : Al => z.2.2) e
  have e4 := Bool.and_eq_true_iff.mp e2
  exact ⟨e1, e4.1, List.all_eq_true.mp e4.2, e3⟩
def hk : PySem.W.Hook where
  α := Al
  obs := fun s => obsG s.heap.get?
  val := fun _ => (He.valD fn, true, prV)
  says := fun _ h => ∃ K : PySem.W.Frag, K.In h ∧ Says K
  of := fun _ _ e => ⟨_, He.frG_in, says_of e⟩
  keeps := fun _ _ _ ⟨K, hK, c⟩ k => ⟨K, PySem.W.Frag.In.keeps hK k, c⟩
def ob (s : PySem.W.SharedT) : Al := obsG (HandSHeadRun.getT s)
theorem ob_eq (s : PySem.W.SharedT) : ob s = hk.obs s.abs := by
  have e : HandSHeadRun.getT s = s.abs.heap.get? := funext (HandSHeadRun.getT_eq s)
  show obsG (HandSHeadRun.getT s) = obsG s.abs.heap.get?
  rw [e]
def loose0 : List PySem.Str := ["SoundError", "InvalidNumber", "InvalidCheck", "InvalidBits", "is_whole", "is_between", "is_bits", "bits_of", "check_number", "check_bits", "MOST_WIDTH", "Check", "sum_of", "check_check", "check_rest", "rest_of", "rest", "is_right", "ones_in", "sum_product", "sum_divided", "sum_common", "sum_inverse", "check_two", "check_by", "also_right", "parted_bits", "together", "shared", "bits_with"]
def loose1 : List PySem.Str := ["_law_hash", "_law_random", "_law_cell", "_law_generator", "_law_rest", "_law_number", "_law_bits", "_law_product", "_law_drawn", "_law_parts", "_law_common", "_law_check_of", "_law_drawn_pair", "_law_all_right", "_law_great_right"]
abbrev loose : List PySem.Str := loose0 ++ loose1
theorem run (w : World) : HandSHeadRun.RunEq R (PySem.W.view R.prog [50]) hk ob 8000 loose w := by
  intro os
  kernel_rfl
noncomputable def top_mk {K : PySem.W.Frag} {h : Heap} {mg : Str → Option Value} (X : K.In h) (G : h.Ns mainGlobals mg) (c : Says K) : Top K mg :=
  let p0 := c.1.def_ 0 (d := d_is_whole) rfl
  let p1 := c.1.def_ 1 (d := d_is_between) rfl
  let p2 := c.1.def_ 2 (d := d_is_bits) rfl
  let p3 := c.1.def_ 3 (d := d_bits_of) rfl
  let p4 := c.1.def_ 4 (d := d_check_number) rfl
  let p5 := c.1.def_ 5 (d := d_check_bits) rfl
  let p6 := c.1.def_ 6 (d := d_sum_of) rfl
  let p7 := c.1.def_ 7 (d := d_check_check) rfl
  let p8 := c.1.def_ 8 (d := d_check_rest) rfl
  let p9 := c.1.def_ 9 (d := d_rest_of) rfl
  let p10 := c.1.def_ 10 (d := d_rest) rfl
  let p11 := c.1.def_ 11 (d := d_is_right) rfl
  let p12 := c.1.def_ 12 (d := d_ones_in) rfl
  let p13 := c.1.def_ 13 (d := d_sum_product) rfl
  let p14 := c.1.def_ 14 (d := d_sum_divided) rfl
  let p15 := c.1.def_ 15 (d := d_sum_common) rfl
  let p16 := c.1.def_ 16 (d := d_sum_inverse) rfl
  let p17 := c.1.def_ 17 (d := d_check_two) rfl
  let p18 := c.1.def_ 18 (d := d_check_by) rfl
  let p19 := c.1.def_ 19 (d := d_also_right) rfl
  let p20 := c.1.def_ 20 (d := d_parted_bits) rfl
  let p21 := c.1.def_ 21 (d := d_together) rfl
  let p22 := c.1.def_ 22 (d := d_shared) rfl
  let p23 := c.1.def_ 23 (d := d_bits_with) rfl
  let p24 := c.1.def_ 24 (d := d_law_hash) rfl
  let p25 := c.1.def_ 25 (d := d_law_random) rfl
  let p26 := c.1.def_ 26 (d := d_law_cell) rfl
  let p27 := c.1.def_ 27 (d := d_law_generator) rfl
  let p28 := c.1.def_ 28 (d := d_law_rest) rfl
  let p29 := c.1.def_ 29 (d := d_law_number) rfl
  let p30 := c.1.def_ 30 (d := d_law_bits) rfl
  let p31 := c.1.def_ 31 (d := d_law_product) rfl
  let p32 := c.1.def_ 32 (d := d_law_drawn) rfl
  let p33 := c.1.def_ 33 (d := d_law_parts) rfl
  let p34 := c.1.def_ 34 (d := d_law_common) rfl
  let p35 := c.1.def_ 35 (d := d_law_check_of) rfl
  let p36 := c.1.def_ 36 (d := d_law_drawn_pair) rfl
  let p37 := c.1.def_ 37 (d := d_law_all_right) rfl
  let p38 := c.1.def_ 38 (d := d_law_great_right) rfl
  let p39 := c.1.def_ 39 (d := d_law) rfl
  let p40 := c.1.def_ 40 (d := d_Check___init__) rfl
  let p41 := c.1.def_ 41 (d := d_Check___eq__) rfl
  let p42 := c.1.def_ 42 (d := d_Check_bits) rfl
  let q0 := He.int_ok X G (c.1.fact 50 (f := .int "MOST_WIDTH" 16) rfl)
  let r0 := prop_fn (c.2.2.1 ("Check", "width", "Check.width") (by decide +kernel)) (prV_at c.2.2.2 0 (z := ("Check", "width", "Check.width")) rfl rfl)
  let r1 := prop_fn (c.2.2.1 ("Check", "low", "Check.low") (by decide +kernel)) (prV_at c.2.2.2 1 (z := ("Check", "low", "Check.low")) rfl rfl)
  { C_Check := _, gc_Check := He.glo_ok X G (c.1.fact 51 (f := .glo "Check") rfl), cl_Check := He.cls_ok (c.1.fact 52 (f := .cls "Check") rfl), ic_Check := insB_ok (x := "Check") (He.cls_ok (c.1.fact 52 (f := .cls "Check") rfl)) (List.all_eq_true.mp (Bool.and_eq_true_iff.mp c.2.1).1 "Check" (by decide +kernel)),
    ec_Check := eqB_ok (x := "Check") (He.meth_ok (c.1.fact 57 (f := .meth "Check" "__eq__") rfl)) (List.all_eq_true.mp (Bool.and_eq_true_iff.mp c.2.1).2 "Check" (by decide +kernel)),
    na_Check_size := He.noat_ok (c.1.fact 53 (f := .noat "Check" "size") rfl),
    na_Check_tail := He.noat_ok (c.1.fact 54 (f := .noat "Check" "tail") rfl),
    f_is_whole := _, fd_is_whole := p0.choose, F_is_whole := p0.choose_spec, b_is_whole := p0.choose_spec.bindsN fun _ _ _ _ _ _ us hl => match us, hl with | [_], _ => rfl, g_is_whole := He.glo_ok X G (c.1.fact 0 (f := .glo "is_whole") rfl),
    f_is_between := _, fd_is_between := p1.choose, F_is_between := p1.choose_spec, b_is_between := p1.choose_spec.bindsN fun _ _ _ _ _ _ us hl => match us, hl with | [_, _, _], _ => rfl, g_is_between := He.glo_ok X G (c.1.fact 1 (f := .glo "is_between") rfl),
    f_is_bits := _, fd_is_bits := p2.choose, F_is_bits := p2.choose_spec, b_is_bits := p2.choose_spec.bindsN fun _ _ _ _ _ _ us hl => match us, hl with | [_], _ => rfl, g_is_bits := He.glo_ok X G (c.1.fact 2 (f := .glo "is_bits") rfl),
    f_bits_of := _, fd_bits_of := p3.choose, F_bits_of := p3.choose_spec, b_bits_of := p3.choose_spec.bindsN fun _ _ _ _ _ _ us hl => match us, hl with | [_, _], _ => rfl, g_bits_of := He.glo_ok X G (c.1.fact 3 (f := .glo "bits_of") rfl),
    f_check_number := _, fd_check_number := p4.choose, F_check_number := p4.choose_spec, b_check_number := p4.choose_spec.bindsN fun _ _ _ _ _ _ us hl => match us, hl with | [_, _, _], _ => rfl, g_check_number := He.glo_ok X G (c.1.fact 4 (f := .glo "check_number") rfl),
    f_check_bits := _, fd_check_bits := p5.choose, F_check_bits := p5.choose_spec, b_check_bits := p5.choose_spec.bindsN fun _ _ _ _ _ _ us hl => match us, hl with | [_], _ => rfl, g_check_bits := He.glo_ok X G (c.1.fact 5 (f := .glo "check_bits") rfl),
    f_sum_of := _, fd_sum_of := p6.choose, F_sum_of := p6.choose_spec, b_sum_of := p6.choose_spec.bindsN fun _ _ _ _ _ _ us hl => match us, hl with | [_], _ => rfl, g_sum_of := He.glo_ok X G (c.1.fact 6 (f := .glo "sum_of") rfl),
    f_check_check := _, fd_check_check := p7.choose, F_check_check := p7.choose_spec, b_check_check := p7.choose_spec.bindsN fun _ _ _ _ _ _ us hl => match us, hl with | [_], _ => rfl, g_check_check := He.glo_ok X G (c.1.fact 7 (f := .glo "check_check") rfl),
    f_check_rest := _, fd_check_rest := p8.choose, F_check_rest := p8.choose_spec, b_check_rest := p8.choose_spec.bindsN fun _ _ _ _ _ _ us hl => match us, hl with | [_, _], _ => rfl, g_check_rest := He.glo_ok X G (c.1.fact 8 (f := .glo "check_rest") rfl),
    f_rest_of := _, fd_rest_of := p9.choose, F_rest_of := p9.choose_spec, b_rest_of := p9.choose_spec.bindsN fun _ _ _ _ _ _ us hl => match us, hl with | [_, _], _ => rfl, g_rest_of := He.glo_ok X G (c.1.fact 9 (f := .glo "rest_of") rfl),
    f_rest := _, fd_rest := p10.choose, F_rest := p10.choose_spec, b_rest := p10.choose_spec.bindsN fun _ _ _ _ _ _ us hl => match us, hl with | [_, _], _ => rfl, g_rest := He.glo_ok X G (c.1.fact 10 (f := .glo "rest") rfl),
    f_is_right := _, fd_is_right := p11.choose, F_is_right := p11.choose_spec, b_is_right := p11.choose_spec.bindsN fun _ _ _ _ _ _ us hl => match us, hl with | [_, _], _ => rfl, g_is_right := He.glo_ok X G (c.1.fact 11 (f := .glo "is_right") rfl),
    f_ones_in := _, fd_ones_in := p12.choose, F_ones_in := p12.choose_spec, b_ones_in := p12.choose_spec.bindsN fun _ _ _ _ _ _ us hl => match us, hl with | [_], _ => rfl, g_ones_in := He.glo_ok X G (c.1.fact 12 (f := .glo "ones_in") rfl),
    f_sum_product := _, fd_sum_product := p13.choose, F_sum_product := p13.choose_spec, b_sum_product := p13.choose_spec.bindsN fun _ _ _ _ _ _ us hl => match us, hl with | [_, _], _ => rfl, g_sum_product := He.glo_ok X G (c.1.fact 13 (f := .glo "sum_product") rfl),
    f_sum_divided := _, fd_sum_divided := p14.choose, F_sum_divided := p14.choose_spec, b_sum_divided := p14.choose_spec.bindsN fun _ _ _ _ _ _ us hl => match us, hl with | [_, _], _ => rfl, g_sum_divided := He.glo_ok X G (c.1.fact 14 (f := .glo "sum_divided") rfl),
    f_sum_common := _, fd_sum_common := p15.choose, F_sum_common := p15.choose_spec, b_sum_common := p15.choose_spec.bindsN fun _ _ _ _ _ _ us hl => match us, hl with | [_, _], _ => rfl, g_sum_common := He.glo_ok X G (c.1.fact 15 (f := .glo "sum_common") rfl),
    f_sum_inverse := _, fd_sum_inverse := p16.choose, F_sum_inverse := p16.choose_spec, b_sum_inverse := p16.choose_spec.bindsN fun _ _ _ _ _ _ us hl => match us, hl with | [_, _], _ => rfl, g_sum_inverse := He.glo_ok X G (c.1.fact 16 (f := .glo "sum_inverse") rfl),
    f_check_two := _, fd_check_two := p17.choose, F_check_two := p17.choose_spec, b_check_two := p17.choose_spec.bindsN fun _ _ _ _ _ _ us hl => match us, hl with | [_, _], _ => rfl, g_check_two := He.glo_ok X G (c.1.fact 17 (f := .glo "check_two") rfl),
    f_check_by := _, fd_check_by := p18.choose, F_check_by := p18.choose_spec, b_check_by := p18.choose_spec.bindsN fun _ _ _ _ _ _ us hl => match us, hl with | [_], _ => rfl, g_check_by := He.glo_ok X G (c.1.fact 18 (f := .glo "check_by") rfl),
    f_also_right := _, fd_also_right := p19.choose, F_also_right := p19.choose_spec, b_also_right := p19.choose_spec.bindsN fun _ _ _ _ _ _ us hl => match us, hl with | [_, _], _ => rfl, g_also_right := He.glo_ok X G (c.1.fact 19 (f := .glo "also_right") rfl),
    f_parted_bits := _, fd_parted_bits := p20.choose, F_parted_bits := p20.choose_spec, b_parted_bits := p20.choose_spec.bindsN fun _ _ _ _ _ _ us hl => match us, hl with | [_, _], _ => rfl, g_parted_bits := He.glo_ok X G (c.1.fact 20 (f := .glo "parted_bits") rfl),
    f_together := _, fd_together := p21.choose, F_together := p21.choose_spec, b_together := p21.choose_spec.bindsN fun _ _ _ _ _ _ us hl => match us, hl with | [_, _], _ => rfl, g_together := He.glo_ok X G (c.1.fact 21 (f := .glo "together") rfl),
    f_shared := _, fd_shared := p22.choose, F_shared := p22.choose_spec, b_shared := p22.choose_spec.bindsN fun _ _ _ _ _ _ us hl => match us, hl with | [_, _], _ => rfl, g_shared := He.glo_ok X G (c.1.fact 22 (f := .glo "shared") rfl),
    f_bits_with := _, fd_bits_with := p23.choose, F_bits_with := p23.choose_spec, b_bits_with := p23.choose_spec.bindsN fun _ _ _ _ _ _ us hl => match us, hl with | [_, _, _, _], _ => rfl, g_bits_with := He.glo_ok X G (c.1.fact 23 (f := .glo "bits_with") rfl),
    f_law_hash := _, fd_law_hash := p24.choose, F_law_hash := p24.choose_spec, b_law_hash := p24.choose_spec.bindsN fun _ _ _ _ _ _ us hl => match us, hl with | [_, _], _ => rfl, g_law_hash := He.glo_ok X G (c.1.fact 24 (f := .glo "_law_hash") rfl),
    f_law_random := _, fd_law_random := p25.choose, F_law_random := p25.choose_spec, b_law_random := p25.choose_spec.bindsN fun _ _ _ _ _ _ us hl => match us, hl with | [_, _], _ => rfl, g_law_random := He.glo_ok X G (c.1.fact 25 (f := .glo "_law_random") rfl),
    f_law_cell := _, fd_law_cell := p26.choose, F_law_cell := p26.choose_spec, b_law_cell := p26.choose_spec.bindsN fun _ _ _ _ _ _ us hl => match us, hl with | [_, _], _ => rfl, g_law_cell := He.glo_ok X G (c.1.fact 26 (f := .glo "_law_cell") rfl),
    f_law_generator := _, fd_law_generator := p27.choose, F_law_generator := p27.choose_spec, b_law_generator := p27.choose_spec.bindsN fun _ _ _ _ _ _ us hl => match us, hl with | [_, _], _ => rfl, g_law_generator := He.glo_ok X G (c.1.fact 27 (f := .glo "_law_generator") rfl),
    f_law_rest := _, fd_law_rest := p28.choose, F_law_rest := p28.choose_spec, b_law_rest := p28.choose_spec.bindsN fun _ _ _ _ _ _ us hl => match us, hl with | [_, _], _ => rfl, g_law_rest := He.glo_ok X G (c.1.fact 28 (f := .glo "_law_rest") rfl),
    f_law_number := _, fd_law_number := p29.choose, F_law_number := p29.choose_spec, b_law_number := p29.choose_spec.bindsN fun _ _ _ _ _ _ us hl => match us, hl with | [_], _ => rfl, g_law_number := He.glo_ok X G (c.1.fact 29 (f := .glo "_law_number") rfl),
    f_law_bits := _, fd_law_bits := p30.choose, F_law_bits := p30.choose_spec, b_law_bits := p30.choose_spec.bindsN fun _ _ _ _ _ _ us hl => match us, hl with | [_, _], _ => rfl, g_law_bits := He.glo_ok X G (c.1.fact 30 (f := .glo "_law_bits") rfl),
    f_law_product := _, fd_law_product := p31.choose, F_law_product := p31.choose_spec, b_law_product := p31.choose_spec.bindsN fun _ _ _ _ _ _ us hl => match us, hl with | [_, _], _ => rfl, g_law_product := He.glo_ok X G (c.1.fact 31 (f := .glo "_law_product") rfl),
    f_law_drawn := _, fd_law_drawn := p32.choose, F_law_drawn := p32.choose_spec, b_law_drawn := p32.choose_spec.bindsN fun _ _ _ _ _ _ us hl => match us, hl with | [_, _], _ => rfl, g_law_drawn := He.glo_ok X G (c.1.fact 32 (f := .glo "_law_drawn") rfl),
    f_law_parts := _, fd_law_parts := p33.choose, F_law_parts := p33.choose_spec, b_law_parts := p33.choose_spec.bindsN fun _ _ _ _ _ _ us hl => match us, hl with | [_, _], _ => rfl, g_law_parts := He.glo_ok X G (c.1.fact 33 (f := .glo "_law_parts") rfl),
    f_law_common := _, fd_law_common := p34.choose, F_law_common := p34.choose_spec, b_law_common := p34.choose_spec.bindsN fun _ _ _ _ _ _ us hl => match us, hl with | [_, _], _ => rfl, g_law_common := He.glo_ok X G (c.1.fact 34 (f := .glo "_law_common") rfl),
    f_law_check_of := _, fd_law_check_of := p35.choose, F_law_check_of := p35.choose_spec, b_law_check_of := p35.choose_spec.bindsN fun _ _ _ _ _ _ us hl => match us, hl with | [_], _ => rfl, g_law_check_of := He.glo_ok X G (c.1.fact 35 (f := .glo "_law_check_of") rfl),
    f_law_drawn_pair := _, fd_law_drawn_pair := p36.choose, F_law_drawn_pair := p36.choose_spec, b_law_drawn_pair := p36.choose_spec.bindsN fun _ _ _ _ _ _ us hl => match us, hl with | [_, _], _ => rfl, g_law_drawn_pair := He.glo_ok X G (c.1.fact 36 (f := .glo "_law_drawn_pair") rfl),
    f_law_all_right := _, fd_law_all_right := p37.choose, F_law_all_right := p37.choose_spec, b_law_all_right := p37.choose_spec.bindsN fun _ _ _ _ _ _ us hl => match us, hl with | [_, _, _], _ => rfl, g_law_all_right := He.glo_ok X G (c.1.fact 37 (f := .glo "_law_all_right") rfl),
    f_law_great_right := _, fd_law_great_right := p38.choose, F_law_great_right := p38.choose_spec, b_law_great_right := p38.choose_spec.bindsN fun _ _ _ _ _ _ us hl => match us, hl with | [_, _, _], _ => rfl, g_law_great_right := He.glo_ok X G (c.1.fact 38 (f := .glo "_law_great_right") rfl),
    f_law := _, fd_law := p39.choose, F_law := p39.choose_spec, b_law := p39.choose_spec.bindsN fun _ _ _ _ _ _ us hl => match us, hl with | [_], _ => rfl, g_law := He.glo_ok X G (c.1.fact 39 (f := .glo "law") rfl),
    f_Check___init__ := _, fd_Check___init__ := p40.choose, F_Check___init__ := p40.choose_spec, b_Check___init__ := p40.choose_spec.bindsN fun _ _ _ _ _ _ us hl => match us, hl with | [_, _, _], _ => rfl, me_Check___init__ := He.meth_ok (c.1.fact 56 (f := .meth "Check" "__init__") rfl), mk_Check := He.mkr_ok (c.1.fact 55 (f := .mkr "Check") rfl),
    f_Check___eq__ := _, fd_Check___eq__ := p41.choose, F_Check___eq__ := p41.choose_spec, b_Check___eq__ := p41.choose_spec.bindsN fun _ _ _ _ _ _ us hl => match us, hl with | [_, _], _ => rfl, me_Check___eq__ := He.meth_ok (c.1.fact 57 (f := .meth "Check" "__eq__") rfl),
    f_Check_bits := _, fd_Check_bits := p42.choose, F_Check_bits := p42.choose_spec, b_Check_bits := p42.choose_spec.bindsN fun _ _ _ _ _ _ us hl => match us, hl with | [_], _ => rfl, me_Check_bits := He.meth_ok (c.1.fact 58 (f := .meth "Check" "bits") rfl),
    pp_Check_width := _, pg_Check_width := _, po_Check_width := prop_ok (c.2.2.1 ("Check", "width", "Check.width") (by decide +kernel)), fdp_Check_width := r0.choose, Fp_Check_width := r0.choose_spec, bp_Check_width := r0.choose_spec.bindsN fun _ _ _ _ _ _ us hl => match us, hl with | [_], _ => rfl,
    pp_Check_low := _, pg_Check_low := _, po_Check_low := prop_ok (c.2.2.1 ("Check", "low", "Check.low") (by decide +kernel)), fdp_Check_low := r1.choose, Fp_Check_low := r1.choose_spec, bp_Check_low := r1.choose_spec.bindsN fun _ _ _ _ _ _ us hl => match us, hl with | [_], _ => rfl,
    n_len := He.free_ok X G (c.1.fact 40 (f := .free "len") rfl),
    n_sum := He.free_ok X G (c.1.fact 41 (f := .free "sum") rfl),
    n_max := He.free_ok X G (c.1.fact 42 (f := .free "max") rfl),
    n_int := He.free_ok X G (c.1.fact 43 (f := .free "int") rfl),
    n_bool := He.free_ok X G (c.1.fact 44 (f := .free "bool") rfl),
    n_list := He.free_ok X G (c.1.fact 45 (f := .free "list") rfl),
    n_str := He.free_ok X G (c.1.fact 46 (f := .free "str") rfl),
    n_range := He.free_ok X G (c.1.fact 47 (f := .free "range") rfl),
    n_isinstance := He.free_ok X G (c.1.fact 48 (f := .free "isinstance") rfl),
    n_repr := He.free_ok X G (c.1.fact 49 (f := .free "repr") rfl),
    t_MOST_WIDTH := q0.choose, m_MOST_WIDTH := q0.choose_spec }
theorem G_Check_width {P : Program} {w : World} {K : PySem.W.Frag} {mg : Str → Option Value} {base : Heap} (T : Top K mg) : FnOk P w K mg base CX0 1 T.pg_Check_width T.fdp_Check_width ["self"] (getSp T.C_Check "size") := by
  obtain ⟨oc, od, dV, kV, doc, pm, an, cdv, ct, osl, e, lk, hcd, _, _⟩ := T.Fp_Check_width.ex
  rw [e] at lk ⊢
  exact fn_getter lk hcd sc_Check_width rfl rfl T.cl_Check T.na_Check_size
theorem G_Check_low {P : Program} {w : World} {K : PySem.W.Frag} {mg : Str → Option Value} {base : Heap} (T : Top K mg) : FnOk P w K mg base CX0 1 T.pg_Check_low T.fdp_Check_low ["self"] (getSp T.C_Check "tail") := by
  obtain ⟨oc, od, dV, kV, doc, pm, an, cdv, ct, osl, e, lk, hcd, _, _⟩ := T.Fp_Check_low.ex
  rw [e] at lk ⊢
  exact fn_getter lk hcd sc_Check_low rfl rfl T.cl_Check T.na_Check_tail
end My

namespace My
open PySem PySem.Spec PyProof.Rows L2 Pre
section
variable {P : Program} {w : World} {K : PySem.W.Frag} {mg : Str → Option Value} {base : Heap}
/-! ### is_whole, is_between, of whole numbers -/
def sp_is_whole : Sp := fun vs H Q _ => ∃ i : Int, vs = [.int i] ∧ Q (.bl true) H
theorem G_is_whole (T : Top K mg) : FnOk P w K mg base CX0 1 T.f_is_whole T.fd_is_whole ["value"] sp_is_whole := by
  refine T.F_is_whole.ok sc_is_whole (fun vs H Q E h => by obtain ⟨i, rfl, _⟩ := h; rfl) (fun cdv A outer s H vs Q E hr h => ?_)
  obtain ⟨i, rfl, q⟩ := h
  refine ⟨_, PSs.nox (pss_one (ps_ret (pe_and (pe_callB (k_isi K rfl) (by rfl) T.n_isinstance (by decide +kernel) (pa_cons (pv 0) (pa_cons (pe_bltn (v := .ty "int") (by rfl) T.n_int (by decide +kernel) rfl) pa_nil))) (pe_one (pe_not (pe_callB (k_isi K rfl) (by rfl) T.n_isinstance (by decide +kernel) (pa_cons (pv 0) (pa_cons (pe_bltn (v := .ty "bool") (by rfl) T.n_bool (by decide +kernel) rfl) pa_nil)))))))), ?_⟩
  refine ⟨_, rfl, _, _, _, _, true, rfl, .ty _, .base (.int i), kit_ty (by decide +kernel), true, rfl, iteT ?_⟩
  exact ⟨_, rfl, _, _, _, _, false, rfl, .ty _, .base (.int i), kit_ty (by decide +kernel), false, rfl, q⟩
/-- value a whole number, low one, high None or one -/
def sp_is_between : Sp := fun vs H Q _ => ∃ (i lo : Int) (hi : Option Int), vs = [.int i, .int lo, (match hi with | some j => .int j | none => .non)] ∧ Q (.bl (decide (lo ≤ i ∧ ∀ j, hi = some j → i ≤ j))) H
theorem G_is_between (T : Top K mg) : FnOk P w K mg base CX0 2 T.f_is_between T.fd_is_between ["value", "low", "high"] sp_is_between := by
  refine T.F_is_between.ok sc_is_between (fun vs H Q E h => by obtain ⟨i, lo, hi, rfl, _⟩ := h; rfl) (fun cdv A outer s H vs Q E hr h => ?_)
  obtain ⟨i, lo, hi, rfl, q⟩ := h
  refine ⟨_, PSs.nox (pss_one (ps_ret (pe_and (pe_call (G_is_whole T) (hr.mono (by decide)) (by rfl) T.g_is_whole T.F_is_whole.kp T.b_is_whole .nil pass0 (pa_cons (pv 0) pa_nil)) (pe_and (pe_cmpR op_le (pv 1) (pv 0) (nomark _)) (pe_one (pe_or (pe_cmpR op_isN (pv 2) pe_non (nomark _)) (pe_one (pe_cmpR op_le (pv 0) (pv 2) (nomark _))))))))), ?_⟩
  refine ⟨_, rfl, i, rfl, true, rfl, iteT ?_⟩
  refine ⟨_, rfl, _, rfl, _, _, rfl, rfl, _, rfl, ite2 (fun e => ?_) (fun e => ?_)⟩
  · have e1 : lo ≤ i := of_decide_eq_true e
    cases hi with
    | none =>
      refine ⟨_, rfl, rfl, _, rfl, iteT ?_⟩
      rw [decide_eq_true ⟨e1, fun j h => nomatch h⟩] at q
      exact q
    | some j =>
      refine ⟨_, rfl, rfl, _, rfl, iteF ⟨_, rfl, _, rfl, _, _, rfl, rfl, ?_⟩⟩
      have e2 : decide (lo ≤ i ∧ ∀ j', some j = some j' → i ≤ j') = decide (i ≤ j) := by
        by_cases h : i ≤ j
        · rw [decide_eq_true h, decide_eq_true]
          exact ⟨e1, fun j' e => by cases e; exact h⟩
        · rw [decide_eq_false h, decide_eq_false]
          exact fun z => h (z.2 j rfl)
      rw [e2] at q
      exact q
  · have e1 : ¬ lo ≤ i := fun h => e (decide_eq_true h)
    rw [decide_eq_false fun z => e1 z.1] at q
    exact q
end
end My

set_option exponentiation.threshold 100000
namespace My
open PySem PySem.Spec PyProof.Rows L2 Pre
section
variable {P : Program} {w : World} {K : PySem.W.Frag} {mg : Str → Option Value} {base : Heap}
/-! ### the law's draws -/
/-- a generator: its count is at most n -/
def GenAt (H : Hp) (g : Addr) (n : Nat) : Prop := ∃ x y z : Int, H g = some (.lst [.int x, .int y, .int z]) ∧ 0 ≤ z ∧ z ≤ (n : Int)
/-- all but one thing stand as they stood -/
def But (g : Addr) (H H' : Hp) : Prop := ∀ b o, b ≠ g → H b = some o → H' b = some o
theorem But.refl {g : Addr} {H : Hp} : But g H H := fun _ _ _ h => h
theorem But.trans {g : Addr} {H H1 H2 : Hp} (a : But g H H1) (b : But g H1 H2) : But g H H2 := fun c o n h => b c o n (a c o n h)
theorem But.same {g : Addr} {H H1 H2 : Hp} (a : But g H H1) (b : Same H1 H2) : But g H H2 := fun c o n h => b c o (a c o n h)
theorem But.of {g : Addr} {H H1 : Hp} (b : Same H H1) : But g H H1 := fun c o _ h => b c o h
theorem But.upd {g : Addr} {H H1 : Hp} {o : HO} (a : But g H H1) : But g H (upd H1 g o) := fun c u n h => by
  rw [upd_ne n]
  exact a c u n h
theorem But.free {g : Addr} {H H1 : Hp} (a : But g H H1) {p : Addr} (n : p ≠ g) (h : H1 p = none) : H p = none := by
  cases e : H p with
  | none => rfl
  | some o => rw [a p o n e] at h; cases h
/-- what is changed was not there at first -/
theorem But.fresh {g : Addr} {H H1 H2 : Hp} (s : Same H H1) (n : H g = none) (b : But g H1 H2) : Same H H2 := fun c o h => b c o (ne_of_none h n) (s c o h)
theorem GenAt.mono {H : Hp} {g : Addr} {n m : Nat} (h : GenAt H g n) (l : n ≤ m) : GenAt H g m := by
  obtain ⟨x, y, z, a, b, c⟩ := h
  exact ⟨x, y, z, a, b, by omega⟩
theorem GenAt.same {H H' : Hp} {g : Addr} {n : Nat} (h : GenAt H g n) (s : Same H H') : GenAt H' g n := by
  obtain ⟨x, y, z, a, b⟩ := h
  exact ⟨x, y, z, s _ _ a, b⟩
theorem GenAt.ne {H : Hp} {g : Addr} {n : Nat} {p : Addr} (h : GenAt H g n) (np : H p = none) : p ≠ g := by
  obtain ⟨x, y, z, a, _⟩ := h
  exact (ne_of_none a np).symm
theorem small_2900 {b : Int} (h : b ≤ 2 ^ 60) : b < 2 ^ 2900 := by omega
theorem pow_pos' (w : Nat) : (0 : Int) < 2 ^ w := Int.pow_pos (by decide)
theorem pow2_le {k m : Nat} (h : k ≤ m) : (2 : Int) ^ k ≤ 2 ^ m := by
  have e := Nat.pow_le_pow_right (show 0 < 2 by decide) h
  have e2 : ((2 ^ k : Nat) : Int) ≤ ((2 ^ m : Nat) : Int) := Int.ofNat_le.mpr e
  rw [Int.natCast_pow, Int.natCast_pow] at e2
  exact e2
def sp_law_cell (K : PySem.W.Frag) : Sp := fun vs H Q _ => ∃ (a : Addr) (ns : List Int) (i : Nat), vs = [.ref a, .int i] ∧ SqL K H a (ns.map V.int) ∧ ∀ (n : Int) H', Same H H' → Q (.int n) H'
theorem G_law_cell (T : Top K mg) : FnOk P w K mg base CX0 1 T.f_law_cell T.fd_law_cell ["_law_script", "_law_index"] (sp_law_cell K) := by
  refine T.F_law_cell.ok sc_law_cell (fun vs H Q E h => by obtain ⟨a, ns, i, rfl, _⟩ := h; rfl) (fun cdv A outer s H vs Q E hr h => ?_)
  obtain ⟨a, ns, i, rfl, hS, q⟩ := h
  refine ⟨_, PSs.nox (pss_cons (ps_if (pt_cmpR op_lt (pv 1) (pe_callB (k_len K rfl) (by rfl) T.n_len (by decide +kernel) (pa_cons (pv 0) pa_nil)) (nomark _))
    (pss_one (ps_ret (pe_ix (k_ixL K rfl) (pv 0) (pv 1) (fun _ _ => rfl))))
    pss_nil)
  (pss_one (ps_ret (pe_op op_mod (pe_callB (k_sum K rfl rfl) (by rfl) T.n_sum (by decide +kernel) (pa_cons (pe_slice (k_slL K rfl) (pv 0) po_none (po_some pe_int)) pa_nil)) pe_int)))), ?_⟩
  refine ⟨_, rfl, _, rfl, a, _, rfl, .inl hS, _, _, rfl, rfl, _, rfl, ite2 (fun e => ?_) (fun e => ?_)⟩
  · have e1 : (i : Int) < (((ns.map V.int).length : Nat) : Int) := of_decide_eq_true e
    rw [List.length_map] at e1
    have hi : i < ns.length := by omega
    refine ⟨_, rfl, _, rfl, a, _, _, .int ns[i], rfl, rfl, hS, atI_nat (by rw [List.getElem?_map, List.getElem?_eq_getElem hi]; rfl), ?_⟩
    exact q _ _ (Same.refl _)
  · refine ⟨_, rfl, _, rfl, a, _, rfl, hS, fun p np => ?_⟩
    have ec : ∃ ms : List Int, cutV (ns.map V.int) none (some 1) = ms.map V.int := by
      unfold cutV
      exact ⟨(ns.drop (HT.sIx (ns.map V.int).length 0 none)).take (HT.sIx (ns.map V.int).length (ns.map V.int).length (some 1) - HT.sIx (ns.map V.int).length 0 none), by rw [List.map_take, List.map_drop]⟩
    obtain ⟨ms, em⟩ := ec
    refine ⟨p, ms, rfl, .inl (.inl (by rw [upd_same, em])), _, _, rfl, rfl, (by show (0 : Int) < 1000003; decide), ?_⟩
    exact q _ _ (same_upd np)
theorem cmul_mod (x m j : Int) (h0 : 0 < m) (h1 : m ≤ 2 ^ 60) : CMul (x % m) j := by
  have a := Int.emod_nonneg x (show m ≠ 0 by omega)
  have b := Int.emod_lt_of_pos x h0
  exact .inl ⟨by omega, by omega⟩
def sp_law_hash : Sp := fun vs H Q _ => ∃ i j : Int, vs = [.int i, .int j] ∧ 0 ≤ j ∧ j < 2 ^ 60 ∧ ∀ n : Int, Q (.int n) H
theorem G_law_hash (T : Top K mg) : FnOk P w K mg base CX0 1 T.f_law_hash T.fd_law_hash ["_law_seed", "_law_index"] sp_law_hash := by
  refine T.F_law_hash.ok sc_law_hash (fun vs H Q E h => by obtain ⟨i, j, rfl, _⟩ := h; rfl) (fun cdv A outer s H vs Q E hr h => ?_)
  obtain ⟨i, j, rfl, h0, h1, q⟩ := h
  refine ⟨_, PSs.nox (pss_cons (ps_set (i := 2) sc_law_hash.nd rfl (by first | exact Or.inl rfl | exact Or.inr rfl) (pe_op op_mod (pe_callTy call_int1 (by rfl) T.n_int (by decide +kernel) (pa_cons (pe_op op_add (pe_op op_add (pe_op op_add (pe_op op_mul (pv 0) pe_int) (pe_op op_mul (pe_op op_mul pe_int (pv 1)) (pv 1))) (pe_op op_mul pe_int (pv 1))) pe_int) pa_nil)) pe_int))
  (pss_cons (ps_set (i := 2) sc_law_hash.nd rfl (by first | exact Or.inl rfl | exact Or.inr rfl) (pe_op op_mod (pe_callTy call_int1 (by rfl) T.n_int (by decide +kernel) (pa_cons (pe_op op_add (pe_op op_add (pe_op op_mul (pv 2) (pv 2)) (pe_op op_mul pe_int (pv 1))) pe_int) pa_nil)) pe_int))
  (pss_one (ps_ret (pe_op op_mod (pe_callTy call_int1 (by rfl) T.n_int (by decide +kernel) (pa_cons (pe_op op_mul (pv 2) pe_int) pa_nil)) pe_int))))), ?_⟩
  refine ⟨_, rfl, _, _, rfl, rfl, .inr ⟨by decide, by decide⟩, _, rfl, _, _, rfl, rfl, .inl ⟨by decide, by decide⟩, _, rfl, _, _, rfl, rfl, .inr ⟨by omega, by omega⟩, _, _, rfl, rfl, _, rfl, _, _, rfl, rfl, .inl ⟨by decide, by decide⟩, _, _, rfl, rfl, _, _, rfl, rfl,
    .inl ⟨_, rfl, _, _, rfl, rfl, (by show (0 : Int) < _; decide), ?_⟩⟩
  refine ⟨_, rfl, _, rfl, _, _, rfl, rfl, cmul_mod _ _ _ (by decide) (by decide), _, rfl, _, _, rfl, rfl, .inl ⟨by decide, by decide⟩, _, _, rfl, rfl, _, _, rfl, rfl, .inl ⟨_, rfl, _, _, rfl, rfl, (by show (0 : Int) < _; decide), ?_⟩⟩
  refine ⟨_, rfl, _, _, rfl, rfl, .inr ⟨by decide, by decide⟩, .inl ⟨_, rfl, _, _, rfl, rfl, (by show (0 : Int) < _; decide), ?_⟩⟩
  exact q _

def sp_law_generator (K : PySem.W.Frag) : Sp := fun vs H Q _ => ∃ (a : Addr) (ns : List Int) (i : Nat), vs = [.ref a, .int i] ∧ SqL K H a (ns.map V.int) ∧ ∀ H' g, Same H H' → H g = none → GenAt H' g (1000 * i) → Q (.ref g) H'
theorem G_law_generator (T : Top K mg) : FnOk P w K mg base CX0 2 T.f_law_generator T.fd_law_generator ["_law_script", "_law_index"] (sp_law_generator K) := by
  refine T.F_law_generator.ok sc_law_generator (fun vs H Q E h => by obtain ⟨a, ns, i, rfl, _⟩ := h; rfl) (fun cdv A outer s H vs Q E hr h => ?_)
  obtain ⟨a, ns, i, rfl, hS, q⟩ := h
  refine ⟨_, PSs.nox (pss_cons (ps_set (i := 2) sc_law_generator.nd rfl (by first | exact Or.inl rfl | exact Or.inr rfl) (pe_call (G_law_cell T) (hr.mono (by decide)) (by rfl) T.g_law_cell T.F_law_cell.kp T.b_law_cell .nil pass0 (pa_cons (pv 0) (pa_cons (pv 1) pa_nil))))
  (pss_one (ps_ret (pe_lst (pa_cons (pe_op op_mod (pe_callTy call_int1 (by rfl) T.n_int (by decide +kernel) (pa_cons (pe_callB (call_max2 rfl) (by rfl) T.n_max (by decide +kernel) (pa_cons (pe_op op_sub (pv 2) (pe_op op_powW pe_int pe_int)) (pa_cons pe_int pa_nil))) pa_nil)) (pe_op op_powW (pe_op op_powW pe_int pe_int) pe_int)) (pa_cons (pe_op op_mod (pe_callTy call_int1 (by rfl) T.n_int (by decide +kernel) (pa_cons (pv 2) pa_nil)) pe_int) (pa_cons (pe_op op_mul pe_int (pv 1)) pa_nil))))))), ?_⟩
  refine ⟨_, rfl, _, rfl, a, ns, i, rfl, hS, fun n H1 s1 => ?_⟩
  refine ⟨_, rfl, _, _, rfl, rfl, ⟨by decide, by decide +kernel⟩, _, _, rfl, rfl, _, _, rfl, .inl ⟨_, rfl, _, _, rfl, rfl, ⟨by decide, by decide +kernel⟩, _, _, rfl, rfl, ⟨by decide, by decide +kernel⟩, _, _, rfl, rfl, (by show (0 : Int) < _; decide +kernel), ?_⟩⟩
  refine ⟨_, rfl, .inl ⟨_, rfl, _, _, rfl, rfl, (by show (0 : Int) < _; decide), ?_⟩⟩
  refine ⟨_, rfl, _, _, rfl, rfl, .inl ⟨by decide, by decide⟩, (show 3 ≤ sizeLine by decide), fun g ng => ?_⟩
  exact q _ g (s1.trans (same_upd ng)) (s1.free ng) ⟨_, _, _, upd_same, by omega, by omega⟩
def sp_law_random : Sp := fun vs H Q _ => ∃ (g : Addr) (b : Int) (n : Nat), vs = [.ref g, .int b] ∧ GenAt H g n ∧ n ≤ 10 ^ 12 ∧ 0 < b ∧ b < 2 ^ 2900 ∧ ∀ (d : Int) H', 0 ≤ d → d < b → GenAt H' g (n + 100) → But g H H' → Q (.int d) H'
theorem G_law_random (T : Top K mg) : FnOk P w K mg base CX0 2 T.f_law_random T.fd_law_random ["_law_generator_here", "_law_bound"] sp_law_random := by
  refine T.F_law_random.ok sc_law_random (fun vs H Q E h => by obtain ⟨g, b, n, rfl, _⟩ := h; rfl) (fun cdv A outer s H vs Q E hr h => ?_)
  obtain ⟨g, b, n, rfl, ⟨x, y, z, hg, z0, z1⟩, hn, b0, b1, q⟩ := h
  refine ⟨_, PSs.nox (pss_cons (ps_if (pt_cmpR op_gt (pe_ix (k_ixL K rfl) (pv 0) pe_int (fun _ _ => rfl)) pe_int (nomark _))
    (pss_cons (ps_set (i := 2) sc_law_random.nd rfl (by first | exact Or.inl rfl | exact Or.inr rfl) (pe_op op_mod (pe_callTy call_int1 (by rfl) T.n_int (by decide +kernel) (pa_cons (pe_ix (k_ixL K rfl) (pv 0) pe_int (fun _ _ => rfl)) pa_nil)) (pv 1)))
  (pss_cons (ps_asg (pe_op op_fdivW (pe_ix (k_ixL K rfl) (pv 0) pe_int (fun _ _ => rfl)) (pv 1)) (pg_sub (pv 0) pe_int set_list))
  (pss_one (ps_ret (pv 2)))))
    pss_nil)
  (pss_cons (ps_set (i := 2) sc_law_random.nd rfl (by first | exact Or.inl rfl | exact Or.inr rfl) pe_int)
  (pss_cons (ps_for PassesOwn.never rfl (pi_range1 (by rfl) T.n_range (pa_cons (pe_op op_add pe_int (pe_op op_fdivW (pe_bits (pv 1)) pe_int)) pa_nil)) (pg_name (i := 3) sc_law_random.nd rfl (by first | exact Or.inl rfl | exact Or.inr rfl))
    (pss_cons (ps_asg (pe_op op_add (pe_ix (k_ixL K rfl) (pv 0) pe_int (fun _ _ => rfl)) pe_int) (pg_sub (pv 0) pe_int set_list))
  (pss_one (ps_set (i := 2) sc_law_random.nd rfl (by first | exact Or.inl rfl | exact Or.inr rfl) (pe_op op_add (pe_op op_mul (pv 2) pe_int) (pe_call (G_law_hash T) (hr.mono (by decide)) (by rfl) T.g_law_hash T.F_law_hash.kp T.b_law_hash .nil pass0 (pa_cons (pe_ix (k_ixL K rfl) (pv 0) pe_int (fun _ _ => rfl)) (pa_cons (pe_ix (k_ixL K rfl) (pv 0) pe_int (fun _ _ => rfl)) pa_nil))))))))
  (pss_one (ps_ret (pe_op op_mod (pe_callTy call_int1 (by rfl) T.n_int (by decide +kernel) (pa_cons (pv 2) pa_nil)) (pv 1))))))), ?_⟩
  have a0 : ∀ x y z : Int, atI [V.int x, .int y, .int z] 0 = some (.int x) := fun _ _ _ => rfl
  have a1 : ∀ x y z : Int, atI [V.int x, .int y, .int z] 1 = some (.int y) := fun _ _ _ => rfl
  have a2 : ∀ x y z : Int, atI [V.int x, .int y, .int z] 2 = some (.int z) := fun _ _ _ => rfl
  have hS : SqL K H g [.int x, .int y, .int z] := .inl (.inl hg)
  have nb : b.natAbs < 2 ^ 2900 := by
    have e : ((b.natAbs : Nat) : Int) < ((2 ^ 2900 : Nat) : Int) := by
      rw [Int.natCast_pow]
      omega
    exact Int.ofNat_lt.mp e
  refine ⟨_, rfl, g, _, 0, _, rfl, rfl, hS, a0 x y z, _, _, rfl, rfl, _, rfl, ite2 (fun e => ?_) (fun e => ?_)⟩
  · refine ⟨_, rfl, g, _, 0, _, rfl, rfl, hS, a0 x y z, .inl ⟨_, rfl, _, rfl, _, _, rfl, rfl, b0, ?_⟩⟩
    refine ⟨_, rfl, g, _, 0, _, rfl, rfl, hS, a0 x y z, _, rfl, _, _, rfl, rfl, wide_div b0 nb (by decide) (by decide), _, rfl, g, _, 0, 0, rfl, rfl, hg, rfl, _, rfl, ?_⟩
    exact q _ _ (Int.emod_nonneg _ (by omega)) (Int.emod_lt_of_pos _ b0) ⟨_, _, _, upd_same, z0, by omega⟩ (But.upd But.refl)
  · have hb : Builtin.Int.intBits b ≤ 2900 := PyProof.Rows.intBits_le nb
    have hq0 : (0 : Int) ≤ ((Builtin.Int.intBits b : Nat) : Int) / 30 := Int.ediv_nonneg (Int.natCast_nonneg _) (by decide)
    have hq1 : ((Builtin.Int.intBits b : Nat) : Int) / 30 ≤ 97 := by omega
    refine ⟨_, rfl, _, rfl, _, _, rfl, rfl, ⟨by decide, by decide +kernel⟩, _, _, rfl, rfl, _, rfl, by omega, by omega, ?_⟩
    refine for_range (lo := 0) (n := (1 + ((Builtin.Int.intBits b : Nat) : Int) / 30).toNat) (fun i σ H1 => ∃ (d z' : Int) (v : Option V), σ = [some (.ref g), some (.int b), some (.int d), v] ∧ H1 g = some (.lst [.int x, .int y, .int z']) ∧ 0 ≤ z' ∧ z' ≤ (n : Int) + (i : Int) ∧ But g H H1)
      ⟨0, z, none, rfl, hg, z0, by omega, But.refl⟩ ?_ ?_
    · rintro i σ H1 hi ⟨d, z', v, rfl, hg1, y0, y1, b1⟩
      have hS1 : SqL K H1 g [.int x, .int y, .int z'] := .inl (.inl hg1)
      refine ⟨_, rfl, g, _, 2, _, rfl, rfl, hS1, a2 x y z', _, _, rfl, rfl, _, rfl, g, _, 2, 2, rfl, rfl, hg1, rfl, ?_⟩
      have hS2 : SqL K (upd H1 g (.lst [.int x, .int y, .int (z' + 1)])) g [.int x, .int y, .int (z' + 1)] := .inl (.inl upd_same)
      refine ⟨_, rfl, _, _, rfl, rfl, .inr ⟨by decide, by decide⟩, _, rfl, g, _, 1, _, rfl, rfl, hS2, a1 _ _ _, _, rfl, g, _, 2, _, rfl, rfl, hS2, a2 _ _ _, _, _, rfl, by omega, by omega, fun r => ?_⟩
      exact ⟨_, _, rfl, rfl, _, z' + 1, _, rfl, upd_same, by omega, by omega, But.upd b1⟩
    · rintro σ H1 ⟨d, z', v, rfl, hg1, y0, y1, b1⟩
      refine ⟨_, rfl, .inl ⟨_, rfl, _, rfl, _, _, rfl, rfl, b0, ?_⟩⟩
      exact q _ _ (Int.emod_nonneg _ (by omega)) (Int.emod_lt_of_pos _ b0) ⟨_, _, _, hg1, y0, by omega⟩ b1
/-- a comprehension over a range that draws whole numbers -/
theorem lc_drawR {lo : Int} {n : Nat} {j : Nat} {te : TE} {vs : List Nat} {σ : L2.St} {H1 : Hp} {D : Addr} {Qd : Hp → Prop} (g : Addr) (m step : Nat) (P : Int → Prop) (nD : H1 D = none) (hG : GenAt H1 g m) (hz : n < sizeLine)
    (hw : ∀ x, wipe ((wipe σ vs).set j (some x)) vs = wipe σ vs)
    (hs : ∀ (i : Nat) (H' : Hp), i < n → But g H1 H' → GenAt H' g (m + step * i) → ∀ Qt : V → Hp → Prop, (∀ (y : Int) H'', P y → But g H' H'' → GenAt H'' g (m + step * (i + 1)) → Qt (.int y) H'') → te ((wipe σ vs).set j (some (.int (lo + (i : Int))))) H' Qt)
    (hd : ∀ H' (ys : List Int), But g H1 H' → GenAt H' g (m + step * n) → H' D = some (.lst (ys.map V.int)) → ys.length = n → (∀ y ∈ ys, P y) → Qd H') :
    ∃ W : Nat → Nat → Hp → Prop, (∃ m, W 0 m (upd H1 D (.lst []))) ∧ ∀ i m H, W i m H →
      ((Itr lo n).stop i H ∧ Qd H) ∨ ((Itr lo n).go i H ∧ ∃ Nx : Hp → Prop, (∀ H', Nx H' → ∃ m', m' < m ∧ W (i + 1) m' H') ∧ ∀ x H', (Itr lo n).yld i H x H' → gName j x (wipe σ vs) H' fun σ2 H2 => wipe σ2 vs = wipe σ vs ∧ tYes σ2 H2 fun b H3 =>
        if b = true then te σ2 H3 fun y H4 => ∃ acc, H4 D = some (.lst acc) ∧ acc.length < sizeLine ∧ Nx (upd H4 D (.lst (acc ++ [y]))) else Nx H3) := by
  have nDg : D ≠ g := hG.ne nD
  refine lc_range (lo := lo) (n := n) (fun i H => ∃ ys : List Int, But g H1 H ∧ GenAt H g (m + step * i) ∧ H D = some (.lst (ys.map V.int)) ∧ ys.length = i ∧ ∀ y ∈ ys, P y)
    ⟨[], But.of (same_upd nD), hG.same (same_upd nD), upd_same, rfl, (fun _ h => nomatch h)⟩ ?_ ?_
  · rintro i H hi ⟨ys, b, hg, hD, hl, hP⟩
    refine ⟨hw _, ?_⟩
    unfold tYes
    dsimp only
    rw [if_pos (show true = true from rfl)]
    refine hs i H hi b hg _ fun y H2 py b2 hg2 => ?_
    refine ⟨_, b2 _ _ nDg hD, by rw [List.length_map]; omega, ys ++ [y], ?_, ?_, ?_, ?_, ?_⟩
    · intro c o nc hc
      rw [upd_ne (ne_of_none hc nD)]
      exact b2 _ _ nc (b _ _ nc hc)
    · obtain ⟨x1, x2, x3, e1, e2⟩ := hg2
      exact ⟨x1, x2, x3, by rw [upd_ne nDg.symm]; exact e1, e2⟩
    · rw [upd_same, List.map_append]
      rfl
    · rw [List.length_append, hl]
      rfl
    · intro z hz
      rcases List.mem_append.mp hz with hz | hz
      · exact hP z hz
      · rw [List.mem_singleton.mp hz]
        exact py
  · rintro H ⟨ys, b, hg, hD, hl, hP⟩
    exact hd H ys b hg hD hl hP
end
end My

namespace My
open PySem PySem.Spec PyProof.Rows L2 Pre
/-- a comprehension over a list that makes new things: R tells what is known of the i-th -/
theorem lc_relL {K : PySem.W.Frag} {a : Addr} {xs : List V} {j : Nat} {te : TE} {vs : List Nat} {σ : L2.St} {H1 : Hp} {D : Addr} {Qd : Hp → Prop} (R : Nat → V → Hp → Prop) (nD : H1 D = none) (hS : SqL K H1 a xs) (hz : xs.length < sizeLine)
    (mono : ∀ (i : Nat) (y : V) (H H' : Hp), Pre.Off D H H' → R i y H → R i y H') (hw : ∀ x, wipe ((wipe σ vs).set j (some x)) vs = wipe σ vs)
    (hs : ∀ (i : Nat) (x : V) (H' : Hp) (zs : List V), xs[i]? = some x → Same H1 H' → H' D = some (.lst zs) → ∀ Qt : V → Hp → Prop, (∀ y H'', Same H' H'' → R i y H'' → Qt y H'') → te ((wipe σ vs).set j (some x)) H' Qt)
    (hd : ∀ H' ys, Same H1 H' → H' D = some (.lst ys) → ys.length = xs.length → (∀ (i : Nat) (y : V), ys[i]? = some y → R i y H') → Qd H') :
    ∃ W : Nat → Nat → Hp → Prop, (∃ m, W 0 m (upd H1 D (.lst []))) ∧ ∀ i m H, W i m H →
      ((Itl K a).stop i H ∧ Qd H) ∨ ((Itl K a).go i H ∧ ∃ Nx : Hp → Prop, (∀ H', Nx H' → ∃ m', m' < m ∧ W (i + 1) m' H') ∧ ∀ x H', (Itl K a).yld i H x H' → gName j x (wipe σ vs) H' fun σ2 H2 => wipe σ2 vs = wipe σ vs ∧ tYes σ2 H2 fun b H3 =>
        if b = true then te σ2 H3 fun y H4 => ∃ acc, H4 D = some (.lst acc) ∧ acc.length < sizeLine ∧ Nx (upd H4 D (.lst (acc ++ [y]))) else Nx H3) := by
  refine lc_list (K := K) (a := a) (xs := xs) (RelPv R H1 D) ⟨[], same_upd nD, upd_same, rfl, fun k y h => by simp at h⟩ (fun i H _ ⟨_, s, _⟩ => s.seq hS) ?_ ?_
  · rintro i x H hx ⟨ys, s, hD, hl, hR⟩
    have hi : i < xs.length := (List.getElem?_eq_some_iff.mp hx).1
    refine ⟨hw _, ?_⟩
    unfold tYes
    dsimp only
    rw [if_pos (show true = true from rfl)]
    refine hs i x H ys hx s hD _ fun y H4 s4 r4 => ?_
    refine ⟨ys, s4 _ _ hD, by omega, ys ++ [y], same_over nD (s.trans s4), upd_same, by rw [List.length_append, hl]; rfl, fun k z hz => ?_⟩
    have off : Pre.Off D H4 (upd H4 D (.lst (ys ++ [y]))) := fun b o nb h => by rw [upd_ne nb]; exact h
    by_cases hk : k < ys.length
    · rw [List.getElem?_append_left hk] at hz
      exact mono k z H _ (fun b o nb h => off b o nb (s4 b o h)) (hR k z hz)
    · rw [List.getElem?_append_right (by omega)] at hz
      have hk2 : k - ys.length = 0 := by
        have h2 := (List.getElem?_eq_some_iff.mp hz).1
        rw [List.length_singleton] at h2
        omega
      rw [hk2] at hz
      cases hz
      have ek : k = i := by omega
      rw [ek]
      exact mono i y H4 _ off r4
  · rintro H ⟨ys, s, hD, hl, hR⟩
    exact hd H ys s hD hl hR
/-- a list of lists of whole numbers -/
def RowsIn (H : Hp) (p : Addr) (rows : List (List Int)) : Prop := ∃ as : List Addr, H p = some (.lst (as.map V.ref)) ∧ as.length = rows.length ∧ ∀ (i : Nat) (a : Addr) (r : List Int), as[i]? = some a → rows[i]? = some r → H a = some (.lst (r.map V.int))
theorem RowsIn.same {H H' : Hp} {p : Addr} {rows : List (List Int)} (h : RowsIn H p rows) (s : Same H H') : RowsIn H' p rows := by
  obtain ⟨as, h1, h2, h3⟩ := h
  exact ⟨as, s _ _ h1, h2, fun i a r ha hr => s _ _ (h3 i a r ha hr)⟩
section
variable {X : Cx}
theorem huD {k : Nat} {A : Around} (r : Room k A) : A.units + 65 < cLine := by have := r.un; omega
theorem k_inD (K : PySem.W.Frag) (h : X.K = K) (hu : X.A.units + 65 < cLine) : OpR X (compareOp .In) (rInD K) := by subst h; exact op_inD hu
theorem k_notInD (K : PySem.W.Frag) (h : X.K = K) (hu : X.A.units + 65 < cLine) : OpR X (compareOp .NotIn) (rNotInD K) := by subst h; exact op_notInD hu
theorem k_indexD (K : PySem.W.Frag) (h : X.K = K) (hu : X.A.units + 65 < cLine) : MtR X "list.index" (rIndexD K) := by subst h; exact mt_indexD hu
end
/-- rows as data -/
def rowD (r : List Int) : PyData := .list (r.map PyData.int)
theorem rows_dp {K : PySem.W.Frag} {H : Hp} : ∀ {as : List Addr} {rows : List (List Int)}, as.length = rows.length → (∀ (i : Nat) (a : Addr) (r : List Int), as[i]? = some a → rows[i]? = some r → H a = some (.lst (r.map V.int))) → DpAll K H (as.map V.ref) (rows.map rowD)
  | [], [], _, _ => .nil
  | [], _ :: _, h, _ => by simp at h
  | _ :: _, [], h, _ => by simp at h
  | a :: as, r :: rows, h, k => .cons (.lst (.inl (.inl (k 0 a r rfl rfl))) (Pre.dp_ints r)) (rows_dp (by simpa using h) fun i t q ht hq => k (i + 1) t q (by simpa using ht) (by simpa using hq))
theorem rowD_eqv (r q : List Int) : PyData.eqv (rowD r) (rowD q) = decide (r = q) := by
  unfold rowD
  rw [PyData.eqv, eqv_ints]
theorem rows_shaped (rows : List (List Int)) : SeqAt.shaped (.list (rows.map rowD)) = true := by
  have h1 : ∀ l : List (List Int), PyData.canLayAll0 (l.map rowD) = true := fun l => by
    induction l with
    | nil => rfl
    | cons r l ih =>
      show (PyData.canLay0 (rowD r) && PyData.canLayAll0 (l.map rowD)) = true
      rw [ih]
      unfold rowD
      rw [PyData.canLay0, lay_ints]
      rfl
  have h2 : ∀ l : List (List Int), PyData.depthAll (l.map rowD) ≤ 1 := fun l => by
    induction l with
    | nil => simp [PyData.depthAll]
    | cons r l ih =>
      show PyData.depthAll (rowD r :: l.map rowD) ≤ 1
      rw [PyData.depthAll]
      unfold rowD at *
      rw [PyData.depth, depth_ints]
      omega
  show (PyData.canLay0 (.list (rows.map rowD)) && decide (PyData.depth (.list (rows.map rowD)) ≤ 64)) = true
  rw [Bool.and_eq_true]
  have := h2 rows
  exact ⟨by rw [PyData.canLay0]; exact h1 rows, decide_eq_true (by rw [PyData.depth]; omega)⟩
end My

namespace My
open PySem PySem.Spec PyProof.Rows L2 Pre
/-! ### min and max of a list of pairs of whole numbers -/
def pairD (p : Int × Int) : PyData := .tuple [.int p.1, .int p.2]
def ltP2 (p q : Int × Int) : Prop := p.1 < q.1 ∨ (p.1 = q.1 ∧ p.2 < q.2)
instance (p q : Int × Int) : Decidable (ltP2 p q) := by unfold ltP2; infer_instance
theorem pair_lt (p q : Int × Int) : PySem.W.dataLt (pairD p) (pairD q) = decide (ltP2 p q) := PySem.W.dataLt_ii p.1 p.2 q.1 q.2
theorem ltP2_trans {p q r : Int × Int} (h : ¬ ltP2 q p) (k : ¬ ltP2 r q) : ¬ ltP2 r p := by
  unfold ltP2 at *
  omega
def minP (p : Int × Int) (ps : List (Int × Int)) : Int × Int := ps.foldl (fun a y => if ltP2 y a then y else a) p
def maxP (p : Int × Int) (ps : List (Int × Int)) : Int × Int := ps.foldl (fun a y => if ltP2 a y then y else a) p
theorem minP_data : ∀ (ps : List (Int × Int)) (p : Int × Int), PySem.W.minD (pairD p) (ps.map pairD) = pairD (minP p ps)
  | [], _ => rfl
  | q :: ps, p => by
    show PySem.W.minD (if PySem.W.dataLt (pairD q) (pairD p) = true then pairD q else pairD p) (ps.map pairD) = pairD (minP (if ltP2 q p then q else p) ps)
    rw [pair_lt]
    by_cases h : ltP2 q p
    · rw [decide_eq_true h, if_pos rfl, if_pos h, minP_data ps q]
    · rw [decide_eq_false h, if_neg (by decide), if_neg h, minP_data ps p]
theorem maxP_data : ∀ (ps : List (Int × Int)) (p : Int × Int), PySem.W.maxD (pairD p) (ps.map pairD) = pairD (maxP p ps)
  | [], _ => rfl
  | q :: ps, p => by
    show PySem.W.maxD (if PySem.W.dataLt (pairD p) (pairD q) = true then pairD q else pairD p) (ps.map pairD) = pairD (maxP (if ltP2 p q then q else p) ps)
    rw [pair_lt]
    by_cases h : ltP2 p q
    · rw [decide_eq_true h, if_pos rfl, if_pos h, maxP_data ps q]
    · rw [decide_eq_false h, if_neg (by decide), if_neg h, maxP_data ps p]
theorem minP_spec : ∀ (ps : List (Int × Int)) (p : Int × Int), minP p ps ∈ p :: ps ∧ ∀ q ∈ p :: ps, ¬ ltP2 q (minP p ps)
  | [], p => ⟨List.mem_cons_self, fun q hq => by
      rw [List.mem_singleton.mp hq]
      show ¬ ltP2 p p
      unfold ltP2
      omega⟩
  | r :: ps, p => by
    show minP (if ltP2 r p then r else p) ps ∈ _ ∧ ∀ q ∈ p :: r :: ps, ¬ ltP2 q (minP (if ltP2 r p then r else p) ps)
    by_cases h : ltP2 r p
    · rw [if_pos h]
      obtain ⟨h1, h2⟩ := minP_spec ps r
      refine ⟨List.mem_cons_of_mem _ h1, fun q hq => ?_⟩
      rcases List.mem_cons.mp hq with rfl | hq
      · have := h2 r List.mem_cons_self
        exact fun z => this (by unfold ltP2 at *; omega)
      · exact h2 q hq
    · rw [if_neg h]
      obtain ⟨h1, h2⟩ := minP_spec ps p
      refine ⟨?_, fun q hq => ?_⟩
      · rcases List.mem_cons.mp h1 with e | e
        · rw [e]; exact List.mem_cons_self
        · exact List.mem_cons_of_mem _ (List.mem_cons_of_mem _ e)
      · rcases List.mem_cons.mp hq with rfl | hq
        · exact h2 q List.mem_cons_self
        · rcases List.mem_cons.mp hq with rfl | hq
          · have := h2 p List.mem_cons_self
            exact fun z => this (by unfold ltP2 at *; omega)
          · exact h2 q (List.mem_cons_of_mem _ hq)
theorem maxP_spec : ∀ (ps : List (Int × Int)) (p : Int × Int), maxP p ps ∈ p :: ps ∧ ∀ q ∈ p :: ps, ¬ ltP2 (maxP p ps) q
  | [], p => ⟨List.mem_cons_self, fun q hq => by
      rw [List.mem_singleton.mp hq]
      show ¬ ltP2 p p
      unfold ltP2
      omega⟩
  | r :: ps, p => by
    show maxP (if ltP2 p r then r else p) ps ∈ _ ∧ ∀ q ∈ p :: r :: ps, ¬ ltP2 (maxP (if ltP2 p r then r else p) ps) q
    by_cases h : ltP2 p r
    · rw [if_pos h]
      obtain ⟨h1, h2⟩ := maxP_spec ps r
      refine ⟨List.mem_cons_of_mem _ h1, fun q hq => ?_⟩
      rcases List.mem_cons.mp hq with rfl | hq
      · have := h2 r List.mem_cons_self
        exact fun z => this (by unfold ltP2 at *; omega)
      · exact h2 q hq
    · rw [if_neg h]
      obtain ⟨h1, h2⟩ := maxP_spec ps p
      refine ⟨?_, fun q hq => ?_⟩
      · rcases List.mem_cons.mp h1 with e | e
        · rw [e]; exact List.mem_cons_self
        · exact List.mem_cons_of_mem _ (List.mem_cons_of_mem _ e)
      · rcases List.mem_cons.mp hq with rfl | hq
        · exact h2 q List.mem_cons_self
        · rcases List.mem_cons.mp hq with rfl | hq
          · have := h2 p List.mem_cons_self
            exact fun z => this (by unfold ltP2 at *; omega)
          · exact h2 q (List.mem_cons_of_mem _ hq)
theorem pairs_alike (ps : List (Int × Int)) : PySem.W.AlikeAll (ps.map pairD) := by
  refine ⟨fun x hx y hy => ?_, fun x hx => ?_⟩
  · obtain ⟨p, _, rfl⟩ := List.mem_map.mp hx
    obtain ⟨q, _, rfl⟩ := List.mem_map.mp hy
    rfl
  · obtain ⟨p, _, rfl⟩ := List.mem_map.mp hx
    exact fun z => nomatch z
theorem pairs_lay : ∀ ps : List (Int × Int), PyData.canLayAll0 (ps.map pairD) = true
  | [] => rfl
  | p :: ps => by simp [PyData.canLayAll0, PyData.canLay0, pairD, pairs_lay ps]
theorem pairs_depth : ∀ ps : List (Int × Int), PyData.depthAll (ps.map pairD) ≤ 2
  | [] => by simp [PyData.depthAll]
  | p :: ps => by
    have := pairs_depth ps
    simp only [List.map_cons, PyData.depthAll, pairD, PyData.depth]
    omega
/-- a list of pairs, at a -/
def PairsAt (K : PySem.W.Frag) (H : Hp) (a : Addr) (ps : List (Int × Int)) : Prop := ∃ as : List Addr, SqL K H a (as.map V.ref) ∧ as.length = ps.length ∧ ∀ (i : Nat) (t : Addr) (p : Int × Int), as[i]? = some t → ps[i]? = some p → SqT K H t [.int p.1, .int p.2]
theorem pairs_dp {K : PySem.W.Frag} {H : Hp} : ∀ {as : List Addr} {ps : List (Int × Int)}, as.length = ps.length → (∀ (i : Nat) (t : Addr) (p : Int × Int), as[i]? = some t → ps[i]? = some p → SqT K H t [.int p.1, .int p.2]) → DpAll K H (as.map V.ref) (ps.map pairD)
  | [], [], _, _ => .nil
  | [], _ :: _, h, _ => by simp at h
  | _ :: _, [], h, _ => by simp at h
  | a :: as, p :: ps, h, k => .cons (.tup (k 0 a p rfl rfl) (.cons (.int _) (.cons (.int _) .nil))) (pairs_dp (by simpa using h) fun i t q ht hq => k (i + 1) t q (by simpa using ht) (by simpa using hq))
def rMnP (K : PySem.W.Frag) (best : Int × Int → List (Int × Int) → Int × Int) : List V → Hp → VK → Prop := fun xs H Q => ∃ (a : Addr) (p : Int × Int) (ps : List (Int × Int)), xs = [.ref a] ∧ PairsAt K H a (p :: ps) ∧ ∀ t, SqT K H t [.int (best p ps).1, .int (best p ps).2] → Q (.ref t) H
section
variable {X : Cx} {K : PySem.W.Frag}
theorem pick {H : Hp} {s : Shared} {as : List Addr} {ps : List (Int × Int)} {its : List Value} {i : Nat} {v : Value} {h' : Heap} {bs cs : List Addr} {b : Int × Int} (hl : as.length = ps.length)
    (hT : ∀ (i : Nat) (t : Addr) (p : Int × Int), as[i]? = some t → ps[i]? = some p → SqT K H t [.int p.1, .int p.2]) (rv : Vals (as.map V.ref) its) (hr : ReadsAll s.heap its (ps.map pairD) cs) (hv : its.toArray[i]? = some v) (rd : Reads h' v (pairD b) bs)
    (hk : ∀ b o, s.heap.get? b = some o → h'.get? b = some o) : ∃ t, v = .ref t ∧ SqT K H t [.int b.1, .int b.2] := by
  have hv' : its[i]? = some v := by simpa using hv
  have hil : i < its.length := (List.getElem?_eq_some_iff.mp hv').1
  have hvl := rv.length
  rw [List.length_map] at hvl
  obtain ⟨u, hu, ru⟩ := rv.get (show (as.map V.ref)[i]? = some (.ref (as[i]'(by omega))) by rw [List.getElem?_map, List.getElem?_eq_getElem (by omega)]; rfl)
  rw [hv'] at hu
  cases hu
  have hp : ps[i]? = some (ps[i]'(by omega)) := List.getElem?_eq_getElem (by omega)
  obtain ⟨ds, r1, _, _, _⟩ := PySem.W.readsAll_at hr i v hv'
  have e1 : (ps.map pairD).getD i .none = pairD (ps[i]'(by omega)) := by
    rw [List.getD_eq_getElem?_getD, List.getElem?_map, hp]
    rfl
  rw [e1] at r1
  have e2 := PySem.SeqAt.Reads.unique (pairD b) _ v _ _ (by simp [pairD, PyData.canLay0, PyData.canLayAll0]) rd (Reads.keeps hk r1)
  have e3 : b = ps[i]'(by omega) := by
    unfold pairD at e2
    injection e2 with e2
    injection e2 with e4 e5
    injection e5 with e5 _
    injection e4 with e4
    injection e5 with e5
    exact Prod.ext e4 e5
  refine ⟨as[i]'(by omega), ru, ?_⟩
  rw [e3]
  exact hT i _ _ (List.getElem?_eq_getElem (by omega)) hp
theorem k_minP (K : PySem.W.Frag) (h : X.K = K) (hc : X.calm = true) (hu : X.A.units + 65 < cLine) : CallR X (.builtin "min") (rMnP K minP) := by
  subst h
  intro pins s σ H xs us Q I r h
  obtain ⟨a, p, ps, rfl, ⟨as, hS, hl, hT⟩, q⟩ := h
  obtain ⟨its, rv, hL, _⟩ := I.list hS
  rw [Vals.ref1 r]
  obtain ⟨cs, hr⟩ := Dp.readsAll I _ _ its (pairs_dp hl hT) rv
  have hd := pairs_depth (p :: ps)
  refine PySem.W.min_list_data (I.ok.hd hc) hL.isList (show ReadsAll s.heap its.toArray.toList (pairD p :: ps.map pairD) cs by simpa using hr) (pairs_alike (p :: ps)) (by rw [List.map_cons] at hd; omega) fun i v h' tk bs hv rd hk => ?_
  rw [minP_data] at rd
  obtain ⟨t, rfl, ht⟩ := pick hl hT rv hr hv rd hk
  exact ⟨.ref t, H, I.kept hk, rfl, q t ht⟩
theorem k_maxP (K : PySem.W.Frag) (h : X.K = K) (hc : X.calm = true) (hu : X.A.units + 65 < cLine) : CallR X (.builtin "max") (rMnP K maxP) := by
  subst h
  intro pins s σ H xs us Q I r h
  obtain ⟨a, p, ps, rfl, ⟨as, hS, hl, hT⟩, q⟩ := h
  obtain ⟨its, rv, hL, _⟩ := I.list hS
  rw [Vals.ref1 r]
  obtain ⟨cs, hr⟩ := Dp.readsAll I _ _ its (pairs_dp hl hT) rv
  have hd := pairs_depth (p :: ps)
  refine PySem.W.max_list_data (I.ok.hd hc) hL.isList (show ReadsAll s.heap its.toArray.toList (pairD p :: ps.map pairD) cs by simpa using hr) (pairs_alike (p :: ps)) (by rw [List.map_cons] at hd; omega) fun i v h' tk bs hv rd hk => ?_
  rw [maxP_data] at rd
  obtain ⟨t, rfl, ht⟩ := pick hl hT rv hr hv rd hk
  exact ⟨.ref t, H, I.kept hk, rfl, q t ht⟩
theorem huM {k : Nat} {A : Around} (r : Room k A) : A.units + 65 < cLine := by have := r.un; omega
end
end My

namespace My
open PySem PySem.Spec PyProof.Rows L2 Pre
/-! ### data in a heap: what is told of a value by lists and tuples that stand there (none of them frozen) -/
mutual
inductive Dt (H : Hp) : V → PyData → Prop
  | non : Dt H .non .none
  | bl (b : Bool) : Dt H (.bl b) (.bool b)
  | int (n : Int) : Dt H (.int n) (.int n)
  | str (x : Str) : Dt H (.str x) (.str x)
  | lst {a : Addr} {xs : List V} {ds : List PyData} : H a = some (.lst xs) → DtA H xs ds → Dt H (.ref a) (.list ds)
  | tup {a : Addr} {xs : List V} {ds : List PyData} : H a = some (.tup xs) → DtA H xs ds → Dt H (.ref a) (.tuple ds)
inductive DtA (H : Hp) : List V → List PyData → Prop
  | nil : DtA H [] []
  | cons {v : V} {vs : List V} {d : PyData} {ds : List PyData} : Dt H v d → DtA H vs ds → DtA H (v :: vs) (d :: ds)
end
mutual
theorem Dt.same {H H' : Hp} (s : Same H H') : ∀ {d : PyData} {v : V}, Dt H v d → Dt H' v d
  | .none, _, h => by cases h; exact .non
  | .bool _, _, h => by cases h; exact .bl _
  | .int _, _, h => by cases h; exact .int _
  | .str _, _, h => by cases h; exact .str _
  | .list _, _, h => by cases h with | lst a b => exact .lst (s _ _ a) (DtA.same s b)
  | .tuple _, _, h => by cases h with | tup a b => exact .tup (s _ _ a) (DtA.same s b)
  | .dict _, _, h => nomatch h
theorem DtA.same {H H' : Hp} (s : Same H H') : ∀ {ds : List PyData} {vs : List V}, DtA H vs ds → DtA H' vs ds
  | [], _, h => by cases h; exact .nil
  | _ :: _, _, h => by cases h with | cons a b => exact .cons (Dt.same s a) (DtA.same s b)
end
mutual
theorem Dt.dp {K : PySem.W.Frag} {H : Hp} : ∀ {d : PyData} {v : V}, Dt H v d → Dp K H v d
  | .none, _, h => by cases h; exact .non
  | .bool _, _, h => by cases h; exact .bl _
  | .int _, _, h => by cases h; exact .int _
  | .str _, _, h => by cases h; exact .str _
  | .list _, _, h => by cases h with | lst a b => exact .lst (.inl (.inl a)) (DtA.dp b)
  | .tuple _, _, h => by cases h with | tup a b => exact .tup (.inl (.inl a)) (DtA.dp b)
  | .dict _, _, h => nomatch h
theorem DtA.dp {K : PySem.W.Frag} {H : Hp} : ∀ {ds : List PyData} {vs : List V}, DtA H vs ds → DpAll K H vs ds
  | [], _, h => by cases h; exact .nil
  | _ :: _, _, h => by cases h with | cons a b => exact .cons (Dt.dp a) (DtA.dp b)
end
theorem DtA.len {H : Hp} : ∀ {ds : List PyData} {vs : List V}, DtA H vs ds → vs.length = ds.length
  | [], _, h => by cases h; rfl
  | _ :: _, _, h => by cases h with | cons a b => rw [List.length_cons, List.length_cons, DtA.len b]
theorem DtA.app {H : Hp} : ∀ {ds : List PyData} {vs : List V} {es : List PyData} {us : List V}, DtA H vs ds → DtA H us es → DtA H (vs ++ us) (ds ++ es)
  | [], _, _, _, h, k => by cases h; exact k
  | _ :: _, _, _, _, h, k => by cases h with | cons a b => exact .cons a (DtA.app b k)
theorem DtA.get {H : Hp} : ∀ {ds : List PyData} {vs : List V} {i : Nat} {d : PyData}, DtA H vs ds → ds[i]? = some d → ∃ v, vs[i]? = some v ∧ Dt H v d
  | [], _, _, _, _, k => by simp at k
  | _ :: _, _, 0, _, h, k => by
    cases h with
    | cons a b => rw [List.getElem?_cons_zero] at k; cases k; exact ⟨_, rfl, a⟩
  | _ :: _, _, i + 1, _, h, k => by
    cases h with
    | cons a b => rw [List.getElem?_cons_succ] at k; rw [List.getElem?_cons_succ]; exact DtA.get b k
theorem DtA.got {H : Hp} {ds : List PyData} {vs : List V} {i : Nat} {v : V} (h : DtA H vs ds) (k : vs[i]? = some v) : ∃ d, ds[i]? = some d ∧ Dt H v d := by
  have hi := (List.getElem?_eq_some_iff.mp k).1
  have hl := h.len
  obtain ⟨u, hu, d⟩ := h.get (List.getElem?_eq_getElem (show i < ds.length by omega))
  rw [k] at hu
  cases hu
  exact ⟨_, List.getElem?_eq_getElem (by omega), d⟩
theorem DtA.take {H : Hp} : ∀ {ds : List PyData} {vs : List V} (n : Nat), DtA H vs ds → DtA H (vs.take n) (ds.take n)
  | _, _, 0, _ => .nil
  | [], _, _ + 1, h => by cases h; exact .nil
  | _ :: _, _, n + 1, h => by cases h with | cons a b => exact .cons a (DtA.take n b)
theorem DtA.drop {H : Hp} : ∀ {ds : List PyData} {vs : List V} (n : Nat), DtA H vs ds → DtA H (vs.drop n) (ds.drop n)
  | _, _, 0, h => h
  | [], _, _ + 1, h => by cases h; exact .nil
  | _ :: _, _, n + 1, h => by cases h with | cons a b => exact DtA.drop n b
theorem DtA.rev {H : Hp} : ∀ {ds : List PyData} {vs : List V}, DtA H vs ds → DtA H vs.reverse ds.reverse
  | [], _, h => by cases h; exact .nil
  | _ :: _, _, h => by
    cases h with
    | cons a b => rw [List.reverse_cons, List.reverse_cons]; exact DtA.app (DtA.rev b) (.cons a .nil)
theorem DtA.ints {H : Hp} : ∀ ns : List Int, DtA H (ns.map V.int) (ns.map PyData.int)
  | [] => .nil
  | n :: r => .cons (.int n) (DtA.ints r)
theorem DtA.intsE {H : Hp} : ∀ {ns : List Int} {vs : List V}, DtA H vs (ns.map PyData.int) → vs = ns.map V.int
  | [], _, h => by cases h; rfl
  | n :: r, _, h => by
    cases h with
    | cons a b => cases a; rw [DtA.intsE b]; rfl
/-- a list of whole numbers -/
theorem Dt.ints {H : Hp} {a : Addr} {ns : List Int} (h : H a = some (.lst (ns.map V.int))) : Dt H (.ref a) (rowD ns) := .lst h (DtA.ints ns)
theorem Dt.intsE {H : Hp} {v : V} {ns : List Int} (h : Dt H v (rowD ns)) : ∃ a, v = .ref a ∧ H a = some (.lst (ns.map V.int)) := by
  unfold rowD at h
  cases h with
  | lst a b => rw [DtA.intsE b] at a; exact ⟨_, rfl, a⟩
theorem Dt.listE {H : Hp} {v : V} {ds : List PyData} (h : Dt H v (.list ds)) : ∃ a xs, v = .ref a ∧ H a = some (.lst xs) ∧ DtA H xs ds := by
  cases h with
  | lst a b => exact ⟨_, _, rfl, a, b⟩
theorem Dt.tupE {H : Hp} {v : V} {ds : List PyData} (h : Dt H v (.tuple ds)) : ∃ a xs, v = .ref a ∧ H a = some (.tup xs) ∧ DtA H xs ds := by
  cases h with
  | tup a b => exact ⟨_, _, rfl, a, b⟩
/-! ### what is owned (and changes) is left out -/
def rs (S : List Addr) (H : Hp) : Hp := fun a => if a ∈ S then none else H a
theorem rs_nil (H : Hp) : rs [] H = H := by funext a; simp [rs]
theorem rs_in {S : List Addr} {H : Hp} {a : Addr} (h : a ∈ S) : rs S H a = none := if_pos h
theorem rs_out {S : List Addr} {H : Hp} {a : Addr} (h : a ∉ S) : rs S H a = H a := if_neg h
theorem rs_some {S : List Addr} {H : Hp} {a : Addr} {o : HO} (h : rs S H a = some o) : a ∉ S ∧ H a = some o := by
  by_cases m : a ∈ S
  · rw [rs_in m] at h; cases h
  · rw [rs_out m] at h; exact ⟨m, h⟩
theorem rs_le {S : List Addr} {H : Hp} : Same (rs S H) H := fun _ _ h => (rs_some h).2
theorem rs_same {S : List Addr} {H H' : Hp} (s : Same H H') : Same (rs S H) (rs S H') := fun b o h => by
  obtain ⟨m, e⟩ := rs_some h
  rw [rs_out m]
  exact s b o e
theorem rs_upd {S : List Addr} {H : Hp} {p : Addr} {o : HO} (h : p ∈ S) : rs S (L2.upd H p o) = rs S H := by
  funext a
  by_cases m : a ∈ S
  · rw [rs_in m, rs_in m]
  · rw [rs_out m, rs_out m, upd_ne (fun e => m (by rw [e]; exact h))]
/-- all of them stand -/
def Has (S : List Addr) (H : Hp) : Prop := ∀ a ∈ S, ∃ o, H a = some o
theorem Has.nil {H : Hp} : Has [] H := fun _ h => nomatch h
theorem Has.same {S : List Addr} {H H' : Hp} (h : Has S H) (s : Same H H') : Has S H' := fun a m => by
  obtain ⟨o, e⟩ := h a m
  exact ⟨o, s a o e⟩
theorem Has.cons {S : List Addr} {H : Hp} {p : Addr} {o : HO} (h : Has S H) (e : H p = some o) : Has (p :: S) H := fun a m => by
  rcases List.mem_cons.mp m with rfl | m
  · exact ⟨o, e⟩
  · exact h a m
theorem Has.upd {S : List Addr} {H : Hp} {p : Addr} {o : HO} (h : Has S H) : Has S (L2.upd H p o) := fun a m => by
  by_cases e : a = p
  · subst e; exact ⟨o, upd_same⟩
  · rw [upd_ne e]; exact h a m
theorem Has.out {S : List Addr} {H : Hp} {p : Addr} (h : Has S H) (n : H p = none) : p ∉ S := fun m => by
  obtain ⟨o, e⟩ := h p m
  rw [n] at e
  cases e
theorem GenAt.has {H : Hp} {g : Addr} {n : Nat} (h : GenAt H g n) : Has [g] H := by
  obtain ⟨x, y, z, e, _⟩ := h
  exact Has.nil.cons e
/-- all but what is owned stays -/
def Sta (S : List Addr) (H H' : Hp) : Prop := Same (rs S H) (rs S H')
theorem Sta.of {S : List Addr} {H H' : Hp} (s : Same H H') : Sta S H H' := rs_same s
theorem Sta.trans {S : List Addr} {H H1 H2 : Hp} (a : Sta S H H1) (b : Sta S H1 H2) : Sta S H H2 := fun c o h => b c o (a c o h)
theorem Sta.at_ {S : List Addr} {H H' : Hp} (s : Sta S H H') {a : Addr} {o : HO} (m : a ∉ S) (h : H a = some o) : H' a = some o := (rs_some (s a o (by rw [rs_out m]; exact h))).2
theorem Sta.upd {S : List Addr} {H : Hp} {p : Addr} {o : HO} (h : p ∈ S) : Sta S H (L2.upd H p o) := fun c u e => by rw [rs_upd h]; exact e
theorem Sta.more {S : List Addr} {H H' : Hp} {p : Addr} (s : Sta S H H') : Sta (p :: S) H H' := fun c o h => by
  obtain ⟨m, e⟩ := rs_some h
  have m2 : c ∉ S := fun z => m (List.mem_cons_of_mem _ z)
  rw [rs_out m]
  exact s.at_ m2 e
theorem But.sta {g : Addr} {H H' : Hp} (b : But g H H') : Sta [g] H H' := fun c o h => by
  obtain ⟨m, e⟩ := rs_some h
  rw [rs_out m]
  exact b c o (fun z => m (by rw [z]; exact List.mem_cons_self)) e
/-- what was there ahead of a new thing does not speak of it -/
theorem under {S : List Addr} {H H' : Hp} {p : Addr} (n : H p = none) (s : Same H H') : Same (rs S H) (rs (p :: S) H') := fun c o h => by
  obtain ⟨m, e⟩ := rs_some h
  rw [rs_out (fun z => by
    rcases List.mem_cons.mp z with rfl | z
    · rw [n] at e; cases e
    · exact m z)]
  exact s c o e
theorem over {S : List Addr} {H : Hp} {p : Addr} : Same (rs (p :: S) H) (rs S H) := fun c o h => by
  obtain ⟨m, e⟩ := rs_some h
  rw [rs_out (fun z => m (List.mem_cons_of_mem _ z))]
  exact e
/-! ### a new list, a new tuple, a sum of lists -/
theorem dt_new {S : List Addr} {H : Hp} {p : Addr} {xs : List V} {ds : List PyData} (hS : Has S H) (n : H p = none) (h : DtA (rs S H) xs ds) : Dt (rs S (upd H p (.lst xs))) (.ref p) (.list ds) :=
  .lst (by rw [rs_out (hS.out n)]; exact upd_same) (h.same (rs_same (same_upd n)))
theorem dt_newT {S : List Addr} {H : Hp} {p : Addr} {xs : List V} {ds : List PyData} (hS : Has S H) (n : H p = none) (h : DtA (rs S H) xs ds) : Dt (rs S (upd H p (.tup xs))) (.ref p) (.tuple ds) :=
  .tup (by rw [rs_out (hS.out n)]; exact upd_same) (h.same (rs_same (same_upd n)))
theorem d_lst {S : List Addr} {H : Hp} {xs : List V} {ds : List PyData} {Q : VK} (hS : Has S H) (h : DtA (rs S H) xs ds) (hz : xs.length ≤ sizeLine) (k : ∀ p H', Same H H' → H p = none → H' p = some (.lst xs) → Dt (rs S H') (.ref p) (.list ds) → Q (.ref p) H') : xs.length ≤ sizeLine ∧ ∀ p, H p = none → Q (.ref p) (upd H p (.lst xs)) :=
  ⟨hz, fun p n => k p _ (same_upd n) n upd_same (dt_new hS n h)⟩
theorem d_tup {S : List Addr} {H : Hp} {xs : List V} {ds : List PyData} {Q : VK} (hS : Has S H) (h : DtA (rs S H) xs ds) (hz : xs.length ≤ sizeLine) (k : ∀ p H', Same H H' → H p = none → H' p = some (.tup xs) → Dt (rs S H') (.ref p) (.tuple ds) → Q (.ref p) H') : xs.length ≤ sizeLine ∧ ∀ p, H p = none → Q (.ref p) (upd H p (.tup xs)) :=
  ⟨hz, fun p n => k p _ (same_upd n) n upd_same (dt_newT hS n h)⟩
theorem d_cat {S : List Addr} {H : Hp} {v w : V} {ds es : List PyData} {Q : VK} (hS : Has S H) (hv : Dt (rs S H) v (.list ds)) (hw : Dt (rs S H) w (.list es)) (hz : ds.length + es.length ≤ sizeLine) (k : ∀ p H', Same H H' → H p = none → Dt (rs S H') (.ref p) (.list (ds ++ es)) → Q (.ref p) H') : rCat v w H Q := by
  obtain ⟨a, xs, rfl, ha, hx⟩ := hv.listE
  obtain ⟨b, ys, rfl, hb, hy⟩ := hw.listE
  exact ⟨a, b, xs, ys, rfl, rfl, (rs_some ha).2, (rs_some hb).2, by rw [hx.len, hy.len]; exact hz, fun p n => k p _ (same_upd n) n (dt_new hS n (hx.app hy))⟩
theorem d_eq {K : PySem.W.Frag} {H : Hp} {v w : V} {d e : PyData} {Q : VK} (hv : Dt H v d) (hw : Dt H w e) (sd : SeqAt.shaped d = true) (se : SeqAt.shaped e = true) (q : Q (.bl (PyData.eqv d e)) H) : rEqD K v w H Q := ⟨d, e, hv.dp, hw.dp, sd, se, q⟩
theorem d_ne {K : PySem.W.Frag} {H : Hp} {v w : V} {d e : PyData} {Q : VK} (hv : Dt H v d) (hw : Dt H w e) (sd : SeqAt.shaped d = true) (se : SeqAt.shaped e = true) (q : Q (.bl (!PyData.eqv d e)) H) : rNeD K v w H Q := ⟨d, e, hv.dp, hw.dp, sd, se, q⟩
/-! ### comprehensions -/
/-- what comes of an item: nothing, or data -/
def Out (S : List Addr) (H : Hp) : Option PyData → Option V → Prop
  | some d, some v => Dt (rs S H) v d
  | none, none => True
  | _, _ => False
def accP (S : List Addr) (H1 : Hp) (D : Addr) (ds : List PyData) (H : Hp) : Prop := Same H1 H ∧ ∃ ys, H D = some (.lst ys) ∧ DtA (rs (D :: S) H) ys ds
theorem acc_step {S : List Addr} {H1 : Hp} {D : Addr} {sel : List (Option PyData)} {i : Nat} {o : Option PyData} {H H4 : Hp} (nD : H1 D = none) (ho : sel[i]? = some o) (hz : sel.length < sizeLine) (h : accP S H1 D ((sel.take i).filterMap id) H) (s4 : Same H H4) :
    ∀ y : Option V, Out (D :: S) H4 o y → match y with
      | some v => ∃ acc, H4 D = some (.lst acc) ∧ acc.length < sizeLine ∧ accP S H1 D ((sel.take (i + 1)).filterMap id) (upd H4 D (.lst (acc ++ [v])))
      | none => accP S H1 D ((sel.take (i + 1)).filterMap id) H4 := by
  obtain ⟨s, ys, hD, hy⟩ := h
  intro y hO
  rw [take_fm ho]
  cases o with
  | none =>
    cases y with
    | none => exact ⟨s.trans s4, ys, s4 _ _ hD, by simpa using hy.same (rs_same s4)⟩
    | some v => exact absurd hO (fun z => z)
  | some d =>
    cases y with
    | none => exact absurd hO (fun z => z)
    | some v =>
      refine ⟨ys, s4 _ _ hD, ?_, same_over nD (s.trans s4), ys ++ [v], upd_same, ?_⟩
      · rw [hy.len]
        exact Nat.lt_of_le_of_lt (fm_len sel i) hz
      · rw [rs_upd List.mem_cons_self]
        exact (hy.same (rs_same s4)).app (.cons hO .nil)
theorem acc_end {S : List Addr} {H1 : Hp} {D : Addr} {ds : List PyData} {H : Hp} (hS : Has S H1) (nD : H1 D = none) (h : accP S H1 D ds H) : Dt (rs S H) (.ref D) (.list ds) := by
  obtain ⟨s, ys, hD, hy⟩ := h
  exact .lst (by rw [rs_out (hS.out nD)]; exact hD) (hy.same over)
theorem lc_dR {lo : Int} {n : Nat} {j : Nat} {tt : TT} {te : TE} {vs : List Nat} {σ : L2.St} {H1 : Hp} {D : Addr} {Qd : Hp → Prop} {S : List Addr} (hS : Has S H1) (sel : List (Option PyData)) (nD : H1 D = none) (hlen : sel.length = n) (hz : n < sizeLine)
    (hw : ∀ x, wipe ((wipe σ vs).set j (some x)) vs = wipe σ vs)
    (hs : ∀ (i : Nat) (o : Option PyData) (H' : Hp), i < n → sel[i]? = some o → Same H1 H' → Has (D :: S) H' → ∀ Qt : Option V → Hp → Prop, (∀ y H'', Same H' H'' → Out (D :: S) H'' o y → Qt y H'') →
      tt ((wipe σ vs).set j (some (.int (lo + (i : Int))))) H' fun b H3 => if b = true then te ((wipe σ vs).set j (some (.int (lo + (i : Int))))) H3 fun y H4 => Qt (some y) H4 else Qt none H3)
    (hd : ∀ H', Same H1 H' → H' D ≠ none → Dt (rs S H') (.ref D) (.list (sel.filterMap id)) → Qd H') :
    ∃ W : Nat → Nat → Hp → Prop, (∃ m, W 0 m (upd H1 D (.lst []))) ∧ ∀ i m H, W i m H →
      ((Itr lo n).stop i H ∧ Qd H) ∨ ((Itr lo n).go i H ∧ ∃ Nx : Hp → Prop, (∀ H', Nx H' → ∃ m', m' < m ∧ W (i + 1) m' H') ∧ ∀ x H', (Itr lo n).yld i H x H' → gName j x (wipe σ vs) H' fun σ2 H2 => wipe σ2 vs = wipe σ vs ∧ tt σ2 H2 fun b H3 =>
        if b = true then te σ2 H3 fun y H4 => ∃ acc, H4 D = some (.lst acc) ∧ acc.length < sizeLine ∧ Nx (upd H4 D (.lst (acc ++ [y]))) else Nx H3) := by
  refine lc_range (lo := lo) (n := n) (fun i H => accP S H1 D ((sel.take i).filterMap id) H) ⟨same_upd nD, [], upd_same, .nil⟩ ?_ ?_
  · rintro i H hi h
    refine ⟨hw _, ?_⟩
    have ho : sel[i]? = some (sel[i]'(by omega)) := List.getElem?_eq_getElem (by omega)
    obtain ⟨s, ys, hD, hy⟩ := id h
    exact hs i _ H hi ho s ((hS.same s).cons hD) (fun o H4 => match o with
      | some y => ∃ acc, H4 D = some (.lst acc) ∧ acc.length < sizeLine ∧ accP S H1 D ((sel.take (i + 1)).filterMap id) (upd H4 D (.lst (acc ++ [y])))
      | none => accP S H1 D ((sel.take (i + 1)).filterMap id) H4) fun y H4 s4 hO => acc_step nD ho (by omega) h s4 y hO
  · rintro H h
    rw [← hlen, List.take_length] at h
    refine hd H h.1 ?_ (acc_end hS nD h)
    obtain ⟨_, ys, hD, _⟩ := h
    rw [hD]
    exact fun z => nomatch z
theorem lc_dL {K : PySem.W.Frag} {a : Addr} {xs : List V} {j : Nat} {tt : TT} {te : TE} {vs : List Nat} {σ : L2.St} {H1 : Hp} {D : Addr} {Qd : Hp → Prop} {S : List Addr} (hS : Has S H1) (sel : List (Option PyData)) (nD : H1 D = none) (hA : SqL K H1 a xs) (hlen : sel.length = xs.length) (hz : xs.length < sizeLine)
    (hw : ∀ x, wipe ((wipe σ vs).set j (some x)) vs = wipe σ vs)
    (hs : ∀ (i : Nat) (x : V) (o : Option PyData) (H' : Hp), xs[i]? = some x → sel[i]? = some o → Same H1 H' → Has (D :: S) H' → ∀ Qt : Option V → Hp → Prop, (∀ y H'', Same H' H'' → Out (D :: S) H'' o y → Qt y H'') →
      tt ((wipe σ vs).set j (some x)) H' fun b H3 => if b = true then te ((wipe σ vs).set j (some x)) H3 fun y H4 => Qt (some y) H4 else Qt none H3)
    (hd : ∀ H', Same H1 H' → H' D ≠ none → Dt (rs S H') (.ref D) (.list (sel.filterMap id)) → Qd H') :
    ∃ W : Nat → Nat → Hp → Prop, (∃ m, W 0 m (upd H1 D (.lst []))) ∧ ∀ i m H, W i m H →
      ((Itl K a).stop i H ∧ Qd H) ∨ ((Itl K a).go i H ∧ ∃ Nx : Hp → Prop, (∀ H', Nx H' → ∃ m', m' < m ∧ W (i + 1) m' H') ∧ ∀ x H', (Itl K a).yld i H x H' → gName j x (wipe σ vs) H' fun σ2 H2 => wipe σ2 vs = wipe σ vs ∧ tt σ2 H2 fun b H3 =>
        if b = true then te σ2 H3 fun y H4 => ∃ acc, H4 D = some (.lst acc) ∧ acc.length < sizeLine ∧ Nx (upd H4 D (.lst (acc ++ [y]))) else Nx H3) := by
  refine lc_list (K := K) (a := a) (xs := xs) (fun i H => accP S H1 D ((sel.take i).filterMap id) H) ⟨same_upd nD, [], upd_same, .nil⟩ (fun i H _ p => p.1.seq hA) ?_ ?_
  · rintro i x H hx h
    refine ⟨hw _, ?_⟩
    have hi := (List.getElem?_eq_some_iff.mp hx).1
    have ho : sel[i]? = some (sel[i]'(by omega)) := List.getElem?_eq_getElem (by omega)
    obtain ⟨s, ys, hD, hy⟩ := id h
    exact hs i x _ H hx ho s ((hS.same s).cons hD) (fun o H4 => match o with
      | some y => ∃ acc, H4 D = some (.lst acc) ∧ acc.length < sizeLine ∧ accP S H1 D ((sel.take (i + 1)).filterMap id) (upd H4 D (.lst (acc ++ [y])))
      | none => accP S H1 D ((sel.take (i + 1)).filterMap id) H4) fun y H4 s4 hO => acc_step nD ho (by omega) h s4 y hO
  · rintro H h
    rw [← hlen, List.take_length] at h
    refine hd H h.1 ?_ (acc_end hS nD h)
    obtain ⟨_, ys, hD, _⟩ := h
    rw [hD]
    exact fun z => nomatch z
/-- maps: each item's data -/
theorem sel_map {α : Type} (l : List α) (f : α → PyData) : (l.map fun x => some (f x)).filterMap id = l.map f := by
  induction l with
  | nil => rfl
  | cons x l ih =>
    show f x :: (l.map fun x => some (f x)).filterMap id = _
    rw [ih]
    rfl
/-- over any walk -/
theorem lc_dW {J : It} {n : Nat} {G : Hp → Prop} {Y : Nat → Hp → V → Hp → Prop} (w : Walk J n G Y) {g : TG} {tt : TT} {te : TE} {vs : List Nat} {σ : L2.St} {H1 : Hp} {D : Addr} {Qd : Hp → Prop} {S : List Addr} (hS : Has S H1) (sel : List (Option PyData)) (nD : H1 D = none) (hlen : sel.length = n) (hz : n < sizeLine)
    (hG : ∀ H', Same H1 H' → G H')
    (hs : ∀ (i : Nat) (o : Option PyData) (H0 : Hp) (x : V) (H' : Hp), i < n → sel[i]? = some o → Same H1 H0 → Has (D :: S) H0 → Y i H0 x H' → ∀ Qt : Option V → Hp → Prop, (∀ y H'', Same H0 H'' → Out (D :: S) H'' o y → Qt y H'') →
      g x (wipe σ vs) H' fun σ2 H2 => wipe σ2 vs = wipe σ vs ∧ tt σ2 H2 fun b H3 => if b = true then te σ2 H3 fun y H4 => Qt (some y) H4 else Qt none H3)
    (hd : ∀ H', Same H1 H' → H' D ≠ none → Dt (rs S H') (.ref D) (.list (sel.filterMap id)) → Qd H') :
    ∃ W : Nat → Nat → Hp → Prop, (∃ m, W 0 m (upd H1 D (.lst []))) ∧ ∀ i m H, W i m H →
      (J.stop i H ∧ Qd H) ∨ (J.go i H ∧ ∃ Nx : Hp → Prop, (∀ H', Nx H' → ∃ m', m' < m ∧ W (i + 1) m' H') ∧ ∀ x H', J.yld i H x H' → g x (wipe σ vs) H' fun σ2 H2 => wipe σ2 vs = wipe σ vs ∧ tt σ2 H2 fun b H3 =>
        if b = true then te σ2 H3 fun y H4 => ∃ acc, H4 D = some (.lst acc) ∧ acc.length < sizeLine ∧ Nx (upd H4 D (.lst (acc ++ [y]))) else Nx H3) := by
  refine lc_it w (fun i H => accP S H1 D ((sel.take i).filterMap id) H) ⟨same_upd nD, [], upd_same, .nil⟩ (fun i H _ p => hG H p.1) ?_ ?_
  · rintro i x H H' hi h y
    have ho : sel[i]? = some (sel[i]'(by omega)) := List.getElem?_eq_getElem (by omega)
    obtain ⟨s, ys, hD, hy⟩ := id h
    exact hs i _ H x H' hi ho s ((hS.same s).cons hD) y (fun o H4 => match o with
      | some y => ∃ acc, H4 D = some (.lst acc) ∧ acc.length < sizeLine ∧ accP S H1 D ((sel.take (i + 1)).filterMap id) (upd H4 D (.lst (acc ++ [y])))
      | none => accP S H1 D ((sel.take (i + 1)).filterMap id) H4) fun y H4 s4 hO => acc_step nD ho (by omega) h s4 y hO
  · rintro H h
    rw [← hlen, List.take_length] at h
    refine hd H h.1 ?_ (acc_end hS nD h)
    obtain ⟨_, ys, hD, _⟩ := h
    rw [hD]
    exact fun z => nomatch z
theorem dt_pairs {K : PySem.W.Frag} {H : Hp} {a : Addr} {ps : List (Int × Int)} (h : Dt H (.ref a) (.list (ps.map pairD))) : PairsAt K H a ps := by
  cases h with
  | lst ha hx =>
    rename_i xs
    have key : ∀ (ps : List (Int × Int)) (xs : List V), DtA H xs (ps.map pairD) → ∃ as : List Addr, xs = as.map V.ref ∧ as.length = ps.length ∧ ∀ (i : Nat) (t : Addr) (p : Int × Int), as[i]? = some t → ps[i]? = some p → SqT K H t [.int p.1, .int p.2] := fun ps => by
      induction ps with
      | nil => intro xs h; cases h; exact ⟨[], rfl, rfl, fun i t p ht => by simp at ht⟩
      | cons p ps ih =>
        intro xs h
        cases h with
        | cons b c =>
          obtain ⟨as, rfl, hl, k⟩ := ih _ c
          obtain ⟨t, ys, rfl, ht, hy⟩ := (show Dt H _ (.tuple [.int p.1, .int p.2]) from b).tupE
          rw [DtA.intsE (ns := [p.1, p.2]) hy] at ht
          refine ⟨t :: as, rfl, by rw [List.length_cons, List.length_cons, hl], fun i u q hu hq => ?_⟩
          cases i with
          | zero =>
            rw [List.getElem?_cons_zero] at hu hq
            cases hu
            cases hq
            exact .inl (.inl ht)
          | succ i =>
            rw [List.getElem?_cons_succ] at hu hq
            exact k i u q hu hq
    obtain ⟨as, rfl, hl, k⟩ := key ps xs hx
    exact ⟨as, .inl (.inl ha), hl, k⟩
end My

namespace My
open PySem PySem.Spec PyProof.Rows L2 Pre
/-! ### texts of bits -/
def sgn (b : Bool) : Nat := if b = true then 49 else 48
def bS (bs : List Bool) : Str := ⟨(bs.map sgn).toArray⟩
theorem bS_len (bs : List Bool) : (bS bs).length = bs.length := by simp [bS, Str.length]
theorem bS_size (bs : List Bool) : (bS bs).cps.size = bs.length := by simp [bS]
theorem bS_app (a b : List Bool) : bS a ++ bS b = bS (a ++ b) := by
  show (⟨(bS a).cps ++ (bS b).cps⟩ : Str) = _
  unfold bS
  rw [List.map_append, List.append_toArray]
theorem sgn_inj {a b : Bool} (h : sgn a = sgn b) : a = b := by cases a <;> cases b <;> first | rfl | (simp [sgn] at h)
theorem bS_inj {a b : List Bool} (h : bS a = bS b) : a = b := by
  have e : a.map sgn = b.map sgn := by
    have := congrArg (fun z : Str => z.cps.toList) h
    simpa [bS] using this
  induction a generalizing b with
  | nil => cases b with
    | nil => rfl
    | cons _ _ => simp at e
  | cons x r ih => cases b with
    | nil => simp at e
    | cons y q =>
      rw [List.map_cons, List.map_cons, List.cons.injEq] at e
      have hr : bS r = bS q := by
        have z : r.map sgn = q.map sgn := e.2
        unfold bS
        rw [z]
      rw [sgn_inj e.1, ih hr e.2]
theorem bS_at {bs : List Bool} {i c : Nat} (h : (bS bs).cps[i]? = some c) : ∃ b, bs[i]? = some b ∧ (⟨#[c]⟩ : Str) = bS [b] := by
  have e : (bs.map sgn)[i]? = some c := by
    unfold bS at h
    rw [← h]
    simp
  rw [List.getElem?_map] at e
  obtain ⟨b, hb, rfl⟩ := Option.map_eq_some_iff.mp e
  exact ⟨b, hb, rfl⟩
theorem bS_atI {bs : List Bool} {i : Nat} {b : Bool} (h : bs[i]? = some b) : atI (bS bs).cps.toList (i : Int) = some (sgn b) := by
  refine atI_nat ?_
  unfold bS
  simp [h]
theorem bS_one (b : Bool) : (⟨#[sgn b]⟩ : Str) = bS [b] := rfl
theorem str_one : (("1" : String) : Str) = bS [true] := by decide +kernel
theorem str_nil : (("" : String) : Str) = bS [] := by decide +kernel
theorem str_zero : (("0" : String) : Str) = bS [false] := by decide +kernel
theorem dec_bS (a b : List Bool) : decide (V.str (bS a) = V.str (bS b)) = decide (a = b) := by
  by_cases h : a = b
  · subst h; simp
  · rw [decide_eq_false h, decide_eq_false]
    exact fun z => h (bS_inj (V.str.inj z))
theorem one_sign (b : Bool) : decide (V.str (bS [b]) = V.str (("1" : String) : Str)) = b := by
  rw [str_one, dec_bS]
  cases b <;> rfl
theorem reps_list (c : List Nat) : ∀ (k : Nat) (acc : List Nat), (List.replicate k c.toArray).foldl (· ++ ·) acc.toArray = (acc ++ (List.replicate k c).flatten).toArray
  | 0, acc => by simp
  | k + 1, acc => by
    rw [List.replicate_succ, List.foldl_cons, List.append_toArray, reps_list c k, List.replicate_succ, List.flatten_cons, List.append_assoc]
theorem bS_mul (k : Nat) : Txt.mul (("0" : String) : Str) (k : Int) = bS (List.replicate k false) := by
  rw [str_zero]
  unfold Txt.mul
  by_cases h0 : (k : Int) < 1
  · rw [if_pos h0, show k = 0 by omega]
    rfl
  · rw [if_neg h0]
    by_cases h1 : k = 1
    · subst h1
      rfl
    · rw [if_neg (by
        rw [Bool.or_eq_true, beq_iff_eq, beq_iff_eq, bS_len]
        simp
        omega), Int.toNat_natCast]
      have := reps_list [48] k []
      unfold bS
      rw [List.map_replicate]
      show (⟨(List.replicate k ([48] : List Nat).toArray).foldl (· ++ ·) ([] : List Nat).toArray⟩ : Str) = _
      rw [this, List.nil_append]
      have e : (List.replicate k [48]).flatten = List.replicate k 48 := by
        clear this h0 h1
        induction k with
        | zero => rfl
        | succ k ih => rw [List.replicate_succ, List.flatten_cons, ih, List.replicate_succ]; rfl
      rw [e]
      rfl
theorem join_bits (bs : List Bool) : Txt.join (("" : String) : Str) (bs.map fun b => bS [b]) = bS bs := by
  rw [TL.join_eq]
  have e0 : TL.tl ((("" : String) : Str)) = [] := by rw [str_nil]; rfl
  have key : ∀ bs : List Bool, TL.joinL [] ((bs.map fun b => bS [b]).map TL.tl) = bs.map sgn := by
    intro bs
    induction bs with
    | nil => rfl
    | cons b r ih =>
      cases r with
      | nil => rfl
      | cons c q =>
        show TL.tl (bS [b]) ++ ([] ++ TL.joinL [] (((c :: q).map fun b => bS [b]).map TL.tl)) = _
        rw [ih]
        rfl
  have h := TL.tl_join (("" : String) : Str) (bs.map fun b => bS [b])
  rw [e0, key] at h
  unfold bS
  rw [← h]
  exact (TL.mk_tl _).symm
section
variable {X : Cx}
def rRepS : R2 := fun x y H Q => ∃ (z : Str) (n : Nat), x = .str z ∧ y = .int n ∧ z.length ≤ 100 ∧ n ≤ 10000 ∧ Q (.str (Txt.mul z n)) H
theorem op_rep_str : OpR X (binaryOp .Mult) rRepS := by
  intro pins s σ H x y v u Q I rx ry h
  obtain ⟨z, n, rfl, rfl, hz, hn, q⟩ := h
  obtain ⟨t, rfl⟩ := rx
  obtain ⟨t', rfl⟩ := ry
  exact PySem.SB.mul (mulOk_of 100 10000 hz (by omega) (by omega) (by decide) (by decide)) fun t' k => ⟨.str (Txt.mul z n), H, I.tok _, ⟨_, rfl⟩, q⟩
end
end My

set_option linter.all false
set_option linter.unusedSectionVars false
namespace My
/-! ### rests of rows by a check: numbers stand for sums of powers over two -/
def red (w W x : Nat) : Nat := if x >>> w = 1 then x ^^^ W else x
def remN (w W : Nat) : Nat → Nat → Nat
  | 0, _ => 0
  | k + 1, n => red w W (2 * remN w W k (n / 2) + n % 2)
def rem (w W n : Nat) : Nat := remN w W (n.log2 + 1) n
def sh (w W a : Nat) : Nat := red w W (2 * a)
structure Ck (w W : Nat) : Prop where
  pos : 1 ≤ w
  lo : 2 ^ w < W
  hi : W < 2 ^ (w + 1)
  odd : W % 2 = 1
theorem red_zero (w W : Nat) : red w W 0 = 0 := by simp [red]
theorem shr1 {w x : Nat} (h : x < 2 ^ (w + 1)) : x >>> w = 1 ↔ 2 ^ w ≤ x := by
  rw [Nat.shiftRight_eq_div_pow]
  have hp : 0 < 2 ^ w := Nat.pow_pos (by omega)
  rw [Nat.pow_succ] at h
  constructor
  · intro e
    by_cases c : x < 2 ^ w
    · rw [Nat.div_eq_of_lt c] at e
      omega
    · omega
  · intro c
    have h1 : 1 ≤ x / 2 ^ w := (Nat.le_div_iff_mul_le hp).mpr (by omega)
    have h2 : x / 2 ^ w < 2 := (Nat.div_lt_iff_lt_mul hp).mpr (by omega)
    omega
theorem bit_top {w x : Nat} (h : x < 2 ^ (w + 1)) : x.testBit w = decide (2 ^ w ≤ x) := by
  have e := Nat.testBit_eq_decide_div_mod_eq (x := x) (i := w)
  rw [e]
  have hp : 0 < 2 ^ w := Nat.pow_pos (by omega)
  rw [Nat.pow_succ] at h
  by_cases c : 2 ^ w ≤ x
  · have h1 : 1 ≤ x / 2 ^ w := (Nat.le_div_iff_mul_le hp).mpr (by omega)
    have h2 : x / 2 ^ w < 2 := (Nat.div_lt_iff_lt_mul hp).mpr (by omega)
    have h3 : x / 2 ^ w = 1 := by omega
    simp [h3, c]
  · have h3 : x / 2 ^ w = 0 := Nat.div_eq_of_lt (by omega)
    simp [h3, c]
theorem xor_low {w x W : Nat} (hx : x < 2 ^ (w + 1)) (hW : W < 2 ^ (w + 1)) (h1 : 2 ^ w ≤ x) (h2 : 2 ^ w ≤ W) : x ^^^ W < 2 ^ w := by
  refine Nat.lt_pow_two_of_testBit _ fun i hi => ?_
  rw [Nat.testBit_xor]
  rcases Nat.lt_or_ge w i with c | c
  · have e : (2 : Nat) ^ (w + 1) ≤ 2 ^ i := Nat.pow_le_pow_right (by omega) c
    rw [Nat.testBit_lt_two_pow (by omega), Nat.testBit_lt_two_pow (by omega)]
    rfl
  · have e : i = w := by omega
    subst e
    rw [bit_top hx, bit_top hW, decide_eq_true h1, decide_eq_true h2]
    rfl
theorem xor_high {w x y : Nat} (hx : x < 2 ^ w) (hy : y < 2 ^ (w + 1)) (h2 : 2 ^ w ≤ y) : 2 ^ w ≤ x ^^^ y ∧ x ^^^ y < 2 ^ (w + 1) := by
  have hp : 2 ^ (w + 1) = 2 ^ w * 2 := Nat.pow_succ ..
  have hl : x ^^^ y < 2 ^ (w + 1) := Nat.xor_lt_two_pow (by omega) hy
  refine ⟨?_, hl⟩
  have e := bit_top hl
  rw [Nat.testBit_xor, bit_top (show x < 2 ^ (w + 1) by omega), bit_top hy, decide_eq_true h2, decide_eq_false (show ¬ 2 ^ w ≤ x by omega)] at e
  exact of_decide_eq_true e.symm
section
variable {w W : Nat} (C : Ck w W)
include C
theorem red_lt {x : Nat} (h : x < 2 ^ (w + 1)) : red w W x < 2 ^ w := by
  unfold red
  have s := shr1 h
  by_cases c : 2 ^ w ≤ x
  · rw [if_pos (s.mpr c)]
    exact xor_low h C.hi c (Nat.le_of_lt C.lo)
  · rw [if_neg (fun z => c (s.mp z))]
    omega
theorem red_id {x : Nat} (h : x < 2 ^ w) : red w W x = x := by
  unfold red
  have hp : 2 ^ (w + 1) = 2 ^ w * 2 := Nat.pow_succ ..
  rw [if_neg fun z => by
    have := (shr1 (w := w) (x := x) (by omega)).mp z
    omega]
theorem red_hi {x : Nat} (h : x < 2 ^ (w + 1)) (c : 2 ^ w ≤ x) : red w W x = x ^^^ W := by
  unfold red
  rw [if_pos ((shr1 h).mpr c)]
theorem red_xor {x y : Nat} (hx : x < 2 ^ (w + 1)) (hy : y < 2 ^ (w + 1)) : red w W (x ^^^ y) = red w W x ^^^ red w W y := by
  have hp : 2 ^ (w + 1) = 2 ^ w * 2 := Nat.pow_succ ..
  by_cases c : 2 ^ w ≤ x <;> by_cases d : 2 ^ w ≤ y
  · rw [red_hi C hx c, red_hi C hy d, red_id C (xor_low hx hy c d)]
    rw [Nat.xor_assoc, Nat.xor_comm y W, ← Nat.xor_assoc W W y, Nat.xor_self, Nat.zero_xor]
  · have hh := xor_high (show y < 2 ^ w by omega) hx c
    rw [red_hi C hx c, red_id C (show y < 2 ^ w by omega), Nat.xor_comm x y, red_hi C hh.2 hh.1]
    rw [Nat.xor_comm y x, Nat.xor_assoc, Nat.xor_assoc, Nat.xor_comm y W]
  · have hh := xor_high (show x < 2 ^ w by omega) hy d
    rw [red_hi C hy d, red_id C (show x < 2 ^ w by omega), red_hi C hh.2 hh.1, Nat.xor_assoc]
  · rw [red_id C (show x < 2 ^ w by omega), red_id C (show y < 2 ^ w by omega), red_id C (Nat.xor_lt_two_pow (show x < 2 ^ w by omega) (show y < 2 ^ w by omega))]
omit C in
theorem remN_stab : ∀ (k j n : Nat), n < 2 ^ k → n < 2 ^ j → remN w W k n = remN w W j n
  | 0, 0, _, _, _ => rfl
  | 0, j + 1, n, h, _ => by
    have e : n = 0 := by omega
    subst e
    have : ∀ j, remN w W j 0 = 0 := fun j => by
      induction j with
      | zero => rfl
      | succ j ih => rw [remN, Nat.zero_div, ih]; exact red_zero ..
    rw [this, this]
  | k + 1, 0, n, _, h => by
    have e : n = 0 := by omega
    subst e
    have : ∀ j, remN w W j 0 = 0 := fun j => by
      induction j with
      | zero => rfl
      | succ j ih => rw [remN, Nat.zero_div, ih]; exact red_zero ..
    rw [this, this]
  | k + 1, j + 1, n, h1, h2 => by
    rw [Nat.pow_succ] at h1 h2
    rw [remN, remN, remN_stab k j (n / 2) (by omega) (by omega)]
omit C in
theorem rem_fuel {k n : Nat} (h : n < 2 ^ k) : rem w W n = remN w W k n := remN_stab _ _ _ Nat.lt_log2_self h
omit C in
theorem rem_zero : rem w W 0 = 0 := by rw [rem_fuel (k := 0) (by omega)]; rfl
omit C in
theorem rem_step (n : Nat) : rem w W n = red w W (2 * rem w W (n / 2) + n % 2) := by
  have h : n < 2 ^ (n.log2 + 1) := Nat.lt_log2_self
  rw [rem_fuel (k := n.log2) (n := n / 2) (by rw [Nat.pow_succ] at h; omega)]
  rfl
omit C in
theorem rem_bit (m b : Nat) (hb : b < 2) : rem w W (2 * m + b) = red w W (2 * rem w W m + b) := by
  rw [rem_step, show (2 * m + b) / 2 = m by omega, show (2 * m + b) % 2 = b by omega]
theorem rem_lt (n : Nat) : rem w W n < 2 ^ w := by
  induction n using Nat.strongRecOn with
  | _ n ih =>
    by_cases h : n = 0
    · subst h
      rw [rem_zero]
      exact Nat.pow_pos (by omega)
    · rw [rem_step]
      refine red_lt C ?_
      have := ih (n / 2) (by omega)
      rw [Nat.pow_succ]
      omega
omit C in
theorem xor_bit (a b p q : Nat) (hp : p < 2) (hq : q < 2) : (2 * a + p) ^^^ (2 * b + q) = 2 * (a ^^^ b) + (p ^^^ q) := by
  have hpq : p ^^^ q < 2 := Nat.xor_lt_two_pow (n := 1) hp hq
  have e1 : ((2 * a + p) ^^^ (2 * b + q)) / 2 = a ^^^ b := by rw [Nat.xor_div_two, show (2 * a + p) / 2 = a by omega, show (2 * b + q) / 2 = b by omega]
  have e2 : ((2 * a + p) ^^^ (2 * b + q)) % 2 = p ^^^ q := by
    have h := Nat.testBit_xor (2 * a + p) (2 * b + q) 0
    rw [Nat.testBit_zero, Nat.testBit_zero, Nat.testBit_zero] at h
    rw [show (2 * a + p) % 2 = p by omega, show (2 * b + q) % 2 = q by omega] at h
    have c1 : p = 0 ∨ p = 1 := by omega
    have c2 : q = 0 ∨ q = 1 := by omega
    generalize (2 * a + p) ^^^ (2 * b + q) = N at h ⊢
    have z : (0 : Nat) ^^^ 0 = 0 := rfl
    have o : (1 : Nat) ^^^ 1 = 0 := rfl
    have zo : (0 : Nat) ^^^ 1 = 1 := rfl
    have oz : (1 : Nat) ^^^ 0 = 1 := rfl
    rcases c1 with e3 | e3 <;> rcases c2 with e4 | e4 <;> rw [e3, e4] at h ⊢ <;> simp only [z, o, zo, oz] <;> simp at h <;> omega
  omega
theorem rem_xor : ∀ n m : Nat, rem w W (n ^^^ m) = rem w W n ^^^ rem w W m := by
  intro n
  induction n using Nat.strongRecOn with
  | _ n ih =>
    intro m
    by_cases h : n = 0
    · subst h
      rw [Nat.zero_xor, rem_zero, Nat.zero_xor]
    · have e := xor_bit (n / 2) (m / 2) (n % 2) (m % 2) (by omega) (by omega)
      rw [show 2 * (n / 2) + n % 2 = n by omega, show 2 * (m / 2) + m % 2 = m by omega] at e
      have hb : n % 2 ^^^ m % 2 < 2 := Nat.xor_lt_two_pow (n := 1) (by omega) (by omega)
      rw [e, rem_bit _ _ hb, ih _ (by omega), rem_step n, rem_step m]
      have l1 := rem_lt C (n / 2)
      have l2 := rem_lt C (m / 2)
      have hp : 2 ^ (w + 1) = 2 ^ w * 2 := Nat.pow_succ ..
      rw [← red_xor C (by omega) (by omega), xor_bit _ _ _ _ (by omega) (by omega)]
theorem rem_small : ∀ n : Nat, n < 2 ^ w → rem w W n = n := by
  intro n
  induction n using Nat.strongRecOn with
  | _ n ih =>
    intro hn
    by_cases h : n = 0
    · subst h
      exact rem_zero
    · rw [rem_step, ih _ (by omega) (by omega), show 2 * (n / 2) + n % 2 = n by omega]
      exact red_id C hn
theorem rem_self : rem w W W = 0 := by
  have h := C.hi
  have hl := C.lo
  have hp : 2 ^ (w + 1) = 2 ^ w * 2 := Nat.pow_succ ..
  rw [rem_step, rem_small C _ (by omega), show 2 * (W / 2) + W % 2 = W by omega, red_hi C h (by omega), Nat.xor_self]
omit C in
theorem rem_dbl (n : Nat) : rem w W (2 * n) = sh w W (rem w W n) := rem_bit n 0 (by omega)
theorem rem_shl (n k : Nat) (h : rem w W n = 0) : rem w W (n <<< k) = 0 := by
  induction k with
  | zero => exact h
  | succ k ih =>
    rw [Nat.shiftLeft_eq, Nat.pow_succ, ← Nat.mul_assoc, Nat.mul_comm, ← Nat.shiftLeft_eq, rem_dbl, ih]
    exact red_zero ..
theorem sh_lt {a : Nat} (h : a < 2 ^ w) : sh w W a < 2 ^ w := red_lt C (by rw [Nat.pow_succ]; omega)
theorem sh_xor {a b : Nat} (ha : a < 2 ^ w) (hb : b < 2 ^ w) : sh w W (a ^^^ b) = sh w W a ^^^ sh w W b := by
  have hp : 2 ^ (w + 1) = 2 ^ w * 2 := Nat.pow_succ ..
  unfold sh
  rw [← red_xor C (by omega) (by omega)]
  have e := xor_bit a b 0 0 (by omega) (by omega)
  simp only [Nat.add_zero, Nat.xor_self] at e
  rw [e]
theorem sh_zero {a : Nat} (ha : a < 2 ^ w) (h : sh w W a = 0) : a = 0 := by
  have hp : 2 ^ (w + 1) = 2 ^ w * 2 := Nat.pow_succ ..
  unfold sh at h
  by_cases c : 2 ^ w ≤ 2 * a
  · rw [red_hi C (by omega) c] at h
    have e : 2 * a = W := by
      have : (2 * a ^^^ W) ^^^ W = 0 ^^^ W := by rw [h]
      rw [Nat.xor_assoc, Nat.xor_self, Nat.xor_zero, Nat.zero_xor] at this
      exact this
    have := C.odd
    omega
  · rw [red_id C (by omega)] at h
    omega
omit C in
theorem xor_eq0 {a b : Nat} : a ^^^ b = 0 ↔ a = b := by
  constructor
  · intro h
    have : (a ^^^ b) ^^^ b = 0 ^^^ b := by rw [h]
    rw [Nat.xor_assoc, Nat.xor_self, Nat.xor_zero, Nat.zero_xor] at this
    exact this
  · rintro rfl
    exact Nat.xor_self _
theorem sh_inj {a b : Nat} (ha : a < 2 ^ w) (hb : b < 2 ^ w) (h : sh w W a = sh w W b) : a = b := by
  have e := sh_xor C ha hb
  rw [h, Nat.xor_self] at e
  exact xor_eq0.mp (sh_zero C (Nat.xor_lt_two_pow ha hb) e)
/-- what is moved by places alone -/
theorem rem_moved (n k : Nat) (h : rem w W (n <<< k) = 0) : rem w W n = 0 := by
  induction k with
  | zero => exact h
  | succ k ih =>
    refine ih ?_
    rw [Nat.shiftLeft_eq, Nat.pow_succ, ← Nat.mul_assoc, Nat.mul_comm, ← Nat.shiftLeft_eq, rem_dbl] at h
    exact sh_zero C (rem_lt C _) h
/-! ### powers -/
omit C in
/-- the rest of a power of x -/
def pw (w W i : Nat) : Nat := rem w W (2 ^ i)
theorem pw_zero : pw w W 0 = 1 := rem_small C 1 (by
  have := C.pos
  have : 2 ^ 1 ≤ 2 ^ w := Nat.pow_le_pow_right (by omega) this
  omega)
omit C in
theorem pw_succ (i : Nat) : pw w W (i + 1) = sh w W (pw w W i) := by
  unfold pw
  rw [Nat.pow_succ, Nat.mul_comm, rem_dbl]
theorem pw_lt (i : Nat) : pw w W i < 2 ^ w := rem_lt C _
theorem pw_ne (i : Nat) : pw w W i ≠ 0 := by
  induction i with
  | zero => rw [pw_zero C]; omega
  | succ i ih => exact fun h => ih (sh_zero C (pw_lt C i) (by rw [← pw_succ]; exact h))
theorem pw_back {a b k : Nat} (h : pw w W (a + k) = pw w W (b + k)) : pw w W a = pw w W b := by
  induction k with
  | zero => exact h
  | succ k ih => exact ih (sh_inj C (pw_lt C _) (pw_lt C _) (by rw [← pw_succ, ← pw_succ]; exact h))
theorem pw_again : ∃ d, 1 ≤ d ∧ d < 2 ^ w ∧ pw w W d = 1 := by
  have hp : 0 < 2 ^ w := Nat.pow_pos (by omega)
  apply Classical.byContradiction
  intro no
  have inj : ∀ i j, i < j → j < 2 ^ w → pw w W i ≠ pw w W j := fun i j hij hj e => by
    refine no ⟨j - i, by omega, by omega, ?_⟩
    have := pw_back C (a := 0) (b := j - i) (k := i) (by rw [Nat.zero_add, show j - i + i = j by omega]; exact e)
    rw [← this, pw_zero C]
  have nd : ((List.range (2 ^ w)).map (pw w W)).Nodup := by
    refine List.pairwise_map.mpr (List.pairwise_lt_range.imp_of_mem fun {a b} ha hb hab => ?_)
    exact inj a b hab (List.mem_range.mp hb)
  have sub : ((List.range (2 ^ w)).map (pw w W)) ⊆ (List.range (2 ^ w)).erase 0 := fun x hx => by
    obtain ⟨i, _, rfl⟩ := List.mem_map.mp hx
    exact (List.mem_erase_of_ne (pw_ne C i)).mpr (List.mem_range.mpr (pw_lt C i))
  have h := nd.length_le_of_subset sub
  rw [List.length_map, List.length_erase_of_mem (List.mem_range.mpr hp), List.length_range] at h
  omega
/-! ### rows of bits -/
omit C in
def numB (bs : List Bool) : Nat := bs.foldl (fun n b => 2 * n + b.toNat) 0
omit C in
theorem foldB (bs : List Bool) (n : Nat) : bs.foldl (fun n b => 2 * n + b.toNat) n = n * 2 ^ bs.length + numB bs := by
  unfold numB
  induction bs generalizing n with
  | nil => simp
  | cons b r ih =>
    rw [List.foldl_cons, List.foldl_cons, ih, ih (2 * 0 + b.toNat), List.length_cons, Nat.pow_succ, Nat.mul_zero, Nat.zero_add, Nat.add_mul, ← Nat.add_assoc]
    congr 1
    congr 1
    rw [Nat.mul_comm 2 n, Nat.mul_assoc, Nat.mul_comm 2]
omit C in
theorem numB_app (a b : List Bool) : numB (a ++ b) = numB a * 2 ^ b.length + numB b := by
  unfold numB
  rw [List.foldl_append, foldB]
  rfl

omit C in
theorem numB_snoc (a : List Bool) (b : Bool) : numB (a ++ [b]) = 2 * numB a + b.toNat := by
  rw [numB_app]
  show numB a * 2 ^ 1 + (2 * 0 + b.toNat) = _
  omega
omit C in
theorem foldB_lt (a : List Bool) : ∀ n : Nat, a.foldl (fun n b => 2 * n + b.toNat) n < (n + 1) * 2 ^ a.length := by
  induction a with
  | nil => intro n; simp
  | cons b r ih =>
    intro n
    rw [List.foldl_cons, List.length_cons, Nat.pow_succ]
    refine Nat.lt_of_lt_of_le (ih _) ?_
    have hb : b.toNat ≤ 1 := Bool.toNat_le b
    have : (2 * n + b.toNat + 1) * 2 ^ r.length ≤ (2 * (n + 1)) * 2 ^ r.length := Nat.mul_le_mul_right _ (by omega)
    refine Nat.le_trans this ?_
    rw [Nat.mul_comm 2 (n + 1), Nat.mul_assoc, Nat.mul_comm 2]
    exact Nat.le_refl _
omit C in
theorem numB_lt (a : List Bool) : numB a < 2 ^ a.length := by
  have := foldB_lt a 0
  rw [Nat.zero_add, Nat.one_mul] at this
  exact this
omit C in
/-- the rest of a row, sign by sign -/
def restB (w W : Nat) (bs : List Bool) : Nat := bs.foldl (fun f b => red w W (2 * f + b.toNat)) 0
omit C in
theorem restB_snoc (a : List Bool) (b : Bool) : restB w W (a ++ [b]) = red w W (2 * restB w W a + b.toNat) := by
  unfold restB
  rw [List.foldl_append]
  rfl
omit C in
theorem foldR (bs : List Bool) (n : Nat) : bs.foldl (fun f b => red w W (2 * f + b.toNat)) (rem w W n) = rem w W (bs.foldl (fun n b => 2 * n + b.toNat) n) := by
  induction bs generalizing n with
  | nil => rfl
  | cons b r ih =>
    rw [List.foldl_cons, List.foldl_cons, ← ih, rem_bit]
    cases b <;> decide
omit C in
theorem restB_eq (bs : List Bool) : restB w W bs = rem w W (numB bs) := by
  have := foldR (w := w) (W := W) bs 0
  rw [rem_zero] at this
  exact this
omit C in
/-- the bits of a number, so many, the greatest first -/
def bitsB (n : Nat) : Nat → List Bool
  | 0 => []
  | k + 1 => n.testBit k :: bitsB n k
omit C in
theorem bitsB_len (n : Nat) : ∀ k, (bitsB n k).length = k
  | 0 => rfl
  | k + 1 => by rw [bitsB, List.length_cons, bitsB_len n k]
omit C in
theorem numB_bits (n : Nat) : ∀ k, numB (bitsB n k) = n % 2 ^ k
  | 0 => by rw [Nat.pow_zero, Nat.mod_one]; rfl
  | k + 1 => by
    have e : numB (bitsB n (k + 1)) = (n.testBit k).toNat * 2 ^ (bitsB n k).length + numB (bitsB n k) := by
      show (bitsB n k).foldl _ (2 * 0 + (n.testBit k).toNat) = _
      rw [foldB, Nat.mul_zero, Nat.zero_add]
    rw [e, bitsB_len, numB_bits n k, Nat.toNat_testBit, Nat.pow_succ]
    have h := Nat.mod_mul (x := n) (a := 2 ^ k) (b := 2)
    rw [h, Nat.mul_comm]
    omega
omit C in
theorem bitsB_get (n : Nat) : ∀ (k i : Nat), i < k → (bitsB n k)[i]? = some (n.testBit (k - 1 - i))
  | 0, _, h => absurd h (by omega)
  | k + 1, 0, _ => rfl
  | k + 1, i + 1, h => by
    rw [bitsB, List.getElem?_cons_succ, bitsB_get n k i (by omega)]
    rw [show k + 1 - 1 - (i + 1) = k - 1 - i by omega]
omit C in
theorem bitsB_num : ∀ (bs : List Bool), bitsB (numB bs) bs.length = bs := by
  intro bs
  have hl := bitsB_len (numB bs) bs.length
  have hn := numB_bits (numB bs) bs.length
  rw [Nat.mod_eq_of_lt (numB_lt bs)] at hn
  generalize bitsB (numB bs) bs.length = cs at hl hn
  induction bs generalizing cs with
  | nil => exact List.length_eq_zero_iff.mp hl
  | cons b r ih =>
    cases cs with
    | nil => simp at hl
    | cons c q =>
      have e : ∀ (x : Bool) (l : List Bool), numB (x :: l) = x.toNat * 2 ^ l.length + numB l := fun x l => by
        show l.foldl _ (2 * 0 + x.toNat) = _
        rw [foldB, Nat.mul_zero, Nat.zero_add]
      have hl2 : q.length = r.length := by simpa using hl
      rw [e, e, hl2] at hn
      have h1 := numB_lt q
      have h2 := numB_lt r
      rw [hl2] at h1
      cases b <;> cases c <;> simp at hn
      · rw [ih _ hl2 hn]
      · omega
      · omega
      · rw [ih _ hl2 (by omega)]
end
end My

namespace My
section
variable {w W : Nat} (C : Ck w W)
/-! ### the order, threes, fours -/
structure IsOrder (w W d : Nat) : Prop where
  pos : 1 ≤ d
  at_ : pw w W d = 1
  ne : ∀ i, 0 < i → i < d → pw w W i ≠ 1
theorem order_uniq {d e : Nat} (a : IsOrder w W d) (b : IsOrder w W e) : d = e := by
  rcases Nat.lt_trichotomy d e with h | h | h
  · exact absurd a.at_ (b.ne d a.pos h)
  · exact h
  · exact absurd b.at_ (a.ne e b.pos h)
def Three (w W p : Nat) : Prop := ∃ q, 0 < q ∧ q < p ∧ pw w W q = pw w W p ^^^ 1
def Four (w W p : Nat) : Prop := ∃ o q, 0 < o ∧ o < q ∧ q < p ∧ pw w W o ^^^ pw w W q = pw w W p ^^^ 1
/-- the first place that has a property, the bound if there is none -/
structure IsFirst (P : Nat → Prop) (n t : Nat) : Prop where
  le : t ≤ n
  ne : ∀ p, p < t → ¬ P p
  at_ : t < n → P t
theorem first_uniq {P : Nat → Prop} {n s t : Nat} (a : IsFirst P n s) (b : IsFirst P n t) : s = t := by
  rcases Nat.lt_trichotomy s t with h | h | h
  · exact absurd (a.at_ (by have := b.le; omega)) (b.ne s h)
  · exact h
  · exact absurd (b.at_ (by have := a.le; omega)) (a.ne t h)
def IsLongest (w W few L : Nat) : Prop := (few = 3 ∧ IsOrder w W L) ∨ (few = 4 ∧ ∃ d, IsOrder w W d ∧ IsFirst (Three w W) d L) ∨ (few = 5 ∧ ∃ d t, IsOrder w W d ∧ IsFirst (Three w W) d t ∧ IsFirst (Four w W) t L)
theorem longest_uniq {few s t : Nat} (a : IsLongest w W few s) (b : IsLongest w W few t) : s = t := by
  rcases a with ⟨e, a⟩ | ⟨e, d, a, a1⟩ | ⟨e, d, u, a, a1, a2⟩ <;> rcases b with ⟨f, b⟩ | ⟨f, d', b, b1⟩ | ⟨f, d', u', b, b1, b2⟩ <;> first | omega | skip
  · exact order_uniq a b
  · cases order_uniq a b; exact first_uniq a1 b1
  · cases order_uniq a b
    cases first_uniq a1 b1
    exact first_uniq a2 b2
include C
theorem back2 {a b k : Nat} (h : pw w W (a + k) ^^^ pw w W (b + k) = 0) : pw w W a ^^^ pw w W b = 0 := xor_eq0.mpr (pw_back C (xor_eq0.mp h))
theorem back3 {a b c k : Nat} (h : pw w W (a + k) ^^^ pw w W (b + k) ^^^ pw w W (c + k) = 0) : pw w W a ^^^ pw w W b ^^^ pw w W c = 0 := by
  induction k with
  | zero => exact h
  | succ k ih =>
    refine ih (sh_zero C (Nat.xor_lt_two_pow (Nat.xor_lt_two_pow (pw_lt C _) (pw_lt C _)) (pw_lt C _)) ?_)
    rw [sh_xor C (Nat.xor_lt_two_pow (pw_lt C _) (pw_lt C _)) (pw_lt C _), sh_xor C (pw_lt C _) (pw_lt C _), ← pw_succ, ← pw_succ, ← pw_succ]
    exact h
theorem back4 {a b c e k : Nat} (h : pw w W (a + k) ^^^ pw w W (b + k) ^^^ pw w W (c + k) ^^^ pw w W (e + k) = 0) : pw w W a ^^^ pw w W b ^^^ pw w W c ^^^ pw w W e = 0 := by
  induction k with
  | zero => exact h
  | succ k ih =>
    have x2 := fun i j => Nat.xor_lt_two_pow (pw_lt C i) (pw_lt C j)
    have x3 := fun i j l => Nat.xor_lt_two_pow (x2 i j) (pw_lt C l)
    refine ih (sh_zero C (Nat.xor_lt_two_pow (x3 _ _ _) (pw_lt C _)) ?_)
    rw [sh_xor C (x3 _ _ _) (pw_lt C _), sh_xor C (x2 _ _) (pw_lt C _), sh_xor C (pw_lt C _) (pw_lt C _), ← pw_succ, ← pw_succ, ← pw_succ, ← pw_succ]
    exact h
theorem order_ex : ∃ d, IsOrder w W d ∧ d < 2 ^ w := by
  obtain ⟨d, h1, h2, h3⟩ := pw_again C
  have key : ∀ n, 1 ≤ n → n ≤ d → pw w W n = 1 → ∃ e, IsOrder w W e ∧ e ≤ n := by
    intro n
    induction n using Nat.strongRecOn with
    | _ n ih =>
      intro a1 a2 a3
      by_cases c : ∃ i, 0 < i ∧ i < n ∧ pw w W i = 1
      · obtain ⟨i, c1, c2, c3⟩ := c
        obtain ⟨e, he, hl⟩ := ih i c2 c1 (by omega) c3
        exact ⟨e, he, by omega⟩
      · exact ⟨n, ⟨a1, a3, fun i c1 c2 c3 => c ⟨i, c1, c2, c3⟩⟩, Nat.le_refl _⟩
  obtain ⟨e, he, hl⟩ := key d h1 (Nat.le_refl _) h3
  exact ⟨e, he, by omega⟩
theorem no2 {d a b : Nat} (O : IsOrder w W d) (hab : a < b) (hb : b < d) : pw w W a ≠ pw w W b := fun h => by
  have := pw_back C (a := 0) (b := b - a) (k := a) (by rw [Nat.zero_add, show b - a + a = b by omega]; exact h)
  rw [pw_zero C] at this
  exact O.ne (b - a) (by omega) (by omega) this.symm
theorem pw_inj {d a b : Nat} (O : IsOrder w W d) (ha : a < d) (hb : b < d) (h : pw w W a = pw w W b) : a = b := by
  rcases Nat.lt_trichotomy a b with c | c | c
  · exact absurd h (no2 C O c hb)
  · exact c
  · exact absurd h.symm (no2 C O c ha)
theorem no3 {t a b c : Nat} (T : ∀ p, p < t → ¬ Three w W p) (hab : a < b) (hbc : b < c) (hc : c < t) : pw w W a ^^^ pw w W b ^^^ pw w W c ≠ 0 := fun h => by
  have := back3 C (a := 0) (b := b - a) (c := c - a) (k := a) (by rw [Nat.zero_add, show b - a + a = b by omega, show c - a + a = c by omega]; exact h)
  rw [pw_zero C] at this
  refine T (c - a) (by omega) ⟨b - a, by omega, by omega, ?_⟩
  refine xor_eq0.mp ?_
  rw [← this]
  ac_rfl
theorem no4 {t a b c e : Nat} (T : ∀ p, p < t → ¬ Four w W p) (hab : a < b) (hbc : b < c) (hce : c < e) (he : e < t) : pw w W a ^^^ pw w W b ^^^ pw w W c ^^^ pw w W e ≠ 0 := fun h => by
  have := back4 C (a := 0) (b := b - a) (c := c - a) (e := e - a) (k := a) (by rw [Nat.zero_add, show b - a + a = b by omega, show c - a + a = c by omega, show e - a + a = e by omega]; exact h)
  rw [pw_zero C] at this
  refine T (e - a) (by omega) ⟨b - a, c - a, by omega, by omega, by omega, ?_⟩
  refine xor_eq0.mp ?_
  rw [← this]
  ac_rfl
theorem no3' {t a b c : Nat} (T : ∀ p, p < t → ¬ Three w W p) (ha : a < t) (hbc : b < c) (hc : c < t) (h1 : a ≠ b) (h2 : a ≠ c) : pw w W a ≠ pw w W b ^^^ pw w W c := fun h => by
  have z := xor_eq0.mpr h
  rcases Nat.lt_or_ge a b with d | d
  · exact no3 C T d hbc hc (by rw [← z]; ac_rfl)
  · rcases Nat.lt_or_ge a c with e | e
    · exact no3 C T (a := b) (b := a) (c := c) (by omega) e hc (by rw [← z]; ac_rfl)
    · exact no3 C T (a := b) (b := c) (c := a) hbc (by omega) ha (by rw [← z]; ac_rfl)
theorem no4' {t a b c e : Nat} (T : ∀ p, p < t → ¬ Four w W p) (hab : a < b) (hb : b < t) (hce : c < e) (he : e < t) (h1 : a < c) (h2 : a ≠ e) (h3 : b ≠ c) (h4 : b ≠ e) : pw w W a ^^^ pw w W b ≠ pw w W c ^^^ pw w W e := fun h => by
  have z := xor_eq0.mpr h
  rcases Nat.lt_or_ge b c with d | d
  · exact no4 C T hab d hce he (by rw [← z]; ac_rfl)
  · rcases Nat.lt_or_ge b e with f | f
    · exact no4 C T (a := a) (b := c) (c := b) (e := e) h1 (by omega) f he (by rw [← z]; ac_rfl)
    · exact no4 C T (a := a) (b := c) (c := e) (e := b) h1 hce (by omega) hb (by rw [← z]; ac_rfl)
/-! ### what mends -/
omit C in
def valP (w W : Nat) (xs : List Nat) : Nat := xs.foldl (fun v x => v ^^^ pw w W x) 0
omit C in
/-- lists of at most two places, rising -/
def Small2 (N : Nat) (xs : List Nat) : Prop := xs = [] ∨ (∃ a, a < N ∧ xs = [a]) ∨ ∃ a b, a < b ∧ b < N ∧ xs = [a, b]
omit C in
def Small1 (N : Nat) (xs : List Nat) : Prop := xs = [] ∨ ∃ a, a < N ∧ xs = [a]
theorem one_uniq {L N : Nat} (O : IsLongest w W 3 L) (hN : N ≤ L) {xs ys : List Nat} (hx : Small1 N xs) (hy : Small1 N ys) (h : valP w W xs = valP w W ys) : xs = ys := by
  have O' : IsOrder w W L := by
    rcases O with ⟨_, h⟩ | ⟨e, _⟩ | ⟨e, _⟩
    · exact h
    · omega
    · omega
  rcases hx with rfl | ⟨a, ha, rfl⟩ <;> rcases hy with rfl | ⟨b, hb, rfl⟩
  · rfl
  · exact absurd (by simpa [valP] using h.symm) (pw_ne C b)
  · exact absurd (by simpa [valP] using h) (pw_ne C a)
  · rw [pw_inj C O' (a := a) (b := b) (by omega) (by omega) (by simpa [valP] using h)]
theorem two_uniq {L N : Nat} (O : IsLongest w W 5 L) (hN : N ≤ L) {xs ys : List Nat} (hx : Small2 N xs) (hy : Small2 N ys) (h : valP w W xs = valP w W ys) : xs = ys := by
  obtain ⟨d, t, hO, h3, h4⟩ : ∃ d t, IsOrder w W d ∧ IsFirst (Three w W) d t ∧ IsFirst (Four w W) t L := by
    rcases O with ⟨e, _⟩ | ⟨e, _⟩ | ⟨_, h⟩
    · omega
    · omega
    · exact h
  have l1 := h3.le
  have l2 := h4.le
  have T3 := h3.ne
  have T4 := h4.ne
  have inj := fun {a b : Nat} (ha : a < N) (hb : b < N) (h : pw w W a = pw w W b) => pw_inj C hO (a := a) (b := b) (by omega) (by omega) h
  have v0 : valP w W [] = 0 := rfl
  have v1 : ∀ a, valP w W [a] = pw w W a := fun a => by simp [valP]
  have v2 : ∀ a b, valP w W [a, b] = pw w W a ^^^ pw w W b := fun a b => by simp [valP]
  have m3 : ∀ {a b c : Nat}, a < N → b < c → c < N → pw w W a = pw w W b ^^^ pw w W c → False := fun {a b c} ha hbc hc e => by
    by_cases e1 : a = b
    · subst e1
      refine pw_ne C c ?_
      have : pw w W a ^^^ pw w W a = pw w W a ^^^ (pw w W a ^^^ pw w W c) := by rw [← e]
      rw [Nat.xor_self, ← Nat.xor_assoc, Nat.xor_self, Nat.zero_xor] at this
      exact this.symm
    · by_cases e2 : a = c
      · subst e2
        refine pw_ne C b ?_
        have : pw w W a ^^^ pw w W a = (pw w W b ^^^ pw w W a) ^^^ pw w W a := by rw [← e]
        rw [Nat.xor_self, Nat.xor_assoc, Nat.xor_self, Nat.xor_zero] at this
        exact this.symm
      · exact no3' C (t := t) T3 (by omega) hbc (by omega) e1 e2 e
  have m4 : ∀ {a b c e : Nat}, a < b → b < N → c < e → e < N → pw w W a ^^^ pw w W b = pw w W c ^^^ pw w W e → a < c → False := fun {a b c e} hab hb hce he z hac => by
    by_cases e2 : a = e
    · omega
    by_cases e3 : b = c
    · subst e3
      rw [Nat.xor_comm] at z
      have : pw w W a = pw w W e := by
        have : pw w W b ^^^ (pw w W b ^^^ pw w W a) = pw w W b ^^^ (pw w W b ^^^ pw w W e) := by rw [z]
        rw [← Nat.xor_assoc, ← Nat.xor_assoc, Nat.xor_self, Nat.zero_xor, Nat.zero_xor] at this
        exact this
      have := inj (by omega) he this
      omega
    by_cases e4 : b = e
    · subst e4
      have : pw w W a = pw w W c := by
        have : (pw w W a ^^^ pw w W b) ^^^ pw w W b = (pw w W c ^^^ pw w W b) ^^^ pw w W b := by rw [z]
        rw [Nat.xor_assoc, Nat.xor_assoc, Nat.xor_self, Nat.xor_zero, Nat.xor_zero] at this
        exact this
      have := inj (by omega) (by omega) this
      omega
    · exact no4' C (t := L) T4 hab (by omega) hce (by omega) hac e2 e3 e4 z
  rcases hx with rfl | ⟨a, ha, rfl⟩ | ⟨a, b, hab, hb, rfl⟩ <;> rcases hy with rfl | ⟨c, hc, rfl⟩ | ⟨c, e, hce, he, rfl⟩ <;> simp only [v0, v1, v2] at h
  · rfl
  · exact absurd h.symm (pw_ne C c)
  · have := inj (a := c) (b := e) (by omega) he (xor_eq0.mp h.symm)
    omega
  · exact absurd h (pw_ne C a)
  · rw [inj ha hc h]
  · exact (m3 ha hce he h).elim
  · have := inj (a := a) (b := b) (by omega) hb (xor_eq0.mp h)
    omega
  · exact (m3 hc hab hb h.symm).elim
  · rcases Nat.lt_trichotomy a c with q | q | q
    · exact (m4 hab hb hce he h q).elim
    · subst q
      have : pw w W b = pw w W e := by
        have : pw w W a ^^^ (pw w W a ^^^ pw w W b) = pw w W a ^^^ (pw w W a ^^^ pw w W e) := by rw [h]
        rw [← Nat.xor_assoc, ← Nat.xor_assoc, Nat.xor_self, Nat.zero_xor, Nat.zero_xor] at this
        exact this
      rw [inj hb he this]
    · exact (m4 hce he hab hb h.symm q).elim
end
end My

namespace My
/-! ### products -/
def prodN : Nat → Nat → Nat → Nat
  | 0, _, _ => 0
  | k + 1, a, b => 2 * prodN k a (b / 2) ^^^ (if b % 2 = 1 then a else 0)
/-- the product of two sums of powers -/
def prod (a b : Nat) : Nat := prodN (b.log2 + 1) a b
theorem prodN_zero (a : Nat) : ∀ k, prodN k a 0 = 0
  | 0 => rfl
  | k + 1 => by
    rw [prodN, Nat.zero_div, prodN_zero a k, if_neg (by decide)]
    rfl
theorem prodN_stab (a : Nat) : ∀ (k j b : Nat), b < 2 ^ k → b < 2 ^ j → prodN k a b = prodN j a b
  | 0, j, b, h, _ => by
    have e : b = 0 := by omega
    subst e
    rw [prodN_zero, prodN_zero]
  | k + 1, 0, b, _, h => by
    have e : b = 0 := by omega
    subst e
    rw [prodN_zero, prodN_zero]
  | k + 1, j + 1, b, h1, h2 => by
    rw [Nat.pow_succ] at h1 h2
    rw [prodN, prodN, prodN_stab a k j (b / 2) (by omega) (by omega)]
theorem prod_fuel {a k b : Nat} (h : b < 2 ^ k) : prod a b = prodN k a b := prodN_stab a _ _ _ Nat.lt_log2_self h
theorem prod_step (a b : Nat) : prod a b = 2 * prod a (b / 2) ^^^ (if b % 2 = 1 then a else 0) := by
  have h : b < 2 ^ (b.log2 + 1) := Nat.lt_log2_self
  rw [prod_fuel (k := b.log2) (b := b / 2) (by rw [Nat.pow_succ] at h; omega)]
  rfl
theorem prod_zero (a : Nat) : prod a 0 = 0 := prodN_zero a _
theorem prod_bit (a m c : Nat) (h : c < 2) : prod a (2 * m + c) = 2 * prod a m ^^^ (if c = 1 then a else 0) := by
  rw [prod_step, show (2 * m + c) / 2 = m by omega, show (2 * m + c) % 2 = c by omega]
theorem two_xor (x y : Nat) : 2 * (x ^^^ y) = 2 * x ^^^ 2 * y := by
  have := xor_bit x y 0 0 (by omega) (by omega)
  simp only [Nat.add_zero, Nat.xor_self] at this
  exact this.symm
theorem prod_xorl (a c : Nat) : ∀ b, prod (a ^^^ c) b = prod a b ^^^ prod c b := by
  intro b
  induction b using Nat.strongRecOn with
  | _ b ih =>
    by_cases h : b = 0
    · subst h
      rw [prod_zero, prod_zero, prod_zero]
      rfl
    · rw [prod_step, ih (b / 2) (by omega), prod_step a b, prod_step c b, two_xor]
      split <;> (try simp only [Nat.xor_zero]) <;> ac_rfl
theorem prod_dbl (a : Nat) : ∀ b, prod (2 * a) b = 2 * prod a b := by
  intro b
  induction b using Nat.strongRecOn with
  | _ b ih =>
    by_cases h : b = 0
    · subst h
      rw [prod_zero, prod_zero]
    · rw [prod_step, ih (b / 2) (by omega), prod_step a b, two_xor]
      split <;> simp
theorem prod_one : ∀ b, prod 1 b = b := by
  intro b
  induction b using Nat.strongRecOn with
  | _ b ih =>
    by_cases h : b = 0
    · subst h
      exact prod_zero 1
    · rw [prod_step, ih (b / 2) (by omega)]
      have e := xor_bit (b / 2) 0 0 (b % 2) (by omega) (by omega)
      rw [Nat.add_zero, Nat.mul_zero, Nat.zero_add, Nat.xor_zero, Nat.zero_xor] at e
      have c : b % 2 = 0 ∨ b % 2 = 1 := by omega
      rcases c with c | c
      · rw [c] at e ⊢
        rw [if_neg (by decide), Nat.xor_zero]
        omega
      · rw [c] at e ⊢
        rw [if_pos rfl, e]
        omega
theorem prod_zerol : ∀ b, prod 0 b = 0 := by
  intro b
  induction b using Nat.strongRecOn with
  | _ b ih =>
    by_cases h : b = 0
    · subst h
      exact prod_zero 0
    · rw [prod_step, ih (b / 2) (by omega)]
      split <;> rfl
theorem prod_comm : ∀ a b, prod a b = prod b a := by
  intro a
  induction a using Nat.strongRecOn with
  | _ a ih =>
    intro b
    by_cases h : a = 0
    · subst h
      rw [prod_zero, prod_zerol]
    · have e := xor_bit (a / 2) 0 0 (a % 2) (by omega) (by omega)
      rw [Nat.add_zero, Nat.mul_zero, Nat.zero_add, Nat.xor_zero, Nat.zero_xor] at e
      have ea : a = 2 * (a / 2) ^^^ a % 2 := by rw [e]; omega
      rw [prod_step b a]
      conv => lhs; rw [ea]
      rw [prod_xorl, prod_dbl, ih (a / 2) (by omega)]
      congr 1
      have c : a % 2 = 0 ∨ a % 2 = 1 := by omega
      rcases c with c | c
      · rw [c, if_neg (by decide), prod_zerol]
      · rw [c, if_pos rfl, prod_one]
theorem prod_lt {a b k j : Nat} (ha : a < 2 ^ k) (hb : b < 2 ^ j) : prod a b < 2 ^ (k + j) := by
  induction j generalizing b with
  | zero =>
    have : b = 0 := by omega
    subst this
    rw [prod_zero]
    exact Nat.pow_pos (by omega)
  | succ j ih =>
    rw [Nat.pow_succ] at hb
    rw [prod_step]
    have h1 := ih (b := b / 2) (by omega)
    have e : k + (j + 1) = (k + j) + 1 := by omega
    have h2 : 2 * prod a (b / 2) < 2 ^ (k + (j + 1)) := by rw [e, Nat.pow_succ]; omega
    have h3 : a < 2 ^ (k + (j + 1)) := Nat.lt_of_lt_of_le ha (Nat.pow_le_pow_right (by decide) (by omega))
    refine Nat.xor_lt_two_pow h2 ?_
    split
    · exact h3
    · exact Nat.pow_pos (by omega)
section
variable {w W : Nat}
/-- the rest of a product, by the first one's rest -/
def mulN (w W : Nat) : Nat → Nat → Nat → Nat
  | 0, _, _ => 0
  | k + 1, a, b => sh w W (mulN w W k a (b / 2)) ^^^ (if b % 2 = 1 then a else 0)
def mulR (w W a b : Nat) : Nat := rem w W (prod a b)
def shn (w W : Nat) : Nat → Nat → Nat
  | 0, a => a
  | k + 1, a => sh w W (shn w W k a)
variable (C : Ck w W)
include C
theorem mulR_step (a b : Nat) (ha : a < 2 ^ w) : mulR w W a b = sh w W (mulR w W a (b / 2)) ^^^ (if b % 2 = 1 then a else 0) := by
  unfold mulR
  rw [prod_step, rem_xor C, rem_dbl]
  congr 1
  split
  · exact rem_small C a ha
  · exact rem_zero
theorem rem_shlN (n k : Nat) : rem w W (n * 2 ^ k) = shn w W k (rem w W n) := by
  induction k with
  | zero => rw [Nat.pow_zero, Nat.mul_one]; rfl
  | succ k ih =>
    rw [Nat.pow_succ, ← Nat.mul_assoc, Nat.mul_comm, rem_dbl, ih]
    rfl
theorem mulR_xor (a b c : Nat) : mulR w W a (b ^^^ c) = mulR w W a b ^^^ mulR w W a c := by
  unfold mulR
  rw [prod_comm a, prod_xorl, rem_xor C, prod_comm b, prod_comm c]
theorem mulR_lt (a b : Nat) : mulR w W a b < 2 ^ w := rem_lt C _
/-- a product's rest by the rest of the one -/
theorem mulR_rem (a b : Nat) : rem w W (prod (rem w W a) b) = rem w W (prod a b) := by
  induction b using Nat.strongRecOn with
  | _ b ih =>
    by_cases h : b = 0
    · subst h
      rw [prod_zero, prod_zero]
    · rw [prod_step, prod_step a b, rem_xor C, rem_xor C, rem_dbl, rem_dbl, ih (b / 2) (by omega)]
      congr 1
      split
      · exact rem_small C _ (rem_lt C _)
      · rfl
theorem mulR_W (a : Nat) : mulR w W a W = 0 := by
  unfold mulR
  rw [prod_comm, ← mulR_rem C, rem_self C, prod_zerol]
  exact rem_zero
theorem mulR_remr (a b : Nat) : mulR w W a (rem w W b) = mulR w W a b := by
  unfold mulR
  rw [prod_comm, mulR_rem C, prod_comm]
theorem mulR_pow (a m : Nat) (ha : a < 2 ^ w) : mulR w W a (2 ^ m) = shn w W m a := by
  unfold mulR
  have e : prod a (2 ^ m) = a * 2 ^ m := by
    clear ha
    induction m with
    | zero => rw [prod_comm, Nat.pow_zero, prod_one, Nat.mul_one]
    | succ m ih =>
      rw [prod_step, Nat.pow_succ, Nat.mul_div_cancel _ (by decide), Nat.mul_mod_left, if_neg (by decide), Nat.xor_zero, ih]
      rw [Nat.mul_comm 2, Nat.mul_assoc]
  rw [e, rem_shlN C, rem_small C a ha]
theorem mulR_pw (a m : Nat) (ha : a < 2 ^ w) : mulR w W a (pw w W m) = shn w W m a := by
  unfold pw
  rw [mulR_remr C, mulR_pow C a m ha]
omit C in
theorem shn_pw (k m : Nat) : shn w W k (pw w W m) = pw w W (m + k) := by
  induction k with
  | zero => rfl
  | succ k ih =>
    show sh w W (shn w W k (pw w W m)) = _
    rw [ih, ← pw_succ]
    rfl
theorem pw_mul (j k : Nat) : mulR w W (pw w W j) (pw w W k) = pw w W (j + k) := by
  rw [mulR_pw C _ _ (pw_lt C j), shn_pw]
end
end My

namespace My
open PySem PySem.Spec PyProof.Rows L2 Pre
theorem tyx_insC {K : PySem.W.Frag} {H : Hp} {a C dx : Addr} {fs : List (Str × V)} (c : C8.InsC K C) (h : H a = some (.ins C dx fs)) : TyX K H (.ref a) (.ref C) := .base (.ins h c.cl c.ha c.hn c.htk c.hm)
/-! ### numbers that are not negative -/
theorem bx (a b : Nat) : Builtin.bitXor (a : Int) (b : Int) = ((a ^^^ b : Nat) : Int) := by
  rw [Bits.bitXor_pp (by omega) (by omega)]
  rfl
theorem shrI (a k : Nat) : (a : Int) / 2 ^ ((k : Int)).toNat = ((a >>> k : Nat) : Int) := by
  rw [Int.toNat_natCast, Nat.shiftRight_eq_div_pow, Int.natCast_ediv, Int.natCast_pow]
  rfl
theorem shlI (a k : Nat) : (a : Int) * 2 ^ ((k : Int)).toNat = ((a <<< k : Nat) : Int) := by
  rw [Int.toNat_natCast, Nat.shiftLeft_eq, Int.natCast_mul, Int.natCast_pow]
  rfl
theorem and1 (n : Nat) : Builtin.bitAnd (n : Int) 1 = ((n % 2 : Nat) : Int) := by
  rw [bitAnd_m1]
  omega
theorem small1000' {n : Nat} (h : n ≤ 10000) : n < sizeLine := by rw [sizeLine_eq]; omega
theorem pow17 {w : Nat} (h : w ≤ 16) : 2 ^ w ≤ 65536 := Nat.le_trans (Nat.pow_le_pow_right (by decide) h) (by decide)
theorem seq_ne {H : Hp} {p : Addr} {o : HO} (h : H p = some o) : H p ≠ none := by rw [h]; exact fun z => nomatch z
local macro_rules | `(tactic| walk_at "go") => `(tactic| repeat (first | (with_reducible first | refine iteT ?_ | refine iteF ?_ | refine iteNtt ?_ | refine iteNff ?_ | refine iteET (by omega) ?_ | refine iteEF (by omega) ?_ | refine iteENT (by omega) ?_ | refine iteENF (by omega) ?_ | refine iteDT (by omega) ?_ | refine iteDF (by omega) ?_ | refine iteNT (by omega) ?_ | refine iteNF (by omega) ?_) | refine ⟨_, rfl, ?_⟩ | refine ⟨_, _, rfl, rfl, ?_⟩ | refine ⟨_, _, rfl, ?_⟩ | refine ⟨rfl, ?_⟩ | refine .inl ⟨_, rfl, ?_⟩ | refine .inr ⟨_, rfl, ?_⟩))
local macro_rules | `(tactic| walk_at "b") => `(tactic| try dsimp (config := { proj := false, iota := false, eta := false, zeta := false }) only)
section
variable {P : Program} {w : World} {K : PySem.W.Frag} {mg : Str → Option Value} {base : Heap}
/-! ### texts of bits -/
theorem fm_noneB {α β : Type} (l : List α) : (l.map fun _ => (none : Option β)).filterMap id = [] := by
  induction l with
  | nil => rfl
  | cons n r ih => simp
def sp_is_bits : Sp := fun vs H Q _ => ∃ bs : List Bool, vs = [.str (bS bs)] ∧ bs.length ≤ 10000 ∧ ∀ H', Same H H' → Q (.bl true) H'
theorem sign_in (b : Bool) : decide (sgn b ∈ ((("01" : String) : Str)).cps.toList) = true := by
  have e : (("01" : String) : Str).cps.toList = [48, 49] := by decide +kernel
  rw [e]
  cases b <;> decide
theorem G_is_bits (T : Top K mg) : FnOk P w K mg base CX0 1 T.f_is_bits T.fd_is_bits ["value"] sp_is_bits := by
  refine T.F_is_bits.ok sc_is_bits (fun vs H Q E h => by obtain ⟨bs, rfl, _⟩ := h; rfl) (fun cdv A outer s H vs Q E hr h => ?_)
  obtain ⟨bs, rfl, hz, q⟩ := h
  refine ⟨_, PSs.nox (pss_one (ps_ret (pe_and (pe_callB (k_isi K rfl) (by rfl) T.n_isinstance (by decide +kernel) (pa_cons (pv 0) (pa_cons (pe_bltn (v := .ty "str") (by rfl) T.n_str (by decide +kernel) rfl) pa_nil))) (pe_one (pe_cmpR (k_eqD K rfl hr.units) (pe_lc (own := [("sign", 1)]) (g := gName 1) (by rfl) sc_is_bits.nd (pi_str (pv 0)) (blkOk_by (own := [("sign", 1)]) (N := N_is_bits) (sc := defScope s_is_bits) (by decide +kernel)) (fun _ _ _ _ _ => (pg_name (i := 1) sc_is_bits.nd rfl (by first | exact Or.inl rfl | exact Or.inr rfl))) (fun _ _ _ _ _ => (pts_one (pt_cmpR op_notIn_sign (pv 1) pe_str (by rfl)))) (fun _ _ _ _ _ => (pv 1))) (pe_lst pa_nil) (nomark _)))))), ?_⟩
  refine ⟨_, rfl, _, _, _, _, true, rfl, .ty _, .base (.str _), kit_ty (by decide +kernel), true, rfl, iteT ?_⟩
  refine ⟨_, rfl, _, rfl, fun D nD => ?_⟩
  refine lc_dW walk_str (Has.nil (H := H)) ((List.range bs.length).map fun _ => none) nD (by rw [List.length_map, List.length_range, bS_size]) (by rw [bS_size]; exact small1000' hz) (fun _ _ => trivial) ?_ ?_
  · rintro i o H0 x H' hi ho s0 hS ⟨rfl, c, hc, rfl⟩ Qt qt
    obtain ⟨b, hb, ec⟩ := bS_at hc
    rw [ec]
    refine ⟨rfl, ?_⟩
    rw [List.getElem?_map] at ho
    obtain ⟨_, _, rfl⟩ := Option.map_eq_some_iff.mp ho
    refine ⟨_, rfl, sgn b, _, rfl, rfl, _, rfl, ?_⟩
    rw [sign_in]
    exact iteF (qt none _ (Same.refl _) trivial)
  · intro H' s hD hd
    rw [fm_noneB] at hd
    rw [rs_nil] at hd
    obtain ⟨a, xs, e, ha, hx⟩ := hd.listE
    cases e
    cases hx
    refine ⟨Nat.zero_le _, fun p np => ?_⟩
    refine eq_lst (ns := []) (.inl (.inl (same_upd np _ _ ha))) (.inl (.inl upd_same)) ?_
    exact q _ (s.trans (same_upd np))
def sp_check_bits : Sp := fun vs H Q _ => ∃ bs : List Bool, vs = [.str (bS bs)] ∧ bs.length ≤ 10000 ∧ ∀ H', Same H H' → Q .non H'
theorem G_check_bits (T : Top K mg) : FnOk P w K mg base CX0 2 T.f_check_bits T.fd_check_bits ["bits"] sp_check_bits := by
  refine T.F_check_bits.ok sc_check_bits (fun vs H Q E h => by obtain ⟨bs, rfl, _⟩ := h; rfl) (fun cdv A outer s H vs Q E hr h => ?_)
  obtain ⟨bs, rfl, hz, q⟩ := h
  refine ⟨_, PSs.nox (pss_one (ps_if (pt_not (pt_val (pe_call (G_is_bits T) (hr.mono (by decide)) (by rfl) T.g_is_bits T.F_is_bits.kp T.b_is_bits .nil pass0 (pa_cons (pv 0) pa_nil))))
    (pss_one ps_never)
    pss_nil)), ?_⟩
  exact ⟨_, rfl, bs, rfl, hz, fun H' s => ⟨_, rfl, iteF (q _ s)⟩⟩
def sp_bits_of : Sp := fun vs H Q _ => ∃ (n k : Nat), vs = [.int n, .int k] ∧ k ≤ 1000 ∧ ∀ H', Same H H' → Q (.str (bS (bitsB n k))) H'
theorem G_bits_of (T : Top K mg) : FnOk P w K mg base CX0 1 T.f_bits_of T.fd_bits_of ["number", "many"] sp_bits_of := by
  refine T.F_bits_of.ok sc_bits_of (fun vs H Q E h => by obtain ⟨n, k, rfl, _⟩ := h; rfl) (fun cdv A outer s H vs Q E hr h => ?_)
  obtain ⟨n, k, rfl, hk, q⟩ := h
  refine ⟨_, PSs.nox (pss_one (ps_ret (pe_join pe_str (pe_lc (own := [("at", 2)]) (g := gName 2) (tt := tYes) (by rfl) sc_bits_of.nd (pi_range1 (by rfl) T.n_range (pa_cons (pv 1) pa_nil)) (blkOk_by (own := [("at", 2)]) (N := N_bits_of) (sc := defScope s_bits_of) (by decide +kernel)) (fun _ _ _ _ _ => (pg_name (i := 2) sc_bits_of.nd rfl (by first | exact Or.inl rfl | exact Or.inr rfl))) (fun _ _ _ _ _ => pts_nil) (fun _ _ _ _ _ => (pe_ix ix_str pe_str (pe_op op_and (pe_op op_shr (pv 0) (pe_op op_sub (pe_op op_sub (pv 1) pe_int) (pv 2))) pe_int) (fun _ _ => rfl))))))), ?_⟩
  refine ⟨⟨_, rfl⟩, _, rfl, _, rfl, by omega, by omega, fun D nD => ?_⟩
  refine lc_mapR (lo := 0) (n := ((k : Int)).toNat) ((bitsB n k).map fun b => V.str (bS [b])) nD (by rw [List.length_map, bitsB_len]; rfl) (small1000' (by omega)) (fun x => rfl) ?_ ?_
  · intro i y H' hi hy s Qt qt
    rw [Int.toNat_natCast] at hi
    rw [List.getElem?_map, bitsB_get n k i hi] at hy
    cases hy
    refine ⟨_, rfl, _, rfl, _, _, rfl, rfl, _, rfl, _, _, rfl, rfl, _, _, rfl, rfl, by omega, _, _, rfl, rfl, ?_⟩
    have e1 : ((k : Int) - 1 - (0 + (i : Int))) = ((k - 1 - i : Nat) : Int) := by omega
    dsimp only
    rw [e1, shrI, and1]
    have e2 : n >>> (k - 1 - i) % 2 = (n.testBit (k - 1 - i)).toNat := by rw [Nat.toNat_testBit, Nat.shiftRight_eq_div_pow]
    rw [e2]
    have e01 : (("01" : String) : Str) = bS [false, true] := by decide +kernel
    refine ⟨_, _, sgn (n.testBit (k - 1 - i)), rfl, rfl, by rw [e01, bS_len]; decide, ?_, qt _ (Same.refl _)⟩
    rw [e01]
    exact bS_atI (by cases n.testBit (k - 1 - i) <;> rfl)
  · intro H' s hD
    refine ⟨_, D, (bitsB n k).map fun b => bS [b], rfl, rfl, .inl (.inl (.inl ?_)), ?_, ?_⟩
    · rw [hD, List.map_map]
      rfl
    · have e0 : ((("" : String) : Str)).length = 0 := by rw [str_nil]; rfl
      rw [List.map_map, e0, Nat.mul_zero]
      have : ∀ l : List Bool, (l.map ((fun z : Str => z.length) ∘ fun b => bS [b])).sum = l.length := fun l => by
        induction l with
        | nil => rfl
        | cons b r ih => rw [List.map_cons, List.sum_cons, ih, List.length_cons]; show 1 + _ = _; omega
      have hz : ((bitsB n k).map ((fun x : Str => x.length) ∘ fun b => bS [b])).sum = k := by rw [this, bitsB_len]
      exact Nat.le_trans (Nat.le_of_eq hz) (by omega)
    · rw [join_bits]
      exact q _ s
/-! ### checks -/
def sp_check_number : Sp := fun vs H Q _ => ∃ (i lo : Int) (hi : Option Int), vs = [.int i, .int lo, (match hi with | some j => .int j | none => .non)] ∧ lo ≤ i ∧ (∀ j, hi = some j → i ≤ j) ∧ Q .non H
theorem G_check_number (T : Top K mg) : FnOk P w K mg base CX0 3 T.f_check_number T.fd_check_number ["number", "low", "high"] sp_check_number := by
  refine T.F_check_number.ok sc_check_number (fun vs H Q E h => by obtain ⟨i, lo, hi, rfl, _⟩ := h; rfl) (fun cdv A outer s H vs Q E hr h => ?_)
  obtain ⟨i, lo, hi, rfl, h0, h1, q⟩ := h
  refine ⟨_, PSs.nox (pss_one (ps_if (pt_not (pt_val (pe_call (G_is_between T) (hr.mono (by decide)) (by rfl) T.g_is_between T.F_is_between.kp T.b_is_between .nil pass0 (pa_cons (pv 0) (pa_cons (pv 1) (pa_cons (pv 2) pa_nil))))))
    (pss_one ps_never)
    pss_nil)), ?_⟩
  refine ⟨_, rfl, _, rfl, _, rfl, i, lo, hi, rfl, _, rfl, ?_⟩
  rw [decide_eq_true ⟨h0, h1⟩]
  exact iteF q
/-- a check of the width wd and the sum W -/
def CheckAt (C : Addr) (H : Hp) (a : Addr) (wd W : Nat) : Prop := Ck wd W ∧ wd ≤ 16 ∧ ∃ dx, H a = some (.ins C dx [("size", .int wd), ("tail", .int (W - 2 ^ wd : Nat))])
theorem CheckAt.same {C : Addr} {H H' : Hp} {a : Addr} {wd W : Nat} (h : CheckAt C H a wd W) (s : Same H H') : CheckAt C H' a wd W := by
  obtain ⟨h1, h2, dx, h3⟩ := h
  exact ⟨h1, h2, dx, s _ _ h3⟩
theorem CheckAt.but {C g : Addr} {H H' : Hp} {a : Addr} {wd W : Nat} (h : CheckAt C H a wd W) (n : a ≠ g) (s : But g H H') : CheckAt C H' a wd W := by
  obtain ⟨h1, h2, dx, h3⟩ := h
  exact ⟨h1, h2, dx, s _ _ n h3⟩
theorem CheckAt.ne {C g : Addr} {H : Hp} {a : Addr} {wd W : Nat} {xs : List V} (h : CheckAt C H a wd W) (hg : H g = some (.lst xs)) : a ≠ g := by
  obtain ⟨h1, h2, dx, h3⟩ := h
  exact ne_of h3 hg (by intro z; cases z)
def sp_Check___init__ (C : Addr) : Sp := fun vs H Q _ => ∃ (x dx : Addr) (wd l : Nat), vs = [.ref x, .int wd, .int l] ∧ H x = some (.ins C dx []) ∧ 1 ≤ wd ∧ wd ≤ 16 ∧ l < 2 ^ wd ∧ l % 2 = 1 ∧
  ∀ H', (∀ b o, b ≠ x → H b = some o → H' b = some o) → CheckAt C H' x wd (2 ^ wd + l) → Q .non H'
theorem ck_of {wd l : Nat} (h : 1 ≤ wd) (hl : l < 2 ^ wd) (ho : l % 2 = 1) : Ck wd (2 ^ wd + l) := by
  have e : 2 ^ (wd + 1) = 2 ^ wd * 2 := Nat.pow_succ ..
  have e2 : 2 ^ wd = 2 ^ (wd - 1) * 2 := by
    rw [← Nat.pow_succ, show (wd - 1).succ = wd by omega]
  exact ⟨h, by omega, by omega, by omega⟩
theorem G_Check___init__ (T : Top K mg) : FnOk P w K mg base CX0 4 T.f_Check___init__ T.fd_Check___init__ ["self", "width", "low"] (sp_Check___init__ T.C_Check) := by
  refine T.F_Check___init__.ok sc_Check___init__ (fun vs H Q E h => by obtain ⟨x, dx, wd, l, rfl, _⟩ := h; rfl) (fun cdv A outer s H vs Q E hr h => ?_)
  obtain ⟨x, dx, wd, l, rfl, hx, h1, h2, h3, h4, q⟩ := h
  refine ⟨_, PSs.nox (pss_cons (ps_expr (pe_call (G_check_number T) (hr.mono (by decide)) (by rfl) T.g_check_number T.F_check_number.kp T.b_check_number .nil pass0 (pa_cons (pv 1) (pa_cons pe_int (pa_cons (pe_glob (v := .int 16) rfl T.m_MOST_WIDTH ⟨_, rfl⟩) pa_nil)))))
  (pss_cons (ps_expr (pe_call (G_check_number T) (hr.mono (by decide)) (by rfl) T.g_check_number T.F_check_number.kp T.b_check_number .nil pass0 (pa_cons (pv 2) (pa_cons pe_int (pa_cons (pe_op op_sub (pe_op op_shl pe_int (pv 1)) pe_int) pa_nil)))))
  (pss_cons (ps_if (pt_cmpR op_eq (pe_op op_mod (pv 2) pe_int) pe_int (nomark _))
    (pss_one ps_never)
    pss_nil)
  (pss_cons (ps_fld (pv 0) (pv 1) rfl)
  (pss_one (ps_fld (pv 0) (pv 2) rfl)))))), ?_⟩
  refine ⟨_, rfl, wd, 1, some 16, rfl, by omega, (fun j h => by cases h; omega), ?_⟩
  refine ⟨_, rfl, _, rfl, _, _, rfl, rfl, ⟨by omega, by omega, by decide⟩, _, _, rfl, rfl, l, 1, some _, rfl, by omega, (fun j h => by
    cases h
    rw [Int.one_mul, Int.toNat_natCast]
    have : ((2 ^ wd : Nat) : Int) = 2 ^ wd := by rw [Int.natCast_pow]; rfl
    omega), ?_⟩
  refine ⟨_, rfl, _, _, rfl, rfl, (by show (0 : Int) < 2; decide), rfl, _, rfl, ?_⟩
  refine iteEF (by omega) ?_
  refine ⟨_, rfl, _, rfl, x, T.C_Check, dx, [], rfl, hx, T.cl_Check, T.na_Check_size, by decide, ?_⟩
  refine ⟨_, rfl, _, rfl, x, T.C_Check, dx, _, rfl, upd_same, T.cl_Check, T.na_Check_tail, (by show 1 < 1000; decide), ?_⟩
  refine q _ (fun b o nb hb => ?_) ⟨ck_of h1 h3 h4, h2, dx, ?_⟩
  · rw [upd_ne nb, upd_ne nb]
    exact hb
  · rw [upd_same, show 2 ^ wd + l - 2 ^ wd = l by omega]
    rfl
def sp_check_check (C : Addr) : Sp := fun vs H Q _ => ∃ (a : Addr) (wd W : Nat), vs = [.ref a] ∧ CheckAt C H a wd W ∧ Q .non H
theorem G_check_check (T : Top K mg) : FnOk P w K mg base CX0 1 T.f_check_check T.fd_check_check ["check"] (sp_check_check T.C_Check) := by
  refine T.F_check_check.ok sc_check_check (fun vs H Q E h => by obtain ⟨a, wd, W, rfl, _⟩ := h; rfl) (fun cdv A outer s H vs Q E hr h => ?_)
  obtain ⟨a, wd, W, rfl, hC, q⟩ := h
  refine ⟨_, PSs.nox (pss_one (ps_if (pt_not (pt_val (pe_callB (k_isi K rfl) (by rfl) T.n_isinstance (by decide +kernel) (pa_cons (pv 0) (pa_cons (pe_glob (v := .ref T.C_Check) rfl T.gc_Check rfl) pa_nil)))))
    (pss_one ps_never)
    pss_nil)), ?_⟩
  obtain ⟨_, _, dx, ha⟩ := hC
  refine ⟨_, rfl, _, _, _, _, true, rfl, .own _, tyx_insC T.ic_Check ha, T.ic_Check.me, true, rfl, iteF ?_⟩
  exact q
def sp_sum_of (C : Addr) : Sp := fun vs H Q _ => ∃ (a : Addr) (wd W : Nat), vs = [.ref a] ∧ CheckAt C H a wd W ∧ Q (.int W) H
theorem G_sum_of (T : Top K mg) : FnOk P w K mg base CX0 1 T.f_sum_of T.fd_sum_of ["check"] (sp_sum_of T.C_Check) := by
  refine T.F_sum_of.ok sc_sum_of (fun vs H Q E h => by obtain ⟨a, wd, W, rfl, _⟩ := h; rfl) (fun cdv A outer s H vs Q E hr h => ?_)
  obtain ⟨a, wd, W, rfl, hC, q⟩ := h
  refine ⟨_, PSs.nox (pss_one (ps_ret (pe_op op_add (pe_op op_shl pe_int (pe_fld (pv 0) rfl)) (pe_fld (pv 0) rfl)))), ?_⟩
  obtain ⟨hK, hw, dx, ha⟩ := hC
  refine ⟨_, rfl, a, T.C_Check, dx, _, _, rfl, ha, T.cl_Check, T.na_Check_size, rfl, _, _, rfl, rfl, ⟨by omega, by omega, by decide⟩, _, rfl, a, T.C_Check, dx, _, _, rfl, ha, T.cl_Check, T.na_Check_tail, rfl, _, _, rfl, rfl, ?_⟩
  have e : (1 : Int) * 2 ^ ((wd : Int)).toNat + ((W - 2 ^ wd : Nat) : Int) = (W : Int) := by
    have h := hK.lo
    rw [Int.one_mul, Int.toNat_natCast]
    have : ((2 ^ wd : Nat) : Int) = 2 ^ wd := by rw [Int.natCast_pow]; rfl
    omega
  dsimp only
  rw [e]
  exact q
def sp_shifted (C : Addr) : Sp := fun vs H Q _ => ∃ (a : Addr) (wd W n : Nat), vs = [.ref a, .int n] ∧ CheckAt C H a wd W ∧ n < 2 ^ wd ∧ Q (.int (sh wd W n)) H
theorem restB_take {wd W : Nat} {bs : List Bool} {i : Nat} {b : Bool} (h : bs[i]? = some b) : restB wd W (bs.take (i + 1)) = red wd W (2 * restB wd W (bs.take i) + b.toNat) := by
  rw [List.take_add_one, h]
  exact restB_snoc _ _
theorem bool_int (b : Bool) : (if b = true then (1 : Int) else 0) = ((b.toNat : Nat) : Int) := by cases b <;> rfl
def sp_rest_of (C : Addr) : Sp := fun vs H Q _ => ∃ (a : Addr) (wd W : Nat) (bs : List Bool), vs = [.ref a, .str (bS bs)] ∧ CheckAt C H a wd W ∧ Q (.int (restB wd W bs)) H
theorem G_rest_of (T : Top K mg) : FnOk P w K mg base CX0 2 T.f_rest_of T.fd_rest_of ["check", "bits"] (sp_rest_of T.C_Check) := by
  refine T.F_rest_of.ok sc_rest_of (fun vs H Q E h => by obtain ⟨a, wd, W, bs, rfl, _⟩ := h; rfl) (fun cdv A outer s H vs Q E hr h => ?_)
  obtain ⟨a, wd, W, bs, rfl, hC, q⟩ := h
  refine ⟨_, PSs.nox (pss_cons (ps_set (i := 2) sc_rest_of.nd rfl (by first | exact Or.inl rfl | exact Or.inr rfl) pe_int)
  (pss_cons (ps_for PassesOwn.never rfl (pi_str (pv 1)) (pg_name (i := 3) sc_rest_of.nd rfl (by first | exact Or.inl rfl | exact Or.inr rfl))
    (pss_cons (ps_set (i := 2) sc_rest_of.nd rfl (by first | exact Or.inl rfl | exact Or.inr rfl) (pe_op op_add (pe_op op_mul (pv 2) pe_int) (pe_callTy call_int1 (by rfl) T.n_int (by decide +kernel) (pa_cons (pe_cmpR op_eq (pv 3) pe_str (nomark _)) pa_nil))))
  (pss_one (ps_if (pt_cmpR op_eq (pe_op op_shr (pv 2) (pe_fld (pv 0) rfl)) pe_int (nomark _))
    (pss_one (ps_set (i := 2) sc_rest_of.nd rfl (by first | exact Or.inl rfl | exact Or.inr rfl) (pe_op op_xor (pv 2) (pe_call (G_sum_of T) (hr.mono (by decide)) (by rfl) T.g_sum_of T.F_sum_of.kp T.b_sum_of .nil pass0 (pa_cons (pv 0) pa_nil)))))
    pss_nil))))
  (pss_one (ps_ret (pv 2))))), ?_⟩
  obtain ⟨hK, hw, dx, ha⟩ := id hC
  have h17 := pow17 hw
  refine ⟨_, rfl, _, rfl, ?_⟩
  refine for_it walk_str (fun i σ H1 => ∃ v, σ = [some (.ref a), some (.str (bS bs)), some (.int (restB wd W (bs.take i))), v] ∧ H1 = H) ⟨none, rfl, rfl⟩ (fun _ _ _ _ _ => trivial) ?_ ?_
  · rintro i x σ H1 H2 hi ⟨v, rfl, rfl⟩ ⟨rfl, c, hc, rfl⟩
    obtain ⟨b, hb, ec⟩ := bS_at hc
    rw [ec]
    have hlt := restB_eq (w := wd) (W := W) (bs.take i)
    have hl2 := rem_lt hK (numB (bs.take i))
    rw [← hlt] at hl2
    generalize er : restB wd W (bs.take i) = r at hl2
    refine ⟨_, rfl, _, _, rfl, rfl, .inl ⟨by omega, by omega⟩, _, rfl, rfl, .inr ⟨_, rfl, _, _, rfl, rfl, ?_⟩⟩
    dsimp only
    rw [one_sign, bool_int]
    have e2 : (r : Int) * 2 + ((b.toNat : Nat) : Int) = ((2 * r + b.toNat : Nat) : Int) := by omega
    rw [e2]
    have en := restB_take (wd := wd) (W := W) hb
    rw [er] at en
    unfold red at en
    refine ⟨_, rfl, _, rfl, a, T.C_Check, dx, _, _, rfl, ha, T.cl_Check, T.na_Check_size, rfl, _, _, rfl, rfl, by omega, rfl, _, rfl, ?_⟩
    have ed := shrI (2 * r + b.toNat) wd
    by_cases c1 : (2 * r + b.toNat) >>> wd = 1
    · refine iteET (ed.trans (by rw [c1]; rfl)) ?_
      rw [if_pos c1] at en
      refine ⟨_, rfl, _, rfl, a, wd, W, rfl, hC, _, _, rfl, rfl, ?_⟩
      dsimp only
      rw [bx, ← en]
      exact ⟨_, rfl, rfl⟩
    · refine iteEF (fun z => c1 (by have z2 := ed.symm.trans z; omega)) ?_
      rw [if_neg c1] at en
      rw [← en]
      exact ⟨_, rfl, rfl⟩
  · rintro σ H1 ⟨v, rfl, rfl⟩
    rw [bS_size, List.take_length]
    exact ⟨_, rfl, q⟩
/-- the word of a row -/
def wordB (wd W : Nat) (bs : List Bool) : Nat := restB wd W (bs ++ List.replicate wd false)
def sp_word (C : Addr) : Sp := fun vs H Q _ => ∃ (a : Addr) (wd W : Nat) (bs : List Bool), vs = [.ref a, .str (bS bs)] ∧ CheckAt C H a wd W ∧ bs.length ≤ 1000 ∧ ∀ H', Same H H' → Q (.int (wordB wd W bs)) H'
def sp_sealed (C : Addr) : Sp := fun vs H Q _ => ∃ (a : Addr) (wd W : Nat) (bs : List Bool), vs = [.ref a, .str (bS bs)] ∧ CheckAt C H a wd W ∧ bs.length ≤ 1000 ∧ ∀ H', Same H H' → Q (.str (bS (bs ++ bitsB (wordB wd W bs) wd))) H'
end
end My

namespace My
open PySem PySem.Spec PyProof.Rows L2 Pre
theorem bl_iff {n m : Nat} : Builtin.Int.intBits (n : Int) ≤ m ↔ n < 2 ^ m := by
  rw [intBits_le_iff]
  rfl
theorem bl_W {wd W : Nat} (h : Ck wd W) : Builtin.Int.intBits (W : Int) = wd + 1 := by
  have h1 := bl_iff.mpr h.hi
  have h2 : ¬ Builtin.Int.intBits (W : Int) ≤ wd := fun z => by
    have := bl_iff.mp z
    have := h.lo
    omega
  omega
theorem rest_turn {wd W l : Nat} (h : Ck wd W) (c : wd + 1 ≤ Builtin.Int.intBits (l : Int)) : l ^^^ (W <<< (Builtin.Int.intBits (l : Int) - (wd + 1))) < l ∧ rem wd W (l ^^^ (W <<< (Builtin.Int.intBits (l : Int) - (wd + 1)))) = rem wd W l := by
  refine ⟨?_, ?_⟩
  · generalize hk : Builtin.Int.intBits (l : Int) - (wd + 1) = k
    have e : Builtin.Int.intBits (l : Int) = wd + k + 1 := by omega
    have h1 : l < 2 ^ (wd + k + 1) := bl_iff.mp (by omega)
    have h2 : 2 ^ (wd + k) ≤ l := by
      have : ¬ l < 2 ^ (wd + k) := fun z => by
        have := bl_iff.mpr z
        omega
      omega
    have hl := h.lo
    have hh := h.hi
    have h3 : W <<< k < 2 ^ (wd + k + 1) := by
      rw [Nat.shiftLeft_eq, show wd + k + 1 = wd + 1 + k by omega, Nat.pow_add]
      exact Nat.mul_lt_mul_of_pos_right hh (Nat.pow_pos (by omega))
    have h4 : 2 ^ (wd + k) ≤ W <<< k := by
      rw [Nat.shiftLeft_eq, Nat.pow_add]
      exact Nat.mul_le_mul_right _ (by omega)
    exact Nat.lt_of_lt_of_le (xor_low h1 h3 h2 h4) h2
  · rw [rem_xor h, rem_shl h _ _ (rem_self h), Nat.xor_zero]
local macro_rules | `(tactic| walk_at "go") => `(tactic| repeat (first | (with_reducible first | refine iteT ?_ | refine iteF ?_ | refine iteNtt ?_ | refine iteNff ?_ | refine iteET (by omega) ?_ | refine iteEF (by omega) ?_ | refine iteENT (by omega) ?_ | refine iteENF (by omega) ?_ | refine iteDT (by omega) ?_ | refine iteDF (by omega) ?_ | refine iteNT (by omega) ?_ | refine iteNF (by omega) ?_) | refine ⟨_, rfl, ?_⟩ | refine ⟨_, _, rfl, rfl, ?_⟩ | refine ⟨_, _, rfl, ?_⟩ | refine ⟨rfl, ?_⟩ | refine .inl ⟨_, rfl, ?_⟩ | refine .inr ⟨_, rfl, ?_⟩))
local macro_rules | `(tactic| walk_at "b") => `(tactic| try dsimp (config := { proj := false, iota := false, eta := false, zeta := false }) only)
section
variable {P : Program} {w : World} {K : PySem.W.Frag} {mg : Str → Option Value} {base : Heap}
theorem numB_take {bs : List Bool} {i : Nat} {b : Bool} (h : bs[i]? = some b) : numB (bs.take (i + 1)) = 2 * numB (bs.take i) + b.toNat := by
  rw [List.take_add_one, h]
  exact numB_snoc _ _
def sp_law_number : Sp := fun vs H Q _ => ∃ (bs : List Bool), vs = [.str (bS bs)] ∧ Q (.int (numB bs)) H
theorem G_law_number (T : Top K mg) : FnOk P w K mg base CX0 1 T.f_law_number T.fd_law_number ["_law_bits_here"] sp_law_number := by
  refine T.F_law_number.ok sc_law_number (fun vs H Q E h => by obtain ⟨bs, rfl, _⟩ := h; rfl) (fun cdv A outer s H vs Q E hr h => ?_)
  obtain ⟨bs, rfl, q⟩ := h
  refine ⟨_, PSs.nox (pss_cons (ps_set (i := 1) sc_law_number.nd rfl (by first | exact Or.inl rfl | exact Or.inr rfl) pe_int)
  (pss_cons (ps_for PassesOwn.never rfl (pi_str (pv 0)) (pg_name (i := 2) sc_law_number.nd rfl (by first | exact Or.inl rfl | exact Or.inr rfl))
    (pss_one (ps_set (i := 1) sc_law_number.nd rfl (by first | exact Or.inl rfl | exact Or.inr rfl) (pe_op op_add (pe_op op_mul (pv 1) pe_int) (pe_callTy call_int1 (by rfl) T.n_int (by decide +kernel) (pa_cons (pe_cmpR op_eq (pv 2) pe_str (nomark _)) pa_nil))))))
  (pss_one (ps_ret (pv 1))))), ?_⟩
  refine ⟨_, rfl, _, rfl, ?_⟩
  refine for_it walk_str (fun i σ H1 => ∃ v, σ = [some (.str (bS bs)), some (.int (numB (bs.take i))), v] ∧ H1 = H) ⟨none, rfl, rfl⟩ (fun _ _ _ _ _ => trivial) ?_ ?_
  · rintro i x σ H1 H2 hi ⟨v, rfl, rfl⟩ ⟨rfl, c, hc, rfl⟩
    obtain ⟨b, hb, ec⟩ := bS_at hc
    rw [ec]
    refine ⟨_, rfl, _, _, rfl, rfl, .inr ⟨by decide, by decide⟩, _, rfl, rfl, .inr ⟨_, rfl, _, _, rfl, rfl, ?_⟩⟩
    dsimp only
    rw [one_sign, bool_int]
    have e2 : ((numB (bs.take i) : Nat) : Int) * 2 + ((b.toNat : Nat) : Int) = ((numB (bs.take (i + 1)) : Nat) : Int) := by rw [numB_take hb]; omega
    rw [e2]
    exact ⟨_, rfl, rfl⟩
  · rintro σ H1 ⟨v, rfl, rfl⟩
    rw [bS_size, List.take_length]
    exact ⟨_, rfl, q⟩
def sp_law_bits : Sp := fun vs H Q _ => ∃ (n k : Nat), vs = [.int n, .int k] ∧ k ≤ 1000 ∧ ∀ H', Same H H' → Q (.str (bS (bitsB n k))) H'
theorem G_law_bits (T : Top K mg) : FnOk P w K mg base CX0 1 T.f_law_bits T.fd_law_bits ["_law_number_here", "_law_many"] sp_law_bits := by
  refine T.F_law_bits.ok sc_law_bits (fun vs H Q E h => by obtain ⟨n, k, rfl, _⟩ := h; rfl) (fun cdv A outer s H vs Q E hr h => ?_)
  obtain ⟨n, k, rfl, hk, q⟩ := h
  refine ⟨_, PSs.nox (pss_cons (ps_set (i := 2) sc_law_bits.nd rfl (by first | exact Or.inl rfl | exact Or.inr rfl) pe_str)
  (pss_cons (ps_for PassesOwn.never rfl (pi_range1 (by rfl) T.n_range (pa_cons (pv 1) pa_nil)) (pg_name (i := 3) sc_law_bits.nd rfl (by first | exact Or.inl rfl | exact Or.inr rfl))
    (pss_one (ps_set (i := 2) sc_law_bits.nd rfl (by first | exact Or.inl rfl | exact Or.inr rfl) (pe_op op_add_str (pe_ix (k_ixL K rfl) (pe_lst (pa_cons pe_str (pa_cons pe_str pa_nil))) (pe_op op_mod (pe_op op_shr (pv 0) (pv 3)) pe_int) (fun _ _ => rfl)) (pv 2)))))
  (pss_one (ps_ret (pv 2))))), ?_⟩
  refine ⟨_, rfl, _, rfl, by omega, by omega, ?_⟩
  refine for_range (lo := 0) (n := ((k : Int)).toNat) (fun i σ H1 => ∃ v, σ = [some (.int n), some (.int k), some (.str (bS (bitsB n i))), v] ∧ Same H H1) ⟨none, ?_, Same.refl _⟩ ?_ ?_
  · show _ = [some (V.int n), some (V.int k), some (V.str (bS [])), none]
    rw [← str_nil]
    rfl
  · rintro i σ H1 hi ⟨v, rfl, s1⟩
    rw [Int.toNat_natCast] at hi
    refine ⟨(show 2 ≤ sizeLine by decide), fun p np => ?_⟩
    obtain ⟨H2, e2, s2, h2⟩ := fresh (.lst [V.str (("0" : String) : Str), V.str (("1" : String) : Str)]) np
    rw [e2]
    refine ⟨_, rfl, _, rfl, _, _, rfl, rfl, by omega, _, _, rfl, rfl, (by show (0 : Int) < 2; decide), ?_⟩
    have e1 : (n : Int) / 2 ^ (0 + (i : Int)).toNat % 2 = (((n.testBit i).toNat : Nat) : Int) := by
      rw [show (0 + (i : Int)) = (i : Int) by omega, shrI, Nat.toNat_testBit, Nat.shiftRight_eq_div_pow]
      omega
    dsimp only
    rw [e1, str_zero, str_one] at *
    refine ⟨p, _, _, .str (bS [n.testBit i]), rfl, rfl, .inl (.inl h2), ?_, ?_⟩
    · cases n.testBit i <;> rfl
    · refine ⟨_, rfl, _, _, rfl, rfl, by rw [bS_len, bS_len, bitsB_len]; exact Nat.le_of_lt (small1000' (by simp; omega)), ?_⟩
      rw [bS_app]
      exact ⟨_, rfl, s1.trans s2⟩
  · rintro σ H1 ⟨v, rfl, s1⟩
    rw [Int.toNat_natCast]
    exact ⟨_, rfl, q _ s1⟩
def sp_law_drawn : Sp := fun vs H Q _ => ∃ (g : Addr) (n wd : Nat), vs = [.ref g, .int wd] ∧ GenAt H g n ∧ n ≤ 10 ^ 12 ∧ 1 ≤ wd ∧ wd ≤ 16 ∧ ∀ (l : Nat) H', l < 2 ^ wd → l % 2 = 1 → GenAt H' g (n + 100) → But g H H' → Q (.int l) H'
theorem G_law_drawn (T : Top K mg) : FnOk P w K mg base CX0 3 T.f_law_drawn T.fd_law_drawn ["_law_generator_here", "_law_width"] sp_law_drawn := by
  refine T.F_law_drawn.ok sc_law_drawn (fun vs H Q E h => by obtain ⟨g, n, wd, rfl, _⟩ := h; rfl) (fun cdv A outer s H vs Q E hr h => ?_)
  obtain ⟨g, n, wd, rfl, hg, hn, h1, h2, q⟩ := h
  refine ⟨_, PSs.nox (pss_one (ps_ret (pe_op op_add pe_int (pe_op op_mul pe_int (pe_call (G_law_random T) (hr.mono (by decide)) (by rfl) T.g_law_random T.F_law_random.kp T.b_law_random .nil pass0 (pa_cons (pv 0) (pa_cons (pe_op op_shl pe_int (pe_op op_sub (pv 1) pe_int)) pa_nil))))))), ?_⟩
  have e2 : 2 ^ wd = 2 ^ (wd - 1) * 2 := by
    rw [← Nat.pow_succ, show (wd - 1).succ = wd by omega]
  have h17 := pow17 (w := wd) h2
  have eb : (1 : Int) * 2 ^ ((wd : Int) - 1).toNat = ((2 ^ (wd - 1) : Nat) : Int) := by
    rw [Int.one_mul, show ((wd : Int) - 1).toNat = wd - 1 by omega, Int.natCast_pow]
    rfl
  have hp : 0 < 2 ^ (wd - 1) := Nat.pow_pos (by omega)
  refine ⟨_, rfl, _, rfl, _, _, rfl, rfl, _, _, rfl, rfl, ⟨by omega, by omega, by decide⟩, g, _, n, rfl, hg, hn, ?_, ?_, ?_⟩
  · omega
  · omega
  · intro d H1 d0 d1 hg1 b1
    refine ⟨_, _, rfl, rfl, .inl ⟨by decide, by decide⟩, _, _, rfl, rfl, ?_⟩
    have e3 : 1 + 2 * d = ((1 + 2 * d.toNat : Nat) : Int) := by omega
    dsimp only
    rw [e3]
    exact q _ _ (by omega) (by omega) hg1 b1
def sp_law_row : Sp := fun vs H Q _ => ∃ (g : Addr) (n k : Nat), vs = [.ref g, .int k] ∧ GenAt H g n ∧ n ≤ 10 ^ 12 ∧ k ≤ 1000 ∧ ∀ (bs : List Bool) H', bs.length = k → GenAt H' g (n + 100) → But g H H' → Q (.str (bS bs)) H'
end
end My

namespace My
open PySem PySem.Spec PyProof.Rows L2 Pre
theorem k_all {X : Cx} (K : PySem.W.Frag) (h : X.K = K) (hc : X.calm = true) : CallR X (.builtin "all") (rAll K) := by subst h; exact cr_all hc
theorem DtA.boolsE {H : Hp} : ∀ {bs : List Bool} {vs : List V}, DtA H vs (bs.map PyData.bool) → vs = bs.map V.bl
  | [], _, h => by cases h; rfl
  | b :: bs, _, h => by
    cases h with
    | cons a c =>
      cases a
      rw [DtA.boolsE c]
      rfl
theorem all_true (n : Nat) : (List.replicate n true).all id = true := by
  induction n with
  | zero => rfl
  | succ n ih => rw [List.replicate_succ, List.all_cons, ih]; rfl
theorem prod_mod (a b i : Nat) : prod a (b % 2 ^ (i + 1)) = prod a (b % 2 ^ i) ^^^ (if b >>> i % 2 = 1 then a <<< i else 0) := by
  have hi : b % 2 ^ i < 2 ^ i := Nat.mod_lt _ (Nat.pow_pos (by decide))
  have e : b % 2 ^ (i + 1) = b % 2 ^ i ^^^ ((b >>> i % 2) <<< i) := by
    refine Nat.eq_of_testBit_eq fun j => ?_
    rw [Nat.testBit_xor, Nat.testBit_mod_two_pow, Nat.testBit_mod_two_pow, Nat.testBit_shiftLeft]
    have hb : ∀ k, (b >>> i % 2).testBit k = (decide (k = 0) && b.testBit i) := fun k => by
      have : b >>> i % 2 = (b.testBit i).toNat := by rw [Nat.toNat_testBit, Nat.shiftRight_eq_div_pow]
      rw [this]
      cases b.testBit i <;> cases k <;> simp [Nat.testBit_succ]
    rw [hb]
    rcases Nat.lt_trichotomy j i with c | c | c
    · simp [show j < i + 1 by omega, c, show ¬ i ≤ j by omega]
    · subst c
      simp
    · simp [show ¬ j < i + 1 by omega, show ¬ j < i by omega, show ¬ j - i = 0 by omega]
  rw [e, prod_comm, prod_xorl, prod_comm _ a]
  congr 1
  have c : b >>> i % 2 = 0 ∨ b >>> i % 2 = 1 := by omega
  rcases c with c | c
  · rw [c, if_neg (by decide), Nat.zero_shiftLeft, prod_zerol]
  · rw [c, if_pos rfl, prod_comm]
    have : ∀ k, prod a (1 <<< k) = a <<< k := fun k => by
      induction k with
      | zero => rw [Nat.shiftLeft_zero, Nat.shiftLeft_zero, prod_comm, prod_one]
      | succ k ih =>
        rw [Nat.shiftLeft_succ, Nat.shiftLeft_succ, ← ih]
        have := prod_bit a (1 <<< k) 0 (by decide)
        simp only [Nat.add_zero] at this
        rw [this, if_neg (by decide), Nat.xor_zero]
    exact this i
/-- ways that meet again, whatever they stored -/
theorem joinS {b : Bool} {A : Prop} {R : L2.St → Hp → Prop} {σ : L2.St} {H : Hp} (Pv : L2.St → Hp → Prop) (cont : ∀ σ' H', Pv σ' H' → R σ' H') (h1 : b = true → (∀ σ' H', Pv σ' H' → R σ' H') → A) (h2 : b = false → Pv σ H) : if b = true then A else R σ H := by
  cases b with
  | true => rw [if_pos rfl]; exact h1 rfl cont
  | false => rw [if_neg (by decide)]; exact cont _ _ (h2 rfl)
local macro_rules | `(tactic| walk_at "go") => `(tactic| repeat (first | (with_reducible first | refine iteT ?_ | refine iteF ?_ | refine iteNtt ?_ | refine iteNff ?_ | refine iteET (by omega) ?_ | refine iteEF (by omega) ?_ | refine iteENT (by omega) ?_ | refine iteENF (by omega) ?_ | refine iteDT (by omega) ?_ | refine iteDF (by omega) ?_ | refine iteNT (by omega) ?_ | refine iteNF (by omega) ?_) | refine ⟨_, rfl, ?_⟩ | refine ⟨_, _, rfl, rfl, ?_⟩ | refine ⟨_, _, rfl, ?_⟩ | refine ⟨rfl, ?_⟩ | refine .inl ⟨_, rfl, ?_⟩ | refine .inr ⟨_, rfl, ?_⟩))
local macro_rules | `(tactic| walk_at "b") => `(tactic| try dsimp (config := { proj := false, iota := false, eta := false, zeta := false }) only)
section
variable {P : Program} {w : World} {K : PySem.W.Frag} {mg : Str → Option Value} {base : Heap}
/-- ascending places -/
def Rising (ts : List Nat) : Prop := ts.Pairwise (· < ·) ∧ (∀ t ∈ ts, t ≤ 10 ^ 18) ∧ ts.length ≤ 1000
def natI (ts : List Nat) : List Int := ts.map fun (t : Nat) => (t : Int)
theorem nat_at {ts : List Nat} {i : Nat} {x : V} (h : ((natI ts).map V.int)[i]? = some x) : ∃ t, ts[i]? = some t ∧ x = .int (t : Int) := by
  obtain ⟨n, hn, rfl⟩ := int_at h
  unfold natI at hn
  rw [List.getElem?_map] at hn
  obtain ⟨t, ht, rfl⟩ := Option.map_eq_some_iff.mp hn
  exact ⟨t, ht, rfl⟩
theorem nat_len (ts : List Nat) : ((natI ts).map V.int).length = ts.length := by unfold natI; rw [List.length_map, List.length_map]
theorem rd_listC {K : PySem.W.Frag} {H : Hp} {a : Addr} {xs : List V} (h : Rd H a (.lst xs)) : TyX K H (.ref a) (.type "list") := by
  rcases h with h | ⟨o, h⟩
  · exact .base (.lst h)
  · exact .base (.frz h)
def sp_are_places (K : PySem.W.Frag) : Sp := fun vs H Q _ => ∃ (a : Addr) (ts : List Nat), vs = [.ref a] ∧ H a = some (.lst ((natI ts).map V.int)) ∧ Rising ts ∧ ∀ H', Same H H' → Q (.bl true) H'
def sp_check_places : Sp := fun vs H Q _ => ∃ (a : Addr) (ts : List Nat), vs = [.ref a] ∧ H a = some (.lst ((natI ts).map V.int)) ∧ Rising ts ∧ ∀ H', Same H H' → Q .non H'
def sp_check_rest (C : Addr) : Sp := fun vs H Q _ => ∃ (a : Addr) (wd W n : Nat), vs = [.ref a, .int n] ∧ CheckAt C H a wd W ∧ n < 2 ^ wd ∧ Q .non H
theorem G_check_rest (T : Top K mg) : FnOk P w K mg base CX0 4 T.f_check_rest T.fd_check_rest ["check", "value"] (sp_check_rest T.C_Check) := by
  refine T.F_check_rest.ok sc_check_rest (fun vs H Q E h => by obtain ⟨a, wd, W, n, rfl, _⟩ := h; rfl) (fun cdv A outer s H vs Q E hr h => ?_)
  obtain ⟨a, wd, W, n, rfl, hC, hn, q⟩ := h
  refine ⟨_, PSs.nox (pss_one (ps_expr (pe_call (G_check_number T) (hr.mono (by decide)) (by rfl) T.g_check_number T.F_check_number.kp T.b_check_number .nil pass0 (pa_cons (pv 1) (pa_cons pe_int (pa_cons (pe_op op_sub (pe_op op_shl pe_int (pe_fld (pv 0) rfl)) pe_int) pa_nil)))))), ?_⟩
  obtain ⟨hK, hw, dx, ha⟩ := id hC
  refine ⟨_, rfl, _, rfl, a, T.C_Check, dx, _, _, rfl, ha, T.cl_Check, T.na_Check_size, rfl, _, _, rfl, rfl, ⟨by omega, by omega, by decide⟩, _, _, rfl, rfl, n, 0, some _, rfl, by omega, (fun j h => by
    cases h
    rw [Int.one_mul, Int.toNat_natCast]
    have : ((2 ^ wd : Nat) : Int) = 2 ^ wd := by rw [Int.natCast_pow]; rfl
    omega), q⟩
theorem shr_half (b k : Nat) : b >>> (k + 1) = b >>> k / 2 := Nat.shiftRight_succ b k
def sp_rest_times (C : Addr) : Sp := fun vs H Q _ => ∃ (a : Addr) (wd W m n : Nat), vs = [.ref a, .int m, .int n] ∧ CheckAt C H a wd W ∧ m < 2 ^ wd ∧ n < 2 ^ wd ∧ Q (.int (mulR wd W m n)) H
def sp_power_of (C : Addr) : Sp := fun vs H Q _ => ∃ (a : Addr) (wd W n : Nat), vs = [.ref a, .int n] ∧ CheckAt C H a wd W ∧ Q (.int (pw wd W n)) H
def sp_sum_at (C : Addr) (K : PySem.W.Frag) : Sp := fun vs H Q _ => ∃ (a b : Addr) (wd W : Nat) (ts : List Nat), vs = [.ref a, .ref b] ∧ CheckAt C H a wd W ∧ SqL K H b ((natI ts).map V.int) ∧ Q (.int (valP wd W ts)) H
theorem valP_take {wd W : Nat} {ts : List Nat} {i t : Nat} (h : ts[i]? = some t) : valP wd W (ts.take (i + 1)) = valP wd W (ts.take i) ^^^ pw wd W t := by
  rw [List.take_add_one, h]
  unfold valP
  rw [List.foldl_append]
  rfl
def sp_rest (C : Addr) : Sp := fun vs H Q _ => ∃ (a : Addr) (wd W : Nat) (bs : List Bool), vs = [.ref a, .str (bS bs)] ∧ CheckAt C H a wd W ∧ bs.length ≤ 1000 ∧ ∀ H', Same H H' → Q (.int (restB wd W bs)) H'
theorem G_rest (T : Top K mg) : FnOk P w K mg base CX0 3 T.f_rest T.fd_rest ["check", "bits"] (sp_rest T.C_Check) := by
  refine T.F_rest.ok sc_rest (fun vs H Q E h => by obtain ⟨a, wd, W, bs, rfl, _⟩ := h; rfl) (fun cdv A outer s H vs Q E hr h => ?_)
  obtain ⟨a, wd, W, bs, rfl, hC, hl, q⟩ := h
  refine ⟨_, PSs.nox (pss_cons (ps_expr (pe_call (G_check_check T) (hr.mono (by decide)) (by rfl) T.g_check_check T.F_check_check.kp T.b_check_check .nil pass0 (pa_cons (pv 0) pa_nil)))
  (pss_cons (ps_expr (pe_call (G_check_bits T) (hr.mono (by decide)) (by rfl) T.g_check_bits T.F_check_bits.kp T.b_check_bits .nil pass0 (pa_cons (pv 1) pa_nil)))
  (pss_one (ps_ret (pe_call (G_rest_of T) (hr.mono (by decide)) (by rfl) T.g_rest_of T.F_rest_of.kp T.b_rest_of .nil pass0 (pa_cons (pv 0) (pa_cons (pv 1) pa_nil))))))), ?_⟩
  refine ⟨_, rfl, a, wd, W, rfl, hC, _, rfl, bs, rfl, by omega, fun H1 s1 => ?_⟩
  exact ⟨_, rfl, _, rfl, a, wd, W, bs, rfl, hC.same s1, q _ s1⟩
def sp_is_right (C : Addr) : Sp := fun vs H Q _ => ∃ (a : Addr) (wd W : Nat) (bs : List Bool), vs = [.ref a, .str (bS bs)] ∧ CheckAt C H a wd W ∧ bs.length ≤ 1000 ∧ ∀ H', Same H H' → Q (.bl (decide (restB wd W bs = 0))) H'
theorem dec_nat (n m : Nat) : decide (V.int ((n : Nat) : Int) = V.int ((m : Nat) : Int)) = decide (n = m) := by
  by_cases h : n = m
  · rw [decide_eq_true h, decide_eq_true (by rw [h])]
  · rw [decide_eq_false h, decide_eq_false (fun z => h (by have := V.int.inj z; omega))]
theorem G_is_right (T : Top K mg) : FnOk P w K mg base CX0 4 T.f_is_right T.fd_is_right ["check", "bits"] (sp_is_right T.C_Check) := by
  refine T.F_is_right.ok sc_is_right (fun vs H Q E h => by obtain ⟨a, wd, W, bs, rfl, _⟩ := h; rfl) (fun cdv A outer s H vs Q E hr h => ?_)
  obtain ⟨a, wd, W, bs, rfl, hC, hl, q⟩ := h
  refine ⟨_, PSs.nox (pss_one (ps_ret (pe_cmpR op_eq (pe_call (G_rest T) (hr.mono (by decide)) (by rfl) T.g_rest T.F_rest.kp T.b_rest .nil pass0 (pa_cons (pv 0) (pa_cons (pv 1) pa_nil))) pe_int (nomark _)))), ?_⟩
  refine ⟨_, rfl, _, rfl, a, wd, W, bs, rfl, hC, hl, fun H1 s1 => ⟨rfl, ?_⟩⟩
  have e := dec_nat (restB wd W bs) 0
  have z := q _ s1
  rw [← e] at z
  exact z
def sp_power (C : Addr) : Sp := fun vs H Q _ => ∃ (a : Addr) (wd W n : Nat), vs = [.ref a, .int n] ∧ CheckAt C H a wd W ∧ n ≤ 10 ^ 18 ∧ Q (.int (pw wd W n)) H
def sp_joined_word (C : Addr) : Sp := fun vs H Q _ => ∃ (a : Addr) (wd W m n k : Nat), vs = [.ref a, .int m, .int n, .int k] ∧ CheckAt C H a wd W ∧ m < 2 ^ wd ∧ n < 2 ^ wd ∧ k ≤ 10 ^ 18 ∧ Q (.int (shn wd W k m ^^^ n : Nat)) H
def sp_turned_word (C : Addr) : Sp := fun vs H Q _ => ∃ (a b : Addr) (wd W m : Nat) (ts : List Nat), vs = [.ref a, .int m, .ref b] ∧ CheckAt C H a wd W ∧ m < 2 ^ wd ∧ H b = some (.lst ((natI ts).map V.int)) ∧ Rising ts ∧ ∀ H', Same H H' → Q (.int (m ^^^ valP wd W (ts.map fun t => t + wd) : Nat)) H'
def sp_law_product : Sp := fun vs H Q _ => ∃ (m n : Nat), vs = [.int m, .int n] ∧ m < 2 ^ 20 ∧ n < 2 ^ 1000 ∧ Q (.int (prod m n)) H
theorem G_law_product (T : Top K mg) : FnOk P w K mg base CX0 1 T.f_law_product T.fd_law_product ["_law_one", "_law_other"] sp_law_product := by
  refine T.F_law_product.ok sc_law_product (fun vs H Q E h => by obtain ⟨m, n, rfl, _⟩ := h; rfl) (fun cdv A outer s H vs Q E hr h => ?_)
  obtain ⟨m, n, rfl, hm, hn, q⟩ := h
  refine ⟨_, PSs.nox (pss_cons (ps_set (i := 2) sc_law_product.nd rfl (by first | exact Or.inl rfl | exact Or.inr rfl) pe_int)
  (pss_cons (ps_for PassesOwn.never rfl (pi_range1 (by rfl) T.n_range (pa_cons (pe_bits (pv 1)) pa_nil)) (pg_name (i := 3) sc_law_product.nd rfl (by first | exact Or.inl rfl | exact Or.inr rfl))
    (pss_one (ps_if (pt_cmpR op_eq (pe_op op_mod (pe_op op_shr (pv 1) (pv 3)) pe_int) pe_int (nomark _))
    (pss_one (ps_set (i := 2) sc_law_product.nd rfl (by first | exact Or.inl rfl | exact Or.inr rfl) (pe_op op_xor (pv 2) (pe_op op_shl (pv 0) (pv 3)))))
    pss_nil)))
  (pss_one (ps_ret (pv 2))))), ?_⟩
  have hb : Builtin.Int.intBits (n : Int) ≤ 1000 := bl_iff.mpr hn
  have hn2 : n < 2 ^ Builtin.Int.intBits (n : Int) := bl_iff.mp (Nat.le_refl _)
  obtain ⟨k, ek⟩ : ∃ k, Builtin.Int.intBits (n : Int) = k := ⟨_, rfl⟩
  rw [ek] at hb hn2
  refine ⟨_, rfl, _, rfl, _, rfl, by rw [ek]; omega, by rw [ek]; omega, ?_⟩
  rw [ek]
  refine for_range (lo := 0) (n := ((k : Int)).toNat) (fun i σ H1 => ∃ v, σ = [some (.int m), some (.int n), some (.int (prod m (n % 2 ^ i))), v] ∧ H1 = H) ⟨none, ?_, rfl⟩ ?_ ?_
  · rw [Nat.pow_zero, Nat.mod_one, prod_zero]
    rfl
  · rintro i σ H1 hi ⟨v, rfl, rfl⟩
    rw [Int.toNat_natCast] at hi
    rw [show (0 + (i : Int)) = (i : Int) by omega]
    have st := prod_mod m n i
    have eb : (n : Int) / 2 ^ ((i : Int)).toNat % 2 = (((n >>> i) % 2 : Nat) : Int) := by rw [shrI]; omega
    refine ⟨_, rfl, _, rfl, _, _, rfl, rfl, by omega, _, _, rfl, rfl, (by show (0 : Int) < 2; decide), rfl, _, rfl, ?_⟩
    by_cases c : n >>> i % 2 = 1
    · refine iteET (eb.trans (by rw [c]; rfl)) ?_
      rw [if_pos c] at st
      refine ⟨_, rfl, _, rfl, _, rfl, _, _, rfl, rfl, ⟨by omega, by omega, by omega⟩, _, _, rfl, rfl, ?_⟩
      dsimp only
      rw [shlI, bx, ← st]
      exact ⟨_, rfl, rfl⟩
    · refine iteEF (fun z => c (by have z2 := eb.symm.trans z; omega)) ?_
      rw [if_neg c, Nat.xor_zero] at st
      rw [← st]
      exact ⟨_, rfl, rfl⟩
  · rintro σ H1 ⟨v, rfl, rfl⟩
    rw [Int.toNat_natCast, Nat.mod_eq_of_lt hn2]
    exact ⟨_, rfl, q⟩
def sp_law_power : Sp := fun vs H Q _ => ∃ (wd W n : Nat), vs = [.int W, .int n] ∧ Ck wd W ∧ wd ≤ 16 ∧ Q (.int (pw wd W n)) H
end
end My

namespace My
open PySem PySem.Spec PyProof.Rows L2 Pre
/-- a dict comprehension over a walk -/
theorem dc_it {J : It} {n : Nat} {G : Hp → Prop} {Y : Nat → Hp → V → Hp → Prop} (w : Walk J n G Y) {g : TG} {tt : TT} {tk tv : TE} {vs : List Nat} {σ : L2.St} {H1 : Hp} {D : Addr} {Qd : Hp → Prop} (Pv : Nat → Hp → Prop) (h0 : Pv 0 (upd H1 D (.dK []))) (hG : ∀ i H, i ≤ n → Pv i H → G H)
    (hs : ∀ i x H H', i < n → Pv i H → Y i H x H' → g x (wipe σ vs) H' fun σ2 H2 => wipe σ2 vs = wipe σ vs ∧ tt σ2 H2 fun b H3 =>
      if b = true then tk σ2 H3 fun y H4 => tv σ2 H4 fun z H5 => ∃ kvs k, y = kV k ∧ H5 D = some (.dK kvs) ∧ kvs.length < sizeLine ∧ Pv (i + 1) (upd H5 D (.dK (putK kvs k z))) else Pv (i + 1) H3) (hd : ∀ H, Pv n H → Qd H) :
    ∃ W : Nat → Nat → Hp → Prop, (∃ m, W 0 m (upd H1 D (.dK []))) ∧ ∀ i m H, W i m H →
      (J.stop i H ∧ Qd H) ∨ (J.go i H ∧ ∃ Nx : Hp → Prop, (∀ H', Nx H' → ∃ m', m' < m ∧ W (i + 1) m' H') ∧ ∀ x H', J.yld i H x H' → g x (wipe σ vs) H' fun σ2 H2 => wipe σ2 vs = wipe σ vs ∧ tt σ2 H2 fun b H3 =>
        if b = true then tk σ2 H3 fun y H4 => tv σ2 H4 fun z H5 => ∃ kvs k, y = kV k ∧ H5 D = some (.dK kvs) ∧ kvs.length < sizeLine ∧ Nx (upd H5 D (.dK (putK kvs k z))) else Nx H3) := by
  refine ⟨fun i m H => m + i = n ∧ Pv i H, ⟨n, by omega, h0⟩, ?_⟩
  rintro i m H ⟨hm, p⟩
  have q := hG i H (by omega) p
  rcases Nat.lt_or_ge i n with c | c
  · exact .inr ⟨w.goes i H c q, Pv (i + 1), fun H' p' => ⟨m - 1, by omega, by omega, p'⟩, fun x H' y => hs i x H H' c p (w.yields i H x H' c q y)⟩
  · have e : i = n := by omega
    subst e
    exact .inl ⟨w.stops H q, hd H p⟩
/-! ### powers in a list -/
def powsL (wd W d : Nat) : List Int := (List.range d).map fun i => ((pw wd W i : Nat) : Int)
theorem powsL_len (wd W d : Nat) : (powsL wd W d).length = d := by simp [powsL]
theorem powsL_at {wd W d i : Nat} (h : i < d) : (powsL wd W d)[i]? = some ((pw wd W i : Nat) : Int) := by simp [powsL, h]
theorem powsL_next (wd W d : Nat) : powsL wd W (d + 1) = powsL wd W d ++ [((pw wd W d : Nat) : Int)] := by simp [powsL, List.range_succ]
theorem powsL_atI {wd W d i : Nat} (h : i < d) : atI ((powsL wd W d).map V.int) (i : Int) = some (.int ((pw wd W i : Nat) : Int)) := atI_nat (by rw [List.getElem?_map, powsL_at h]; rfl)
/-- a dict of the first d powers' places -/
def SpotsD (wd W d : Nat) (kvs : List (Key × V)) : Prop := kvs.length ≤ d ∧ (∀ i, i < d → valV kvs (.inl ((pw wd W i : Nat) : Int)) = some (.int i)) ∧ ∀ x : Int, (∀ i, i < d → ((pw wd W i : Nat) : Int) ≠ x) → valV kvs (.inl x) = none
theorem inl_ne {a b : Int} (h : a ≠ b) : (Sum.inl a : Key) ≠ Sum.inl b := fun z => h (Sum.inl.inj z)
theorem SpotsD.next {wd W d e : Nat} {kvs : List (Key × V)} (C : Ck wd W) (O : IsOrder wd W e) (hd : d < e) (h : SpotsD wd W d kvs) : SpotsD wd W (d + 1) (putK kvs (.inl ((pw wd W d : Nat) : Int)) (.int d)) := by
  obtain ⟨h1, h2, h3⟩ := h
  refine ⟨?_, fun i hi => ?_, fun x hx => ?_⟩
  · have := length_putK kvs (.inl ((pw wd W d : Nat) : Int)) (.int d)
    omega
  · rw [valV_put]
    by_cases c : i = d
    · subst c
      rw [if_pos rfl]
    · rw [if_neg (inl_ne fun z => no2 C O (a := i) (b := d) (by omega) hd (by omega))]
      exact h2 i (by omega)
  · rw [valV_put, if_neg (inl_ne fun z => hx d (by omega) z.symm)]
    exact h3 x fun i hi => hx i (by omega)
/-- spots.get(x, 0) of it -/
theorem SpotsD.get {wd W d : Nat} {kvs : List (Key × V)} (h : SpotsD wd W d kvs) (x : Nat) : ∃ i : Nat, (valV kvs (.inl (x : Int))).getD (.int 0) = .int i ∧ ((i < d ∧ pw wd W i = x) ∨ (i = 0 ∧ ∀ j, j < d → pw wd W j ≠ x)) := by
  by_cases c : ∃ i, i < d ∧ pw wd W i = x
  · obtain ⟨i, hi, rfl⟩ := c
    exact ⟨i, by rw [h.2.1 i hi]; rfl, .inl ⟨hi, rfl⟩⟩
  · refine ⟨0, ?_, .inr ⟨rfl, fun j hj z => c ⟨j, hj, z⟩⟩⟩
    rw [h.2.2 x fun i hi z => c ⟨i, hi, by omega⟩]
    rfl
local macro_rules | `(tactic| walk_at "go") => `(tactic| repeat (first | (with_reducible first | refine iteT ?_ | refine iteF ?_ | refine iteNtt ?_ | refine iteNff ?_ | refine iteET (by omega) ?_ | refine iteEF (by omega) ?_ | refine iteENT (by omega) ?_ | refine iteENF (by omega) ?_ | refine iteDT (by omega) ?_ | refine iteDF (by omega) ?_ | refine iteNT (by omega) ?_ | refine iteNF (by omega) ?_) | refine ⟨_, rfl, ?_⟩ | refine ⟨_, _, rfl, rfl, ?_⟩ | refine ⟨_, _, rfl, ?_⟩ | refine ⟨rfl, ?_⟩ | refine .inl ⟨_, rfl, ?_⟩ | refine .inr ⟨_, rfl, ?_⟩))
local macro_rules | `(tactic| walk_at "b") => `(tactic| try dsimp (config := { proj := false, iota := false, eta := false, zeta := false }) only)
section
variable {P : Program} {w : World} {K : PySem.W.Frag} {mg : Str → Option Value} {base : Heap}
def sp_powers_of (C : Addr) : Sp := fun vs H Q _ => ∃ (a : Addr) (wd W : Nat), vs = [.ref a] ∧ CheckAt C H a wd W ∧ ∀ (d : Nat) H' p, IsOrder wd W d → d < 2 ^ wd → Same H H' → H p = none → H' p = some (.lst ((powsL wd W d).map V.int)) → Q (.ref p) H'
def sp_spots_of (K : PySem.W.Frag) : Sp := fun vs H Q _ => ∃ (a : Addr) (wd W d : Nat), vs = [.ref a] ∧ SqL K H a ((powsL wd W d).map V.int) ∧ Ck wd W ∧ IsOrder wd W d ∧ d ≤ 2048 ∧ ∀ H' p kvs, Same H H' → H p = none → H' p = some (.dK kvs) → SpotsD wd W d kvs → Q (.ref p) H'
def sp_least_of_three (K : PySem.W.Frag) : Sp := fun vs H Q _ => ∃ (a b : Addr) (wd W d : Nat) (kvs : List (Key × V)), vs = [.ref a, .ref b] ∧ SqL K H a ((powsL wd W d).map V.int) ∧ H b = some (.dK kvs) ∧ SpotsD wd W d kvs ∧ ∀ (t : Nat) H', Same H H' → IsFirst (Three wd W) d t → Q (.int t) H'
end
end My

namespace My
open PySem PySem.Spec PyProof.Rows L2 Pre
/-- a dict of the sums of two places below p, and of p with those below j -/
def PairsD (wd W p j : Nat) (kvs : List (Key × V)) : Prop := ∀ x : Nat, (valV kvs (.inl (x : Int))).isSome = true ↔ (∃ o q, 0 < o ∧ o < q ∧ q < p ∧ pw wd W o ^^^ pw wd W q = x) ∨ ∃ o, 0 < o ∧ o < j ∧ pw wd W o ^^^ pw wd W p = x
theorem PairsD.put {wd W p j : Nat} {kvs : List (Key × V)} (h0 : 0 < j) (h : PairsD wd W p j kvs) : PairsD wd W p (j + 1) (putK kvs (.inl ((pw wd W j ^^^ pw wd W p : Nat) : Int)) (.bl true)) := fun x => by
  rw [valV_put]
  by_cases c : (x : Int) = ((pw wd W j ^^^ pw wd W p : Nat) : Int)
  · rw [c, if_pos rfl]
    refine ⟨fun _ => .inr ⟨j, h0, by omega, by omega⟩, fun _ => rfl⟩
  · rw [if_neg (fun z => c (Sum.inl.inj z)), h x]
    constructor
    · rintro (z | ⟨o, h1, h2, h3⟩)
      · exact .inl z
      · exact .inr ⟨o, h1, by omega, h3⟩
    · rintro (z | ⟨o, h1, h2, h3⟩)
      · exact .inl z
      · by_cases e : o = j
        · subst e
          omega
        · exact .inr ⟨o, h1, by omega, h3⟩
theorem PairsD.next {wd W p : Nat} {kvs : List (Key × V)} (h0 : 0 < p) (h : PairsD wd W p p kvs) : PairsD wd W (p + 1) 1 kvs := fun x => by
  rw [h x]
  constructor
  · rintro (⟨o, q, h1, h2, h3, h4⟩ | ⟨o, h1, h2, h3⟩)
    · exact .inl ⟨o, q, h1, h2, by omega, h4⟩
    · exact .inl ⟨o, p, h1, h2, by omega, h3⟩
  · rintro (⟨o, q, h1, h2, h3, h4⟩ | ⟨o, h1, h2, h3⟩)
    · by_cases e : q = p
      · subst e
        exact .inr ⟨o, h1, h2, h4⟩
      · exact .inl ⟨o, q, h1, h2, by omega, h4⟩
    · omega
theorem PairsD.none {wd W : Nat} : PairsD wd W 1 1 [] := fun x => by
  constructor
  · intro h
    cases h
  · rintro (⟨o, q, h1, h2, h3, h4⟩ | ⟨o, h1, h2, h3⟩) <;> omega
theorem PairsD.four {wd W p : Nat} {kvs : List (Key × V)} (h : PairsD wd W p 1 kvs) : (valV kvs (.inl ((pw wd W p ^^^ 1 : Nat) : Int))).isSome = true ↔ Four wd W p := by
  rw [h]
  constructor
  · rintro (z | ⟨o, h1, h2, h3⟩)
    · exact z
    · omega
  · exact fun z => .inl z
local macro_rules | `(tactic| walk_at "go") => `(tactic| repeat (first | (with_reducible first | refine iteT ?_ | refine iteF ?_ | refine iteNtt ?_ | refine iteNff ?_ | refine iteET (by omega) ?_ | refine iteEF (by omega) ?_ | refine iteENT (by omega) ?_ | refine iteENF (by omega) ?_ | refine iteDT (by omega) ?_ | refine iteDF (by omega) ?_ | refine iteNT (by omega) ?_ | refine iteNF (by omega) ?_) | refine ⟨_, rfl, ?_⟩ | refine ⟨_, _, rfl, rfl, ?_⟩ | refine ⟨_, _, rfl, ?_⟩ | refine ⟨rfl, ?_⟩ | refine .inl ⟨_, rfl, ?_⟩ | refine .inr ⟨_, rfl, ?_⟩))
local macro_rules | `(tactic| walk_at "b") => `(tactic| try dsimp (config := { proj := false, iota := false, eta := false, zeta := false }) only)
section
variable {P : Program} {w : World} {K : PySem.W.Frag} {mg : Str → Option Value} {base : Heap}
def sp_least_of_four (K : PySem.W.Frag) : Sp := fun vs H Q _ => ∃ (a : Addr) (wd W d m : Nat), vs = [.ref a, .int m] ∧ SqL K H a ((powsL wd W d).map V.int) ∧ m ≤ d ∧ 1 ≤ m ∧ d ≤ 2048 ∧ ∀ (t : Nat) H', Same H H' → IsFirst (Four wd W) m t → Q (.int t) H'
def sp_longest_of (K : PySem.W.Frag) : Sp := fun vs H Q _ => ∃ (a : Addr) (wd W d few : Nat), vs = [.ref a, .int few] ∧ SqL K H a ((powsL wd W d).map V.int) ∧ Ck wd W ∧ IsOrder wd W d ∧ d ≤ 2048 ∧ 3 ≤ few ∧ few ≤ 5 ∧ ∀ (t : Nat) H', Same H H' → IsLongest wd W few t → Q (.int t) H'
def sp_longest (C : Addr) : Sp := fun vs H Q _ => ∃ (a : Addr) (wd W few : Nat), vs = [.ref a, .int few] ∧ CheckAt C H a wd W ∧ (∀ d, IsOrder wd W d → d ≤ 2048) ∧ 3 ≤ few ∧ few ≤ 5 ∧ ∀ (t : Nat) H', Same H H' → IsLongest wd W few t → Q (.int t) H'
end
end My

namespace My
section
variable {w W : Nat} (C : Ck w W)
theorem first_ex (P : Nat → Prop) (n : Nat) : ∃ t, IsFirst P n t := by
  induction n with
  | zero => exact ⟨0, Nat.le_refl _, fun p h => absurd h (by omega), fun h => absurd h (by omega)⟩
  | succ n ih =>
    obtain ⟨t, h1, h2, h3⟩ := ih
    by_cases c : t < n
    · exact ⟨t, by omega, h2, fun _ => h3 c⟩
    · have e : t = n := by omega
      subst e
      by_cases d : P t
      · exact ⟨t, by omega, h2, fun _ => d⟩
      · exact ⟨t + 1, Nat.le_refl _, fun p hp => by
          by_cases z : p < t
          · exact h2 p z
          · rw [show p = t by omega]; exact d, fun h => absurd h (by omega)⟩
/-- the order, the first three, the first four -/
def Bounds (w W d t f : Nat) : Prop := IsOrder w W d ∧ IsFirst (Three w W) d t ∧ IsFirst (Four w W) t f
theorem bounds_ex (C : Ck w W) : ∃ d t f, Bounds w W d t f := by
  obtain ⟨d, hd, _⟩ := order_ex C
  obtain ⟨t, ht⟩ := first_ex (Three w W) d
  obtain ⟨f, hf⟩ := first_ex (Four w W) t
  exact ⟨d, t, f, hd, ht, hf⟩
theorem bounds_longest {d t f few L : Nat} (h : Bounds w W d t f) (hL : IsLongest w W few L) : (few = 3 ∧ L = d) ∨ (few = 4 ∧ L = t) ∨ (few = 5 ∧ L = f) := by
  rcases hL with ⟨e, a⟩ | ⟨e, d', a, a1⟩ | ⟨e, d', t', a, a1, a2⟩
  · exact .inl ⟨e, order_uniq a h.1⟩
  · cases order_uniq a h.1
    exact .inr (.inl ⟨e, first_uniq a1 h.2.1⟩)
  · cases order_uniq a h.1
    cases first_uniq a1 h.2.1
    exact .inr (.inr ⟨e, first_uniq a2 h.2.2⟩)
def distF (d t f n : Nat) : Option Nat := if d < n then some 2 else if t < n then some 3 else if f < n then some 4 else none
include C
theorem pw_add (k : Nat) {i j : Nat} (h : pw w W i = pw w W j) : pw w W (i + k) = pw w W (j + k) := by
  rw [← shn_pw, ← shn_pw, h]
theorem pw_mod {d : Nat} (O : IsOrder w W d) (n : Nat) : pw w W n = pw w W (n % d) := by
  induction n using Nat.strongRecOn with
  | _ n ih =>
    by_cases h : n < d
    · rw [Nat.mod_eq_of_lt h]
    · have hp := O.pos
      have e := pw_add C (n - d) (i := d) (j := 0) (by rw [O.at_, pw_zero C])
      rw [show d + (n - d) = n by omega, Nat.zero_add] at e
      rw [e, ih (n - d) (by omega)]
      congr 1
      exact (Nat.mod_eq_sub_mod (by omega)).symm
theorem pw_same {d : Nat} (O : IsOrder w W d) (a k : Nat) : pw w W a = pw w W (a + k) ↔ k % d = 0 := by
  have hp := O.pos
  constructor
  · intro h
    have := pw_back C (a := 0) (b := k) (k := a) (by rw [Nat.zero_add, Nat.add_comm k a]; exact h)
    rw [pw_zero C, pw_mod C O k] at this
    by_cases z : k % d = 0
    · exact z
    · exact absurd this.symm (O.ne _ (by omega) (Nat.mod_lt _ (by omega)))
  · intro h
    have : pw w W 0 = pw w W k := by rw [pw_mod C O k, h]
    have := pw_add C a this
    rw [Nat.zero_add, Nat.add_comm] at this
    exact this
/-! ### the first ones -/
omit C in
structure First3 (w W n o q : Nat) : Prop where
  h0 : 0 < o
  h1 : o < q
  h2 : q < n
  at_ : pw w W q = pw w W o ^^^ 1
  ne : ∀ o', 0 < o' → o' < o → ¬ ∃ q', o' < q' ∧ q' < n ∧ pw w W q' = pw w W o' ^^^ 1
omit C in
structure First4 (w W n o q l : Nat) : Prop where
  h0 : 0 < o
  h1 : o < q
  h2 : q < l
  h3 : l < n
  at_ : pw w W l = pw w W o ^^^ pw w W q ^^^ 1
  ne : ∀ o' q', 0 < o' → o' < q' → (o' < o ∨ (o' = o ∧ q' < q)) → ¬ ∃ l', q' < l' ∧ l' < n ∧ pw w W l' = pw w W o' ^^^ pw w W q' ^^^ 1
theorem first3_uniq {d n o q o' q' : Nat} (O : IsOrder w W d) (hn : n ≤ d) (a : First3 w W n o q) (b : First3 w W n o' q') : o = o' ∧ q = q' := by
  have e : o = o' := by
    rcases Nat.lt_trichotomy o o' with h | h | h
    · exact absurd ⟨q, a.h1, a.h2, a.at_⟩ (b.ne o a.h0 h)
    · exact h
    · exact absurd ⟨q', b.h1, b.h2, b.at_⟩ (a.ne o' b.h0 h)
  subst e
  have := a.h2
  have := b.h2
  exact ⟨rfl, pw_inj C O (by omega) (by omega) (by rw [a.at_, b.at_])⟩
theorem first4_uniq {d n o q l o' q' l' : Nat} (O : IsOrder w W d) (hn : n ≤ d) (a : First4 w W n o q l) (b : First4 w W n o' q' l') : o = o' ∧ q = q' ∧ l = l' := by
  have e : o = o' ∧ q = q' := by
    rcases Nat.lt_trichotomy o o' with h | h | h
    · exact absurd ⟨l, a.h2, a.h3, a.at_⟩ (b.ne o q a.h0 a.h1 (.inl h))
    · rcases Nat.lt_trichotomy q q' with k | k | k
      · exact absurd ⟨l, a.h2, a.h3, a.at_⟩ (b.ne o q a.h0 a.h1 (.inr ⟨h, k⟩))
      · exact ⟨h, k⟩
      · exact absurd ⟨l', b.h2, b.h3, b.at_⟩ (a.ne o' q' b.h0 b.h1 (.inr ⟨h.symm, k⟩))
    · exact absurd ⟨l', b.h2, b.h3, b.at_⟩ (a.ne o' q' b.h0 b.h1 (.inl h))
  obtain ⟨rfl, rfl⟩ := e
  have := a.h3
  have := b.h3
  exact ⟨rfl, rfl, pw_inj C O (by omega) (by omega) (by rw [a.at_, b.at_])⟩
omit C in
theorem three_some {d t f n : Nat} (h : Bounds w W d t f) (ht : t < n) (hn : n ≤ d) : ∃ o q, 0 < o ∧ o < q ∧ q < n ∧ pw w W q = pw w W o ^^^ 1 := by
  obtain ⟨q, h1, h2, h3⟩ := h.2.1.at_ (by omega)
  refine ⟨q, t, h1, h2, ht, ?_⟩
  rw [h3, Nat.xor_assoc, Nat.xor_self, Nat.xor_zero]
omit C in
theorem four_some {d t f n : Nat} (h : Bounds w W d t f) (hf : f < n) (hn : n ≤ t) : ∃ o q l, 0 < o ∧ o < q ∧ q < l ∧ l < n ∧ pw w W l = pw w W o ^^^ pw w W q ^^^ 1 := by
  obtain ⟨o, q, h1, h2, h3, h4⟩ := h.2.2.at_ (by omega)
  refine ⟨o, q, f, h1, h2, h3, hf, ?_⟩
  rw [h4, Nat.xor_assoc, Nat.xor_self, Nat.xor_zero]
omit C in
/-- what is told of the first unseen ones -/
def LeastUn (w W d t f n : Nat) : Option (List Nat) → Prop
  | none => distF d t f n = none
  | some xs => (distF d t f n = some 2 ∧ xs = [0, d]) ∨ (distF d t f n = some 3 ∧ ∃ o q, First3 w W n o q ∧ xs = [0, o, q]) ∨ (distF d t f n = some 4 ∧ ∃ o q l, First4 w W n o q l ∧ xs = [0, o, q, l])
omit C in
theorem dist_cases {d t f n : Nat} : (distF d t f n = some 2 ∧ d < n) ∨ (distF d t f n = some 3 ∧ n ≤ d ∧ t < n) ∨ (distF d t f n = some 4 ∧ n ≤ d ∧ n ≤ t ∧ f < n) ∨ (distF d t f n = none ∧ n ≤ d ∧ n ≤ t ∧ n ≤ f) := by
  unfold distF
  by_cases a : d < n
  · exact .inl ⟨if_pos a, a⟩
  · by_cases b : t < n
    · exact .inr (.inl ⟨by rw [if_neg a, if_pos b], by omega, b⟩)
    · by_cases c : f < n
      · exact .inr (.inr (.inl ⟨by rw [if_neg a, if_neg b, if_pos c], by omega, by omega, c⟩))
      · exact .inr (.inr (.inr ⟨by rw [if_neg a, if_neg b, if_neg c], by omega, by omega, by omega⟩))
theorem least_uniq {d t f n : Nat} (O : IsOrder w W d) {x y : Option (List Nat)} (a : LeastUn w W d t f n x) (b : LeastUn w W d t f n y) : x = y := by
  cases x with
  | none =>
    cases y with
    | none => rfl
    | some ys =>
      have a' : distF d t f n = none := a
      rcases b with ⟨b, _⟩ | ⟨b, _⟩ | ⟨b, _⟩ <;> rw [a'] at b <;> cases b
  | some xs =>
    cases y with
    | none =>
      have b' : distF d t f n = none := b
      rcases a with ⟨a, _⟩ | ⟨a, _⟩ | ⟨a, _⟩ <;> rw [b'] at a <;> cases a
    | some ys =>
      rcases a with ⟨a, rfl⟩ | ⟨a, o, q, h, rfl⟩ | ⟨a, o, q, l, h, rfl⟩ <;> rcases b with ⟨b, rfl⟩ | ⟨b, o', q', k, rfl⟩ | ⟨b, o', q', l', k, rfl⟩ <;> rw [a] at b <;> first | (cases b; done) | skip
      · have hn : n ≤ d := by rcases dist_cases (d := d) (t := t) (f := f) (n := n) with z | z | z | z <;> first | (rw [a] at z; cases z.1; done) | exact z.2.1
        obtain ⟨rfl, rfl⟩ := first3_uniq C O hn h k
        rfl
      · have hn : n ≤ d := by rcases dist_cases (d := d) (t := t) (f := f) (n := n) with z | z | z | z <;> first | (rw [a] at z; cases z.1; done) | exact z.2.1
        obtain ⟨rfl, rfl, rfl⟩ := first4_uniq C O hn h k
        rfl
/-- it is unseen, and rises -/
theorem least_unseen_zero {d t f n : Nat} (B : Bounds w W d t f) {xs : List Nat} (h : LeastUn w W d t f n (some xs)) : valP w W xs = 0 ∧ xs.Pairwise (· < ·) ∧ xs.length ≤ 4 ∧ ∀ x ∈ xs, x ≤ d := by
  have hp := B.1.pos
  have hc := dist_cases (d := d) (t := t) (f := f) (n := n)
  rcases h with ⟨a, rfl⟩ | ⟨a, o, q, h, rfl⟩ | ⟨a, o, q, l, h, rfl⟩
  · refine ⟨?_, by simp; omega, by simp, fun x hx => ?_⟩
    · simp [valP, pw_zero C, B.1.at_]
    · simp at hx; omega
  · have hn : n ≤ d := by rcases hc with z | z | z | z <;> first | (rw [a] at z; cases z.1; done) | exact z.2.1
    have h0 := h.h0
    have h1 := h.h1
    have h2 := h.h2
    refine ⟨?_, by simp; omega, by simp, fun x hx => ?_⟩
    · simp only [valP, List.foldl_cons, List.foldl_nil, pw_zero C, h.at_, Nat.zero_xor]
      rw [show (1 ^^^ pw w W o ^^^ (pw w W o ^^^ 1)) = (1 ^^^ 1) ^^^ (pw w W o ^^^ pw w W o) by ac_rfl, Nat.xor_self, Nat.xor_self]
      rfl
    · simp at hx; omega
  · have hn : n ≤ d := by rcases hc with z | z | z | z <;> first | (rw [a] at z; cases z.1; done) | exact z.2.1
    have h0 := h.h0
    have h1 := h.h1
    have h2 := h.h2
    have h3 := h.h3
    refine ⟨?_, by simp; omega, by simp, fun x hx => ?_⟩
    · simp only [valP, List.foldl_cons, List.foldl_nil, pw_zero C, h.at_, Nat.zero_xor]
      rw [show (1 ^^^ pw w W o ^^^ pw w W q ^^^ (pw w W o ^^^ pw w W q ^^^ 1)) = (1 ^^^ 1) ^^^ (pw w W o ^^^ pw w W o) ^^^ (pw w W q ^^^ pw w W q) by ac_rfl]
      simp only [Nat.xor_self]
    · simp at hx; omega
end
end My

namespace My
open PySem PySem.Spec PyProof.Rows L2 Pre
def optV : Option Nat → V
  | some k => .int k
  | none => .non
theorem spot_cond {wd W d n j x q : Nat} (C : Ck wd W) (O : IsOrder wd W d) (hn : n ≤ d) (hj : (j < d ∧ pw wd W j = x) ∨ (j = 0 ∧ ∀ i, i < d → pw wd W i ≠ x)) : (q < j ∧ j < n) ↔ ∃ l, q < l ∧ l < n ∧ pw wd W l = x := by
  constructor
  · rintro ⟨h1, h2⟩
    rcases hj with ⟨h3, h4⟩ | ⟨h3, _⟩
    · exact ⟨j, h1, h2, h4⟩
    · omega
  · rintro ⟨l, h1, h2, h3⟩
    rcases hj with ⟨h4, h5⟩ | ⟨_, h5⟩
    · have := pw_inj C O (a := l) (b := j) (by omega) h4 (by rw [h3, h5])
      omega
    · exact absurd h3 (h5 l (by omega))
def onesN (n k : Nat) : List Nat := (List.range k).filter fun i => n.testBit i
theorem ones_sel (n k : Nat) : ((List.range k).map fun i => if n.testBit i = true then some (V.int (i : Int)) else none).filterMap id = (natI (onesN n k)).map V.int := by
  unfold onesN natI
  induction List.range k with
  | nil => rfl
  | cons i l ih =>
    by_cases c : n.testBit i = true
    · rw [List.map_cons, if_pos c, List.filter_cons_of_pos c, List.map_cons, List.map_cons, ← ih]
      rfl
    · rw [List.map_cons, if_neg c, List.filter_cons_of_neg c, ← ih]
      rfl
theorem bit_int (n i : Nat) : Builtin.bitAnd ((n : Int) / 2 ^ ((i : Int)).toNat) 1 = (((n.testBit i).toNat : Nat) : Int) := by
  rw [shrI, and1, Nat.toNat_testBit, Nat.shiftRight_eq_div_pow]
theorem bit_mod (n i : Nat) : (n : Int) / 2 ^ ((i : Int)).toNat % 2 = (((n.testBit i).toNat : Nat) : Int) := by
  rw [shrI, Nat.toNat_testBit, Nat.shiftRight_eq_div_pow]
  omega
def No4 (wd W n : Nat) : Prop := ∀ o q, 0 < o → o < q → ¬ ∃ l, q < l ∧ l < n ∧ pw wd W l = pw wd W o ^^^ pw wd W q ^^^ 1
local macro_rules | `(tactic| walk_at "go") => `(tactic| repeat (first | (with_reducible first | refine iteT ?_ | refine iteF ?_ | refine iteNtt ?_ | refine iteNff ?_ | refine iteET (by omega) ?_ | refine iteEF (by omega) ?_ | refine iteENT (by omega) ?_ | refine iteENF (by omega) ?_ | refine iteDT (by omega) ?_ | refine iteDF (by omega) ?_ | refine iteNT (by omega) ?_ | refine iteNF (by omega) ?_) | refine ⟨_, rfl, ?_⟩ | refine ⟨_, _, rfl, rfl, ?_⟩ | refine ⟨_, _, rfl, ?_⟩ | refine ⟨rfl, ?_⟩ | refine .inl ⟨_, rfl, ?_⟩ | refine .inr ⟨_, rfl, ?_⟩))
local macro_rules | `(tactic| walk_at "b") => `(tactic| try dsimp (config := { proj := false, iota := false, eta := false, zeta := false }) only)
section
variable {P : Program} {w : World} {K : PySem.W.Frag} {mg : Str → Option Value} {base : Heap}
def sp_unseen (C : Addr) (K : PySem.W.Frag) : Sp := fun vs H Q _ => ∃ (a b : Addr) (wd W : Nat) (ts : List Nat), vs = [.ref a, .ref b] ∧ CheckAt C H a wd W ∧ H b = some (.lst ((natI ts).map V.int)) ∧ Rising ts ∧ ∀ H', Same H H' → Q (.bl (decide (valP wd W ts = 0))) H'
def sp_order (C : Addr) : Sp := fun vs H Q _ => ∃ (a : Addr) (wd W : Nat), vs = [.ref a] ∧ CheckAt C H a wd W ∧ ∀ (d : Nat) H', Same H H' → IsOrder wd W d → Q (.int d) H'
def sp_distance (C : Addr) (K : PySem.W.Frag) : Sp := fun vs H Q _ => ∃ (a : Addr) (wd W n d t f : Nat), vs = [.ref a, .int n] ∧ CheckAt C H a wd W ∧ Bounds wd W d t f ∧ d ≤ 2048 ∧ n ≤ 10 ^ 18 ∧ ∀ H', Same H H' → Q (optV (distF d t f n)) H'
def sp_first_four (K : PySem.W.Frag) : Sp := fun vs H Q _ => ∃ (a b : Addr) (wd W d n : Nat) (kvs : List (Key × V)), vs = [.ref a, .ref b, .int n] ∧ SqL K H a ((powsL wd W d).map V.int) ∧ H b = some (.dK kvs) ∧ SpotsD wd W d kvs ∧ Ck wd W ∧ IsOrder wd W d ∧ n ≤ d ∧ d ≤ 2048 ∧
  (∀ H' p o q l, Same H H' → H p = none → First4 wd W n o q l → H' p = some (.lst ((natI [0, o, q, l]).map V.int)) → Q (.ref p) H') ∧ (∀ H', Same H H' → No4 wd W n → Q .non H')
def sp_ones_in : Sp := fun vs H Q _ => ∃ n : Nat, vs = [.int n] ∧ n < 2 ^ 1000 ∧ ∀ H' p, Same H H' → H p = none → H' p = some (.lst ((natI (onesN n (Builtin.Int.intBits (n : Int)))).map V.int)) → Q (.ref p) H'
theorem G_ones_in (T : Top K mg) : FnOk P w K mg base CX0 1 T.f_ones_in T.fd_ones_in ["number"] sp_ones_in := by
  refine T.F_ones_in.ok sc_ones_in (fun vs H Q E h => by obtain ⟨n, rfl, _⟩ := h; rfl) (fun cdv A outer s H vs Q E hr h => ?_)
  obtain ⟨n, rfl, hn, q⟩ := h
  refine ⟨_, PSs.nox (pss_one (ps_ret (pe_lc (own := [("place", 1)]) (g := gName 1) (by rfl) sc_ones_in.nd (pi_range1 (by rfl) T.n_range (pa_cons (pe_bits (pv 0)) pa_nil)) (blkOk_by (own := [("place", 1)]) (N := N_ones_in) (sc := defScope s_ones_in) (by decide +kernel)) (fun _ _ _ _ _ => (pg_name (i := 1) sc_ones_in.nd rfl (by first | exact Or.inl rfl | exact Or.inr rfl))) (fun _ _ _ _ _ => (pts_one (pt_cmpR op_eq (pe_op op_and (pe_op op_shr (pv 0) (pv 1)) pe_int) pe_int (nomark _)))) (fun _ _ _ _ _ => (pv 1))))), ?_⟩
  have hb : Builtin.Int.intBits (n : Int) ≤ 1000 := bl_iff.mpr hn
  obtain ⟨k, ek⟩ : ∃ k, Builtin.Int.intBits (n : Int) = k := ⟨_, rfl⟩
  rw [ek] at hb q
  refine ⟨_, rfl, _, rfl, _, rfl, by rw [ek]; omega, by rw [ek]; omega, fun D nD => ?_⟩
  rw [ek]
  refine lc_selR (lo := 0) (n := ((k : Int)).toNat) ((List.range k).map fun i => if n.testBit i = true then some (V.int (i : Int)) else none) nD (by rw [List.length_map, List.length_range]; rfl) (small1000' (by omega)) (fun x => rfl) ?_ ?_
  · intro i o H' hi ho s Qt qt
    rw [Int.toNat_natCast] at hi
    rw [List.getElem?_map, List.getElem?_range hi] at ho
    cases ho
    rw [show (0 + (i : Int)) = (i : Int) by omega]
    have eb := bit_int n i
    refine ⟨_, rfl, _, rfl, _, _, rfl, rfl, by omega, _, _, rfl, rfl, rfl, _, rfl, ?_⟩
    by_cases c : n.testBit i = true
    · refine iteET (eb.trans (by rw [c]; rfl)) ?_
      have z := qt H' (Same.refl _)
      dsimp only at z
      rw [if_pos c] at z
      exact ⟨_, rfl, z⟩
    · refine iteEF (fun z => c (by have z2 := eb.symm.trans z; cases h : n.testBit i <;> first | rfl | (rw [h] at z2; simp at z2))) ?_
      have z := qt H' (Same.refl _)
      dsimp only at z
      rw [if_neg c] at z
      exact z
  · intro H' s hD
    rw [ones_sel] at hD
    exact q _ D s nD hD
def sp_all_odd (C : Addr) : Sp := fun vs H Q _ => ∃ (a : Addr) (wd W : Nat), vs = [.ref a] ∧ CheckAt C H a wd W ∧ ∀ H', Same H H' → Q (.bl (decide ((onesN W (wd + 1)).length % 2 = 0))) H'
end
end My

namespace My
section
variable {w W : Nat} (C : Ck w W)
/-! ### sets of places as numbers -/
theorem ones_succ (n k : Nat) : onesN n (k + 1) = onesN n k ++ (if n.testBit k = true then [k] else []) := by
  unfold onesN
  rw [List.range_succ, List.filter_append]
  congr 1
  by_cases c : n.testBit k = true
  · rw [if_pos c, List.filter_cons_of_pos c, List.filter_nil]
  · rw [if_neg c, List.filter_cons_of_neg c, List.filter_nil]
theorem ones_mem {n k i : Nat} : i ∈ onesN n k ↔ i < k ∧ n.testBit i = true := by
  unfold onesN
  rw [List.mem_filter, List.mem_range]
theorem ones_more {n k : Nat} (h : n < 2 ^ k) : ∀ {j : Nat}, k ≤ j → onesN n j = onesN n k := by
  intro j
  induction j with
  | zero => intro l; rw [show k = 0 by omega]
  | succ j ih =>
    intro l
    by_cases e : k = j + 1
    · rw [e]
    · rw [ones_succ, ih (by omega), if_neg (by rw [Nat.testBit_lt_two_pow (Nat.lt_of_lt_of_le h (Nat.pow_le_pow_right (by decide) (by omega)))]; decide), List.append_nil]
theorem ones_rise (n k : Nat) : (onesN n k).Pairwise (· < ·) := List.Pairwise.filter _ List.pairwise_lt_range
theorem rising_eq : ∀ {xs ys : List Nat}, xs.Pairwise (· < ·) → ys.Pairwise (· < ·) → (∀ i, i ∈ xs ↔ i ∈ ys) → xs = ys
  | [], [], _, _, _ => rfl
  | [], y :: ys, _, _, h => absurd ((h y).mpr List.mem_cons_self) (by simp)
  | x :: xs, [], _, _, h => absurd ((h x).mp List.mem_cons_self) (by simp)
  | x :: xs, y :: ys, hx, hy, h => by
    rw [List.pairwise_cons] at hx hy
    have e : x = y := by
      rcases List.mem_cons.mp ((h x).mp List.mem_cons_self) with a | a
      · exact a
      · rcases List.mem_cons.mp ((h y).mpr List.mem_cons_self) with b | b
        · exact b.symm
        · have := hy.1 x a
          have := hx.1 y b
          omega
    subst e
    rw [rising_eq hx.2 hy.2 fun i => ⟨fun z => by
      rcases List.mem_cons.mp ((h i).mp (List.mem_cons_of_mem _ z)) with a | a
      · have := hx.1 i z; omega
      · exact a, fun z => by
      rcases List.mem_cons.mp ((h i).mpr (List.mem_cons_of_mem _ z)) with a | a
      · have := hy.1 i z; omega
      · exact a⟩]
def numS (ts : List Nat) : Nat := ts.foldr (fun t n => 2 ^ t ||| n) 0
theorem numS_bit (i : Nat) : ∀ ts : List Nat, (numS ts).testBit i = true ↔ i ∈ ts
  | [] => by simp [numS]
  | t :: ts => by
    show (2 ^ t ||| numS ts).testBit i = true ↔ _
    rw [Nat.testBit_or, Bool.or_eq_true, numS_bit i ts, Nat.testBit_two_pow, decide_eq_true_eq, List.mem_cons]
    constructor
    · rintro (h | h)
      · exact .inl h.symm
      · exact .inr h
    · rintro (h | h)
      · exact .inl h.symm
      · exact .inr h
theorem numS_lt {m : Nat} : ∀ {ts : List Nat}, (∀ t ∈ ts, t < m) → numS ts < 2 ^ m
  | [], _ => Nat.two_pow_pos m
  | t :: ts, h => Nat.or_lt_two_pow (Nat.pow_lt_pow_right (by decide) (h t List.mem_cons_self)) (numS_lt fun x hx => h x (List.mem_cons_of_mem _ hx))
theorem ones_num {ts : List Nat} {m : Nat} (h : ts.Pairwise (· < ·)) (b : ∀ t ∈ ts, t < m) : onesN (numS ts) m = ts :=
  rising_eq (ones_rise _ _) h fun i => by
    rw [ones_mem, numS_bit]
    exact ⟨fun z => z.2, fun z => ⟨b i z, z⟩⟩
theorem ones_ne {n m : Nat} (h0 : 0 < n) (h : n < 2 ^ m) : onesN n m ≠ [] := fun e => by
  have : n = 0 := Nat.eq_of_testBit_eq fun i => by
    rw [Nat.zero_testBit]
    by_cases l : i < m
    · cases c : n.testBit i with
      | false => rfl
      | true =>
        have := ones_mem.mpr ⟨l, c⟩
        rw [e] at this
        simp at this
    · exact Nat.testBit_lt_two_pow (Nat.lt_of_lt_of_le h (Nat.pow_le_pow_right (by decide) (by omega)))
  omega
theorem mod_succ (n k : Nat) : n % 2 ^ (k + 1) = (n % 2 ^ k) ^^^ (if n.testBit k = true then 2 ^ k else 0) := by
  apply Nat.eq_of_testBit_eq
  intro i
  rw [Nat.testBit_xor, Nat.testBit_mod_two_pow, Nat.testBit_mod_two_pow]
  by_cases c : n.testBit k = true
  · rw [if_pos c, Nat.testBit_two_pow]
    rcases Nat.lt_trichotomy i k with h | h | h
    · simp [h, show i < k + 1 by omega, show ¬ k = i by omega]
    · subst h; simp [c]
    · simp [show ¬ i < k by omega, show ¬ i < k + 1 by omega, show ¬ k = i by omega]
  · rw [if_neg c, Nat.zero_testBit]
    rcases Nat.lt_trichotomy i k with h | h | h
    · simp [h, show i < k + 1 by omega]
    · subst h; simp at c; simp [c]
    · simp [show ¬ i < k by omega, show ¬ i < k + 1 by omega]
theorem valP_snoc (xs : List Nat) (k : Nat) : valP w W (xs ++ [k]) = valP w W xs ^^^ pw w W k := by
  unfold valP
  rw [List.foldl_append]
  rfl
include C
theorem valP_moved (n s : Nat) : ∀ k, valP w W ((onesN n k).map (· + s)) = rem w W ((n % 2 ^ k) * 2 ^ s)
  | 0 => by
    rw [Nat.pow_zero, Nat.mod_one, Nat.zero_mul, rem_zero]
    rfl
  | k + 1 => by
    rw [ones_succ, mod_succ]
    by_cases c : n.testBit k = true
    · rw [if_pos c, if_pos c, List.map_append, List.map_cons, List.map_nil, valP_snoc, valP_moved n s k, ← Nat.shiftLeft_eq (_ ^^^ _), Nat.shiftLeft_xor_distrib, Nat.shiftLeft_eq, Nat.shiftLeft_eq, rem_xor C, ← Nat.pow_add]
      rfl
    · rw [if_neg c, if_neg c, List.append_nil, Nat.xor_zero, valP_moved n s k]
theorem valP_ones {n k : Nat} (h : n < 2 ^ k) : valP w W (onesN n k) = rem w W n := by
  have e := valP_moved C n 0 k
  rw [Nat.pow_zero, Nat.mul_one, Nat.mod_eq_of_lt h] at e
  rw [← e]
  congr 1
  exact (List.map_id' _).symm
theorem valP_far {n k : Nat} (s : Nat) (h : n < 2 ^ k) (z : rem w W n = 0) : valP w W ((onesN n k).map (· + s)) = 0 := by
  rw [valP_moved C, Nat.mod_eq_of_lt h, ← Nat.shiftLeft_eq]
  exact rem_shl C n s z
/-! ### the least unseen ones -/
theorem un_len {d t f m : Nat} (B : Bounds w W d t f) : ∀ {xs : List Nat}, xs.Pairwise (· < ·) → (∀ x ∈ xs, x < m) → valP w W xs = 0 → xs ≠ [] →
    2 ≤ xs.length ∧ (m ≤ d → 3 ≤ xs.length) ∧ (m ≤ d → m ≤ t → 4 ≤ xs.length) ∧ (m ≤ d → m ≤ t → m ≤ f → 5 ≤ xs.length)
  | [], _, _, _, h => absurd rfl h
  | [a], _, _, h, _ => absurd (by rw [← h]; show _ = 0 ^^^ pw w W a; rw [Nat.zero_xor]) (pw_ne C a)
  | [a, b], hp, hm, h, _ => by
    have hb := hm b (by simp)
    have hab : a < b := by simp at hp; exact hp
    have e : pw w W a = pw w W b := by
      have : 0 ^^^ pw w W a ^^^ pw w W b = 0 := h
      rw [Nat.zero_xor] at this
      exact xor_eq0.mp this
    have no : ¬ m ≤ d := fun l => no2 C B.1 hab (by omega) e
    exact ⟨Nat.le_refl _, fun z => absurd z no, fun z => absurd z no, fun z => absurd z no⟩
  | [a, b, c], hp, hm, h, _ => by
    have hc := hm c (by simp)
    have hab : a < b ∧ b < c := by simp at hp; omega
    have e : pw w W a ^^^ pw w W b ^^^ pw w W c = 0 := by
      have : 0 ^^^ pw w W a ^^^ pw w W b ^^^ pw w W c = 0 := h
      rw [Nat.zero_xor] at this
      exact this
    have no : ¬ m ≤ t := fun l => no3 C B.2.1.ne hab.1 hab.2 (by omega) e
    exact ⟨by simp, fun _ => Nat.le_refl _, fun _ z => absurd z no, fun _ z => absurd z no⟩
  | [a, b, c, e], hp, hm, h, _ => by
    have he := hm e (by simp)
    have hab : a < b ∧ b < c ∧ c < e := by simp at hp; omega
    have z : pw w W a ^^^ pw w W b ^^^ pw w W c ^^^ pw w W e = 0 := by
      have : 0 ^^^ pw w W a ^^^ pw w W b ^^^ pw w W c ^^^ pw w W e = 0 := h
      rw [Nat.zero_xor] at this
      exact this
    have no : ¬ m ≤ f := fun l => no4 C B.2.2.ne hab.1 hab.2.1 hab.2.2 (by omega) z
    exact ⟨by simp, fun _ => by simp, fun _ _ => Nat.le_refl _, fun _ _ y => absurd y no⟩
  | a :: b :: c :: e :: g :: r, _, _, _, _ => by simp only [List.length_cons]; omega
theorem least_len {d t f m n : Nat} (B : Bounds w W d t f) (n0 : 0 < n) (nm : n < 2 ^ m) (z : rem w W n = 0) :
    (distF d t f m = none → 5 ≤ (onesN n m).length) ∧ ∀ k, distF d t f m = some k → k ≤ (onesN n m).length := by
  have h := un_len C B (ones_rise n m) (fun x hx => (ones_mem.mp hx).1) (by rw [valP_ones C nm, z]) (ones_ne n0 nm)
  refine ⟨fun e => ?_, fun k e => ?_⟩ <;> rcases dist_cases (d := d) (t := t) (f := f) (n := m) with y | y | y | y <;> rw [e] at y
  · cases y.1
  · cases y.1
  · cases y.1
  · exact h.2.2.2 y.2.1 y.2.2.1 y.2.2.2
  · cases y.1; exact h.1
  · cases y.1; exact h.2.1 y.2.1
  · cases y.1; exact h.2.2.1 y.2.1 y.2.2.1
  · cases y.1
omit C in
theorem least_lt {d t f n : Nat} (h0 : 1 ≤ d) {xs : List Nat} (h : LeastUn w W d t f n (some xs)) : ∀ x ∈ xs, x < n := by
  rcases h with ⟨a, rfl⟩ | ⟨a, o, q, h, rfl⟩ | ⟨a, o, q, l, h, rfl⟩
  · rcases dist_cases (d := d) (t := t) (f := f) (n := n) with y | y | y | y <;> first | (rw [a] at y; cases y.1; done) | skip
    intro x hx
    simp at hx
    omega
  · have := h.h1
    have := h.h2
    intro x hx
    simp at hx
    omega
  · have := h.h1
    have := h.h2
    have := h.h3
    intro x hx
    simp at hx
    omega
omit C in
theorem least_size {d t f n : Nat} {xs : List Nat} (h : LeastUn w W d t f n (some xs)) : distF d t f n = some xs.length := by
  rcases h with ⟨a, rfl⟩ | ⟨a, o, q, h, rfl⟩ | ⟨a, o, q, l, h, rfl⟩ <;> exact a
omit C in
theorem least_ex {d t f n : Nat} (B : Bounds w W d t f) : ∃ r, LeastUn w W d t f n r := by
  rcases dist_cases (d := d) (t := t) (f := f) (n := n) with y | y | y | y
  · exact ⟨some [0, d], .inl ⟨y.1, rfl⟩⟩
  · obtain ⟨o, q, h1, h2, h3, h4⟩ := three_some B y.2.2 y.2.1
    obtain ⟨x, hx⟩ := first_ex (fun o => 0 < o ∧ ∃ q, o < q ∧ q < n ∧ pw w W q = pw w W o ^^^ 1) n
    have hxn : x < n := by
      by_cases c : x < n
      · exact c
      · exact absurd ⟨h1, q, h2, h3, h4⟩ (hx.ne o (by omega))
    obtain ⟨k0, q', k1, k2, k3⟩ := hx.at_ hxn
    exact ⟨some [0, x, q'], .inr (.inl ⟨y.1, x, q', ⟨k0, k1, k2, k3, fun o' p0 p1 z => hx.ne o' p1 ⟨p0, z⟩⟩, rfl⟩)⟩
  · obtain ⟨o, q, l, h1, h2, h3, h4, h5⟩ := four_some B y.2.2.2 y.2.2.1
    obtain ⟨x, hx⟩ := first_ex (fun o => 0 < o ∧ ∃ q, o < q ∧ ∃ l, q < l ∧ l < n ∧ pw w W l = pw w W o ^^^ pw w W q ^^^ 1) n
    have hxn : x < n := by
      by_cases c : x < n
      · exact c
      · exact absurd ⟨h1, q, h2, l, h3, h4, h5⟩ (hx.ne o (by omega))
    obtain ⟨k0, q', k1, l', k2, k3, k4⟩ := hx.at_ hxn
    obtain ⟨u, hu⟩ := first_ex (fun q => x < q ∧ ∃ l, q < l ∧ l < n ∧ pw w W l = pw w W x ^^^ pw w W q ^^^ 1) n
    have hun : u < n := by
      by_cases c : u < n
      · exact c
      · exact absurd ⟨k1, l', k2, k3, k4⟩ (hu.ne q' (by omega))
    obtain ⟨j0, l2, j1, j2, j3⟩ := hu.at_ hun
    refine ⟨some [0, x, u, l2], .inr (.inr ⟨y.1, x, u, l2, ⟨k0, j0, j1, j2, j3, fun o' q' p0 p1 p2 z => ?_⟩, rfl⟩)⟩
    rcases p2 with p2 | ⟨rfl, p2⟩
    · exact hx.ne o' p2 ⟨p0, q', p1, z⟩
    · exact hu.ne q' p2 ⟨p1, z⟩
  · exact ⟨none, y.1⟩
/-- the least one is one of the sets -/
theorem least_num {d t f m : Nat} (B : Bounds w W d t f) {xs : List Nat} (h : LeastUn w W d t f m (some xs)) :
    0 < numS xs ∧ numS xs < 2 ^ m ∧ rem w W (numS xs) = 0 ∧ onesN (numS xs) m = xs := by
  obtain ⟨z1, z2, _, _⟩ := least_unseen_zero C B h
  have hl := least_lt B.1.pos h
  have e := ones_num z2 hl
  have lt := numS_lt hl
  refine ⟨?_, lt, ?_, e⟩
  · rcases Nat.eq_zero_or_pos (numS xs) with z | z
    · have hne : xs ≠ [] := by
        have := least_size h
        rcases h with ⟨_, rfl⟩ | ⟨_, o, q, _, rfl⟩ | ⟨_, o, q, l, _, rfl⟩ <;> simp
      rw [z] at e
      have : onesN 0 m = [] := by unfold onesN; simp
      rw [this] at e
      exact absurd e.symm hne
    · exact z
  · rw [← valP_ones C lt, e, z1]
def lexI (ts : List Nat) : List Int := ts.map fun (t : Nat) => (t : Int)
omit C in
theorem lex_cons {a b : Nat} {xs ys : List Nat} (h : a < b ∨ (a = b ∧ lexI xs ≤ lexI ys)) : lexI (a :: xs) ≤ lexI (b :: ys) := by
  show ((a : Int) :: lexI xs) ≤ ((b : Int) :: lexI ys)
  rw [List.cons_le_cons_iff]
  rcases h with h | ⟨h, k⟩
  · exact .inl (by omega)
  · exact .inr ⟨by omega, k⟩
omit C in
theorem lex_refl (xs : List Nat) : lexI xs ≤ lexI xs := List.le_refl _
theorem un_lex {d t f m : Nat} (B : Bounds w W d t f) {xs : List Nat} (h : LeastUn w W d t f m (some xs)) {ys : List Nat} (hp : ys.Pairwise (· < ·)) (hm : ∀ y ∈ ys, y < m) (hv : valP w W ys = 0) (hl : ys.length = xs.length) : lexI xs ≤ lexI ys := by
  have hc := dist_cases (d := d) (t := t) (f := f) (n := m)
  rcases h with ⟨a, rfl⟩ | ⟨a, o, q, h, rfl⟩ | ⟨a, o, q, l, h, rfl⟩
  · match ys, hl with
    | [x, y], _ =>
      have hab : x < y := by simp at hp; exact hp
      rcases Nat.eq_zero_or_pos x with e | e
      · subst e
        refine lex_cons (.inr ⟨rfl, ?_⟩)
        have z : pw w W 0 = pw w W y := by
          have : 0 ^^^ pw w W 0 ^^^ pw w W y = 0 := hv
          rw [Nat.zero_xor] at this
          exact xor_eq0.mp this
        have : ¬ y < d := fun c => no2 C B.1 hab c z
        by_cases c : d = y
        · exact lex_cons (.inr ⟨c, lex_refl _⟩)
        · exact lex_cons (.inl (by omega))
      · exact lex_cons (.inl e)
  · have hn : m ≤ d := by rcases hc with z | z | z | z <;> first | (rw [a] at z; cases z.1; done) | exact z.2.1
    match ys, hl with
    | [x, y, u], _ =>
      have hab : x < y ∧ y < u := by simp at hp; omega
      have hu := hm u (by simp)
      rcases Nat.eq_zero_or_pos x with e | e
      · subst e
        refine lex_cons (.inr ⟨rfl, ?_⟩)
        have z : pw w W u = pw w W y ^^^ 1 := by
          have : 0 ^^^ pw w W 0 ^^^ pw w W y ^^^ pw w W u = 0 := hv
          rw [Nat.zero_xor, pw_zero C] at this
          rw [← xor_eq0.mp this, Nat.xor_comm]
        rcases Nat.lt_trichotomy o y with c | c | c
        · exact lex_cons (.inl c)
        · subst c
          have : q = u := pw_inj C B.1 (by have := h.h2; omega) (by omega) (by rw [h.at_, z])
          subst this
          exact lex_refl _
        · exact absurd ⟨u, hab.2, hu, z⟩ (h.ne y hab.1 c)
      · exact lex_cons (.inl e)
  · have hn : m ≤ d := by rcases hc with z | z | z | z <;> first | (rw [a] at z; cases z.1; done) | exact z.2.1
    match ys, hl with
    | [x, y, u, v], _ =>
      have hab : x < y ∧ y < u ∧ u < v := by simp at hp; omega
      have hu := hm v (by simp)
      rcases Nat.eq_zero_or_pos x with e | e
      · subst e
        refine lex_cons (.inr ⟨rfl, ?_⟩)
        have z : pw w W v = pw w W y ^^^ pw w W u ^^^ 1 := by
          have : 0 ^^^ pw w W 0 ^^^ pw w W y ^^^ pw w W u ^^^ pw w W v = 0 := hv
          rw [Nat.zero_xor, pw_zero C] at this
          rw [← xor_eq0.mp this]
          ac_rfl
        rcases Nat.lt_trichotomy o y with c | c | c
        · exact lex_cons (.inl c)
        · subst c
          refine lex_cons (.inr ⟨rfl, ?_⟩)
          rcases Nat.lt_trichotomy q u with c | c | c
          · exact lex_cons (.inl c)
          · subst c
            have : l = v := pw_inj C B.1 (by have := h.h3; omega) (by omega) (by rw [h.at_, z])
            subst this
            exact lex_refl _
          · exact absurd ⟨v, hab.2.2, hu, z⟩ (h.ne o u hab.1 hab.2.1 (.inr ⟨rfl, c⟩))
        · exact absurd ⟨v, hab.2.2, hu, z⟩ (h.ne y u hab.1 hab.2.1 (.inl c))
      · exact lex_cons (.inl e)
/-! ### longest, by all sets -/
omit C in
def Hit (w W few c a : Nat) : Prop := pw w W a = pw w W c ∨ (3 < few ∧ ∃ b, b < a ∧ pw w W a ^^^ pw w W b = pw w W c) ∨ (4 < few ∧ ∃ b e, b < a ∧ e < b ∧ pw w W a ^^^ pw w W b ^^^ pw w W e = pw w W c)
theorem hit_no {few L c a : Nat} (hL : IsLongest w W few L) (hc : c < L) (ha : a < c) : ¬ Hit w W few c a := by
  have three : ∀ {t : Nat}, (∀ p, p < t → ¬ Three w W p) → c < t → ¬ ∃ b, b < a ∧ pw w W a ^^^ pw w W b = pw w W c := by
    rintro t T h ⟨b, hb, z⟩
    exact no3 C T hb ha h (by rw [← z, Nat.xor_comm (pw w W b), Nat.xor_self])
  rcases hL with ⟨e, h⟩ | ⟨e, d, h, h1⟩ | ⟨e, d, t, h, h1, h2⟩ <;> rintro (z | ⟨l, z⟩ | ⟨l, b, g, hb, hg, z⟩) <;> first | omega | skip
  · exact no2 C h ha hc z
  · exact no2 C h ha (by have := h1.le; omega) z
  · exact three h1.ne hc z
  · exact no2 C h ha (by have := h1.le; have := h2.le; omega) z
  · exact three h1.ne (by have := h2.le; omega) z
  · refine no4 C h2.ne hg hb ha hc ?_
    rw [← z]
    rw [show pw w W g ^^^ pw w W b ^^^ pw w W a = pw w W a ^^^ pw w W b ^^^ pw w W g by ac_rfl, Nat.xor_self]
theorem hit_at {few L : Nat} (hL : IsLongest w W few L) : 1 ≤ L ∧ ∃ a, a < L ∧ Hit w W few L a := by
  have one : ∀ {d : Nat}, IsOrder w W d → 1 ≤ d ∧ ∃ a, a < d ∧ Hit w W few d a := fun {d} h => ⟨h.pos, 0, h.pos, .inl (by rw [h.at_, pw_zero C])⟩
  have two : ∀ {d t : Nat}, 3 < few → IsOrder w W d → IsFirst (Three w W) d t → 1 ≤ t ∧ ∃ a, a < t ∧ Hit w W few t a := by
    intro d t l h h1
    by_cases c : t < d
    · obtain ⟨q, q0, q1, q2⟩ := h1.at_ c
      exact ⟨by omega, q, q1, .inr (.inl ⟨l, 0, q0, by rw [q2, pw_zero C, Nat.xor_assoc, Nat.xor_self, Nat.xor_zero]⟩)⟩
    · have : t = d := by have := h1.le; omega
      subst this
      exact one h
  rcases hL with ⟨e, h⟩ | ⟨e, d, h, h1⟩ | ⟨e, d, t, h, h1, h2⟩
  · exact one h
  · exact two (by omega) h h1
  · by_cases c : L < t
    · obtain ⟨o, q, q0, q1, q2, q3⟩ := h2.at_ c
      refine ⟨by omega, q, q2, .inr (.inr ⟨by omega, o, 0, q1, q0, ?_⟩)⟩
      rw [Nat.xor_comm (pw w W q), q3, pw_zero C, Nat.xor_assoc, Nat.xor_self, Nat.xor_zero]
    · have : L = t := by have := h2.le; omega
      subst this
      exact two (by omega) h h1
/-! ### an even check, even sets -/
omit C in
theorem par_xor (x y : Nat) : ∀ k, (onesN (x ^^^ y) k).length % 2 = ((onesN x k).length + (onesN y k).length) % 2
  | 0 => rfl
  | k + 1 => by
    have ih := par_xor x y k
    rw [ones_succ, ones_succ, ones_succ, Nat.testBit_xor]
    cases x.testBit k <;> cases y.testBit k <;> simp <;> omega
omit C in
theorem par_dbl (a b k : Nat) (hb : b < 2) : (onesN (2 * a + b) (k + 1)).length = (onesN a k).length + b := by
  induction k with
  | zero =>
    rw [ones_succ]
    have : (2 * a + b).testBit 0 = decide (b = 1) := by rw [Nat.testBit_zero]; congr 1; rw [eq_iff_iff]; omega
    rw [this]
    rcases (by omega : b = 0 ∨ b = 1) with rfl | rfl <;> rfl
  | succ k ih =>
    rw [ones_succ, ones_succ a k, List.length_append, List.length_append, ih]
    have : (2 * a + b).testBit (k + 1) = a.testBit k := by rw [Nat.testBit_succ]; congr 1; omega
    rw [this]
    cases a.testBit k <;> simp <;> omega
theorem par_rem (hW : (onesN W (w + 1)).length % 2 = 0) : ∀ k n, n < 2 ^ k → (onesN (rem w W n) w).length % 2 = (onesN n k).length % 2
  | 0, n, h => by
    have : n = 0 := by simpa using h
    subst this
    rw [rem_zero]
    have : onesN 0 w = [] := by unfold onesN; simp
    rw [this]
    rfl
  | k + 1, n, h => by
    have h2 : n / 2 < 2 ^ k := by rw [Nat.pow_succ] at h; omega
    have ih := par_rem hW k (n / 2) h2
    have e1 := par_dbl (n / 2) (n % 2) k (by omega)
    rw [show 2 * (n / 2) + n % 2 = n by omega] at e1
    have hr := rem_lt C (n / 2)
    have hx : 2 * rem w W (n / 2) + n % 2 < 2 ^ (w + 1) := by rw [Nat.pow_succ]; omega
    have e2 := par_dbl (rem w W (n / 2)) (n % 2) w (by omega)
    rw [rem_step, ← ones_more (red_lt C hx) (Nat.le_succ w)]
    have e3 : (onesN (red w W (2 * rem w W (n / 2) + n % 2)) (w + 1)).length % 2 = (onesN (2 * rem w W (n / 2) + n % 2) (w + 1)).length % 2 := by
      by_cases c : 2 ^ w ≤ 2 * rem w W (n / 2) + n % 2
      · rw [red_hi C hx c, par_xor]
        omega
      · rw [red_id C (Nat.lt_of_not_le c)]
    show (onesN (red w W (2 * rem w W (n / 2) + n % 2)) (w + 1)).length % 2 = _
    rw [e3, e2, e1]
    omega
theorem par_even (hW : (onesN W (w + 1)).length % 2 = 0) {n k : Nat} (h : n < 2 ^ k) (z : rem w W n = 0) : (onesN n k).length % 2 = 0 := by
  rw [← par_rem C hW k n h, z]
  have : onesN 0 w = [] := by unfold onesN; simp
  rw [this]
  rfl
end
end My

namespace My
/-! ### sums of powers over two: sizes, parts and rests, what divides -/
theorem prod_top {i : Nat} : ∀ (j a b : Nat), 2 ^ i ≤ a → a < 2 ^ (i + 1) → 2 ^ j ≤ b → b < 2 ^ (j + 1) → 2 ^ (i + j) ≤ prod a b ∧ prod a b < 2 ^ (i + j + 1)
  | 0, a, b, h1, h2, h3, h4 => by
    have : b = 1 := by simp at h3 h4; omega
    subst this
    rw [prod_comm, prod_one]
    exact ⟨h1, h2⟩
  | j + 1, a, b, h1, h2, h3, h4 => by
    rw [Nat.pow_succ] at h3 h4
    have ih := prod_top j a (b / 2) h1 h2 (by omega) (by rw [Nat.pow_succ]; rw [Nat.pow_succ] at h4; omega)
    rw [prod_step]
    have e : 2 ^ (i + (j + 1)) = 2 ^ (i + j) * 2 := Nat.pow_succ ..
    have e2 : 2 ^ (i + (j + 1) + 1) = 2 ^ (i + j + 1) * 2 := Nat.pow_succ ..
    have ha : (if b % 2 = 1 then a else 0) < 2 ^ (i + (j + 1)) := by
      have : 2 ^ (i + 1) ≤ 2 ^ (i + (j + 1)) := Nat.pow_le_pow_right (by decide) (by omega)
      split <;> omega
    have := xor_high (x := if b % 2 = 1 then a else 0) (y := 2 * prod a (b / 2)) (w := i + (j + 1)) ha (by omega) (by omega)
    rw [Nat.xor_comm]
    exact this
theorem top_ex {a : Nat} (h : a ≠ 0) : ∃ i, 2 ^ i ≤ a ∧ a < 2 ^ (i + 1) := ⟨a.log2, Nat.log2_self_le h, Nat.lt_log2_self⟩
theorem prod_ne {a b : Nat} (ha : a ≠ 0) (hb : b ≠ 0) : prod a b ≠ 0 := by
  obtain ⟨i, h1, h2⟩ := top_ex ha
  obtain ⟨j, h3, h4⟩ := top_ex hb
  have := (prod_top j a b h1 h2 h3 h4).1
  have := Nat.two_pow_pos (i + j)
  omega
theorem prod_xorr (a b c : Nat) : prod a (b ^^^ c) = prod a b ^^^ prod a c := by
  rw [prod_comm, prod_xorl, prod_comm b, prod_comm c]
theorem prod_two (a : Nat) : ∀ k, prod a (2 ^ k) = a * 2 ^ k
  | 0 => by rw [Nat.pow_zero, prod_comm, prod_one, Nat.mul_one]
  | k + 1 => by
    rw [prod_comm, Nat.pow_succ, Nat.mul_comm (2 ^ k), prod_dbl, prod_comm, prod_two a k, Nat.mul_left_comm]
theorem prod_assoc (a b : Nat) : ∀ c, prod (prod a b) c = prod a (prod b c) := by
  intro c
  induction c using Nat.strongRecOn with
  | _ c ih =>
    by_cases h : c = 0
    · subst h
      rw [prod_zero, prod_zero, prod_zero]
    · rw [prod_step (prod a b), prod_step b c, prod_xorr, ih (c / 2) (by omega)]
      have : prod a (2 * prod b (c / 2)) = 2 * prod a (prod b (c / 2)) := by rw [prod_comm, prod_dbl, prod_comm]
      rw [this]
      congr 1
      split
      · rfl
      · rw [prod_zero]
theorem prod_cancel {a b c : Nat} (ha : a ≠ 0) (h : prod a b = prod a c) : b = c := by
  have : prod a (b ^^^ c) = 0 := by rw [prod_xorr, h, Nat.xor_self]
  by_cases z : b ^^^ c = 0
  · exact xor_eq0.mp z
  · exact absurd this (prod_ne ha z)
/-- the one parted by the other: what comes of it, what is left -/
structure Parts (a b q r : Nat) : Prop where
  eq : a = prod b q ^^^ r
  lt : ∀ i, b < 2 ^ (i + 1) → r < 2 ^ i
theorem parts_uniq {a b q r q' r' : Nat} (hb : b ≠ 0) (h : Parts a b q r) (k : Parts a b q' r') : q = q' ∧ r = r' := by
  obtain ⟨i, h1, h2⟩ := top_ex hb
  have e : prod b (q ^^^ q') = r ^^^ r' := by
    have : prod b q ^^^ r = prod b q' ^^^ r' := by rw [← h.eq, ← k.eq]
    rw [prod_xorr]
    have z : (prod b q ^^^ r) ^^^ (prod b q' ^^^ r) = (prod b q' ^^^ r') ^^^ (prod b q' ^^^ r) := by rw [this]
    rw [show (prod b q ^^^ r) ^^^ (prod b q' ^^^ r) = (prod b q ^^^ prod b q') ^^^ (r ^^^ r) by ac_rfl, show (prod b q' ^^^ r') ^^^ (prod b q' ^^^ r) = (prod b q' ^^^ prod b q') ^^^ (r ^^^ r') by ac_rfl, Nat.xor_self, Nat.xor_self, Nat.xor_zero, Nat.zero_xor] at z
    exact z
  have eq : q = q' := by
    by_cases z : q ^^^ q' = 0
    · exact xor_eq0.mp z
    · obtain ⟨j, h3, h4⟩ := top_ex z
      have h5 := (prod_top j b _ h1 h2 h3 h4).1
      rw [e] at h5
      have h6 := Nat.xor_lt_two_pow (h.lt i h2) (k.lt i h2)
      have : 2 ^ i ≤ 2 ^ (i + j) := Nat.pow_le_pow_right (by decide) (by omega)
      omega
  subst eq
  rw [Nat.xor_self, prod_zero] at e
  exact ⟨rfl, xor_eq0.mp e.symm⟩
/-- a divides b -/
def Dv (a b : Nat) : Prop := ∃ q, b = prod a q
theorem Dv.refl (a : Nat) : Dv a a := ⟨1, by rw [prod_comm, prod_one]⟩
theorem Dv.zero (a : Nat) : Dv a 0 := ⟨0, by rw [prod_zero]⟩
theorem Dv.trans {a b c : Nat} (h : Dv a b) (k : Dv b c) : Dv a c := by
  obtain ⟨q, rfl⟩ := h
  obtain ⟨p, rfl⟩ := k
  exact ⟨prod q p, prod_assoc a q p⟩
theorem Dv.xor {a b c : Nat} (h : Dv a b) (k : Dv a c) : Dv a (b ^^^ c) := by
  obtain ⟨q, rfl⟩ := h
  obtain ⟨p, rfl⟩ := k
  exact ⟨q ^^^ p, (prod_xorr a q p).symm⟩
theorem Dv.mul {a b : Nat} (c : Nat) (h : Dv a b) : Dv a (prod b c) := h.trans ⟨c, rfl⟩
theorem Dv.le {a b : Nat} (hb : b ≠ 0) (h : Dv a b) : ∀ i, b < 2 ^ i → a < 2 ^ i := by
  obtain ⟨q, rfl⟩ := h
  intro i hi
  by_cases ha : a = 0
  · rw [ha]; exact Nat.two_pow_pos i
  · have hq : q ≠ 0 := fun z => hb (by rw [z, prod_zero])
    obtain ⟨k, h1, h2⟩ := top_ex ha
    obtain ⟨j, h3, h4⟩ := top_ex hq
    have h5 := (prod_top j a q h1 h2 h3 h4).1
    have h6 : k + j < i := (Nat.pow_lt_pow_iff_right (by decide)).mp (Nat.lt_of_le_of_lt h5 hi)
    exact Nat.lt_of_lt_of_le h2 (Nat.pow_le_pow_right (by decide) (by omega))
theorem Dv.anti {a b : Nat} (h : Dv a b) (k : Dv b a) : a = b := by
  by_cases hb : b = 0
  · subst hb
    obtain ⟨q, rfl⟩ := k
    rw [prod_zerol]
  · obtain ⟨q, e⟩ := h
    obtain ⟨p, e2⟩ := k
    have ha : a ≠ 0 := fun z => hb (by rw [e, z, prod_zerol])
    have h1 : prod a (prod q p) = prod a 1 := by
      rw [← prod_assoc, ← e, ← e2, prod_comm, prod_one]
    have h2 := prod_cancel ha h1
    have hq : q ≠ 0 := fun z => by rw [z, prod_zerol] at h2; omega
    have hp : p ≠ 0 := fun z => by rw [z, prod_zero] at h2; omega
    obtain ⟨i, i1, i2⟩ := top_ex hq
    obtain ⟨j, j1, j2⟩ := top_ex hp
    have h3 := (prod_top j q p i1 i2 j1 j2).1
    rw [h2] at h3
    have : i + j = 0 := by
      rcases Nat.eq_zero_or_pos (i + j) with z | z
      · exact z
      · have : 2 ^ 1 ≤ 2 ^ (i + j) := Nat.pow_le_pow_right (by decide) z
        omega
    have hi : i = 0 := by omega
    subst hi
    have : q = 1 := by simp at i1 i2; omega
    rw [e, this, prod_comm, prod_one]
theorem parts_dv {a b q : Nat} : Parts a b q 0 → Dv b a := fun h => ⟨q, by rw [h.eq, Nat.xor_zero]⟩
theorem dv_parts {a b q r : Nat} (hb : b ≠ 0) (h : Parts a b q r) (k : Dv b a) : r = 0 := by
  obtain ⟨p, e⟩ := k
  exact (parts_uniq hb h ⟨by rw [Nat.xor_zero, ← e], fun i _ => Nat.two_pow_pos i⟩).2
/-- the greatest common one -/
structure Gcd (a b g : Nat) : Prop where
  l : Dv g a
  r : Dv g b
  most : ∀ c, Dv c a → Dv c b → Dv c g
theorem gcd_uniq {a b g h : Nat} (x : Gcd a b g) (y : Gcd a b h) : g = h := (y.most g x.l x.r).anti (x.most h y.l y.r)
theorem gcd_zero (a : Nat) : Gcd a 0 a := ⟨.refl a, .zero a, fun _ h _ => h⟩
theorem gcd_step {a b q r g : Nat} (h : Parts a b q r) (k : Gcd b r g) : Gcd a b g :=
  ⟨by rw [h.eq]; exact (k.l.mul q).xor k.r, k.l, fun c ca cb => k.most c cb (by
    have e : r = a ^^^ prod b q := by rw [h.eq, Nat.xor_comm (prod b q), Nat.xor_assoc, Nat.xor_self, Nat.xor_zero]
    rw [e]
    exact ca.xor (cb.mul q))⟩
theorem gcd_ne {a b g : Nat} (h : Gcd a b g) (ha : a ≠ 0) : g ≠ 0 := fun z => by
  obtain ⟨q, e⟩ := h.l
  rw [z, prod_zerol] at e
  exact ha e
/-- the rest by a check is what is left -/
theorem rem_parts {w W : Nat} (C : Ck w W) : ∀ n, ∃ q, Parts n W q (rem w W n) := by
  intro n
  have lt : ∀ m i, W < 2 ^ (i + 1) → rem w W m < 2 ^ i := fun m i hi => by
    have h1 := C.lo
    have : w < i + 1 := (Nat.pow_lt_pow_iff_right (by decide)).mp (Nat.lt_trans h1 hi)
    exact Nat.lt_of_lt_of_le (rem_lt C m) (Nat.pow_le_pow_right (by decide) (by omega))
  induction n using Nat.strongRecOn with
  | _ n ih =>
    by_cases z : n = 0
    · subst z
      exact ⟨0, ⟨by rw [prod_zero, rem_zero]; rfl, lt 0⟩⟩
    · obtain ⟨q, hq⟩ := ih (n / 2) (by omega)
      have hb : n % 2 < 2 := by omega
      have hr := rem_lt C (n / 2)
      have hx : 2 * rem w W (n / 2) + n % 2 < 2 ^ (w + 1) := by rw [Nat.pow_succ]; omega
      have en : n = 2 * (n / 2) + n % 2 := by omega
      have e2 : 2 * (n / 2) + n % 2 = prod W (2 * q) ^^^ (2 * rem w W (n / 2) + n % 2) := by
        have h1 : prod W (2 * q) = 2 * prod W q := by rw [prod_comm, prod_dbl, prod_comm]
        have h2 := xor_bit (prod W q) (rem w W (n / 2)) 0 (n % 2) (by omega) hb
        rw [Nat.add_zero, Nat.zero_xor] at h2
        rw [h1, h2, ← hq.eq]
      by_cases c : 2 ^ w ≤ 2 * rem w W (n / 2) + n % 2
      · refine ⟨2 * q ^^^ 1, ⟨?_, lt n⟩⟩
        have e3 : rem w W n = (2 * rem w W (n / 2) + n % 2) ^^^ W := by rw [rem_step, red_hi C hx c]
        have e4 : prod W 1 = W := by rw [prod_comm, prod_one]
        rw [e3, prod_xorr, e4, show (prod W (2 * q) ^^^ W) ^^^ ((2 * rem w W (n / 2) + n % 2) ^^^ W) = (prod W (2 * q) ^^^ (2 * rem w W (n / 2) + n % 2)) ^^^ (W ^^^ W) by ac_rfl, Nat.xor_self, Nat.xor_zero, ← e2]
        exact en
      · refine ⟨2 * q, ⟨?_, lt n⟩⟩
        have e3 : rem w W n = 2 * rem w W (n / 2) + n % 2 := by rw [rem_step, red_id C (Nat.lt_of_not_le c)]
        rw [e3, ← e2]
        exact en
end My

namespace My
/-! ### inverses and joined rests over two -/
theorem dv_rem {a b q r : Nat} (h : Parts a b q r) {c : Nat} (k : Dv c b) : Dv c a ↔ Dv c r := by
  constructor
  · intro y
    have e : r = a ^^^ prod b q := by rw [h.eq, Nat.xor_comm (prod b q), Nat.xor_assoc, Nat.xor_self, Nat.xor_zero]
    rw [e]
    exact y.xor (k.mul q)
  · intro y
    rw [h.eq]
    exact (k.mul q).xor y
theorem gcd_comm {a b g : Nat} (h : Gcd a b g) : Gcd b a g := ⟨h.r, h.l, fun c x y => h.most c y x⟩
/-- an inverse, up to the greatest common one -/
def IsInv (one by_ g p : Nat) : Prop := Dv by_ (g ^^^ prod one p)
theorem inv_first (one by_ : Nat) : Dv by_ (by_ ^^^ prod one 0) := by
  rw [prod_zero, Nat.xor_zero]
  exact .refl by_
theorem inv_second {one by_ q r : Nat} (h : Parts one by_ q r) : Dv by_ (r ^^^ prod one 1) := by
  have e1 : prod one 1 = one := by rw [prod_comm, prod_one]
  have e : r ^^^ one = prod by_ q := by
    have := h.eq
    rw [this, show r ^^^ (prod by_ q ^^^ r) = prod by_ q ^^^ (r ^^^ r) by ac_rfl, Nat.xor_self, Nat.xor_zero]
  rw [e1, e]
  exact ⟨q, rfl⟩
theorem inv_step {one by_ left right part more many left2 : Nat} (h : Parts left right many left2) (h1 : Dv by_ (left ^^^ prod one part)) (h2 : Dv by_ (right ^^^ prod one more)) : Dv by_ (left2 ^^^ prod one (part ^^^ prod many more)) := by
  have e : left2 = left ^^^ prod right many := by rw [h.eq, Nat.xor_comm (prod right many), Nat.xor_assoc, Nat.xor_self, Nat.xor_zero]
  have e2 : left2 ^^^ prod one (part ^^^ prod many more) = (left ^^^ prod one part) ^^^ prod (right ^^^ prod one more) many := by
    rw [e, prod_xorr, prod_xorl, prod_assoc, prod_comm many more]
    ac_rfl
  rw [e2]
  exact h1.xor (h2.mul many)
/-- what the joined rests ask: the one, the other, what both share, the other's own part -/
structure Pair (mine yours both m y inv : Nat) : Prop where
  ne : mine ≠ 0
  ny : yours ≠ 0
  g : Gcd mine yours both
  em : mine = prod both m
  ey : yours = prod both y
  inv : Dv y (1 ^^^ prod m inv)
theorem prod_dv {a b c : Nat} (ha : a ≠ 0) (h : Dv (prod a b) (prod a c)) : Dv b c := by
  obtain ⟨q, e⟩ := h
  rw [prod_assoc] at e
  exact ⟨q, prod_cancel ha e⟩
theorem dv_prod {b c : Nat} (a : Nat) (h : Dv b c) : Dv (prod a b) (prod a c) := by
  obtain ⟨q, rfl⟩ := h
  exact ⟨q, (prod_assoc a b q).symm⟩
/-- parts without a common one -/
theorem gcd_parts {a b g x y : Nat} (ha : a ≠ 0) (h : Gcd a b g) (ex : a = prod g x) (ey : b = prod g y) : Gcd x y 1 := by
  have hg := gcd_ne h ha
  refine ⟨⟨x, by rw [prod_one]⟩, ⟨y, by rw [prod_one]⟩, fun c cx cy => ?_⟩
  have h1 := h.most (prod g c) (by rw [ex]; exact dv_prod g cx) (by rw [ey]; exact dv_prod g cy)
  have h2 : Dv (prod g c) (prod g 1) := by
    rw [prod_comm g 1, prod_one]
    exact h1
  exact prod_dv hg h2
section
variable {mine yours both m y inv : Nat} (P : Pair mine yours both m y inv)
include P
theorem Pair.nb : both ≠ 0 := gcd_ne P.g P.ne
/-- who divides by both divides by the joined one -/
theorem Pair.join {x : Nat} (h1 : Dv mine x) (h2 : Dv yours x) : Dv (prod mine y) x := by
  obtain ⟨u, eu⟩ := h1
  have e : x = prod both (prod m u) := by rw [eu, P.em, prod_assoc]
  have h3 : Dv y (prod m u) := prod_dv P.nb (by rw [← e, ← P.ey]; exact h2)
  have h4 : Dv y u := by
    have z : u = prod (1 ^^^ prod m inv) u ^^^ prod (prod m u) inv := by
      rw [prod_xorl, prod_one, prod_assoc m inv u, prod_assoc m u inv, prod_comm u inv, Nat.xor_assoc, Nat.xor_self, Nat.xor_zero]
    rw [z]
    exact (P.inv.mul u).xor (h3.mul inv)
  rw [eu]
  exact dv_prod mine h4
theorem Pair.joinL : Dv mine (prod mine y) := ⟨y, rfl⟩
theorem Pair.joinR : Dv yours (prod mine y) := ⟨m, by rw [P.em, P.ey, prod_assoc, prod_comm m y, prod_assoc]⟩
/-- the joined rest -/
theorem Pair.both_rests {left right apart q often : Nat} (ha : Parts (left ^^^ right) both apart 0) (ho : Parts (prod apart inv) y q often) : Dv mine ((left ^^^ prod mine often) ^^^ left) ∧ Dv yours ((left ^^^ prod mine often) ^^^ right) := by
  constructor
  · rw [show (left ^^^ prod mine often) ^^^ left = prod mine often ^^^ (left ^^^ left) by ac_rfl, Nat.xor_self, Nat.xor_zero]
    exact ⟨often, rfl⟩
  · have e1 : left ^^^ right = prod both apart := by rw [ha.eq, Nat.xor_zero]
    have e2 : (left ^^^ prod mine often) ^^^ right = prod both (apart ^^^ prod m often) := by
      rw [prod_xorr, ← e1, P.em, prod_assoc]
      ac_rfl
    rw [e2, P.ey]
    refine dv_prod both ?_
    have e3 : often = prod apart inv ^^^ prod y q := by rw [ho.eq, Nat.xor_comm (prod y q), Nat.xor_assoc, Nat.xor_self, Nat.xor_zero]
    have e4 : apart ^^^ prod m often = prod (1 ^^^ prod m inv) apart ^^^ prod y (prod q m) := by
      rw [e3, prod_xorr, prod_xorl, prod_one, prod_assoc m inv apart, prod_comm inv apart, prod_comm m (prod y q), prod_assoc y q m]
      ac_rfl
    rw [e4]
    exact (P.inv.mul apart).xor ⟨prod q m, rfl⟩
/-- no more than one below the joined one's size -/
theorem Pair.uniq {n k : Nat} {i : Nat} (hi : 2 ^ i ≤ prod mine y) (hn : n < 2 ^ i) (hk : k < 2 ^ i) (h1 : Dv mine (n ^^^ k)) (h2 : Dv yours (n ^^^ k)) : n = k := by
  by_cases z : n ^^^ k = 0
  · exact xor_eq0.mp z
  · have := (P.join h1 h2).le z i (Nat.xor_lt_two_pow hn hk)
    omega
end
/-! ### sizes -/
theorem prod_tight {i j a b : Nat} (ha : a < 2 ^ (i + 1)) (hb : b < 2 ^ (j + 1)) : prod a b < 2 ^ (i + j + 1) := by
  by_cases za : a = 0
  · rw [za, prod_zerol]; exact Nat.two_pow_pos _
  · by_cases zb : b = 0
    · rw [zb, prod_zero]; exact Nat.two_pow_pos _
    · obtain ⟨k, k1, k2⟩ := top_ex za
      obtain ⟨l, l1, l2⟩ := top_ex zb
      have h := (prod_top l a b k1 k2 l1 l2).2
      have h1 : k < i + 1 := (Nat.pow_lt_pow_iff_right (by decide)).mp (Nat.lt_of_le_of_lt k1 ha)
      have h2 : l < j + 1 := (Nat.pow_lt_pow_iff_right (by decide)).mp (Nat.lt_of_le_of_lt l1 hb)
      exact Nat.lt_of_lt_of_le h (Nat.pow_le_pow_right (by decide) (by omega))
/-- what comes of the parting is no longer than the sizes lie apart -/
theorem parts_size {a b q r i k : Nat} (h : Parts a b q r) (ha : a < 2 ^ (i + 1)) (hb : 2 ^ k ≤ b) (hb2 : b < 2 ^ (k + 1)) (ki : k ≤ i) : q < 2 ^ (i - k + 1) := by
  by_cases zq : q = 0
  · rw [zq]; exact Nat.two_pow_pos _
  · obtain ⟨l, l1, l2⟩ := top_ex zq
    have e : prod b q = a ^^^ r := by rw [h.eq, Nat.xor_assoc, Nat.xor_self, Nat.xor_zero]
    have hr := h.lt k hb2
    have h1 : prod b q < 2 ^ (i + 1) := by
      rw [e]
      exact Nat.xor_lt_two_pow ha (Nat.lt_of_lt_of_le hr (Nat.pow_le_pow_right (by decide) (by omega)))
    have h2 := (prod_top l b q hb hb2 l1 l2).1
    have h3 : k + l < i + 1 := (Nat.pow_lt_pow_iff_right (by decide)).mp (Nat.lt_of_le_of_lt h2 h1)
    exact Nat.lt_of_lt_of_le l2 (Nat.pow_le_pow_right (by decide) (by omega))
/-- the state of the search for an inverse -/
structure InvSt (one by_ D left part right more i : Nat) : Prop where
  l1 : 2 ^ i ≤ left
  l2 : left < 2 ^ (i + 1)
  iD : i ≤ D
  r : right < 2 ^ i
  p : part < 2 ^ (D - i + 1)
  m : more < 2 ^ (D - i + 1)
  dl : Dv by_ (left ^^^ prod one part)
  dr : Dv by_ (right ^^^ prod one more)
theorem InvSt.first {one by_ D q r : Nat} (h1 : 2 ^ D ≤ by_) (h2 : by_ < 2 ^ (D + 1)) (h : Parts one by_ q r) : InvSt one by_ D by_ 0 r 1 D :=
  ⟨h1, h2, Nat.le_refl _, h.lt D h2, Nat.two_pow_pos _, by rw [Nat.sub_self]; decide, inv_first one by_, inv_second h⟩
theorem InvSt.next {one by_ D left part right more i many left2 : Nat} (S : InvSt one by_ D left part right more i) (hr : right ≠ 0) (h : Parts left right many left2) :
    ∃ k, k < i ∧ InvSt one by_ D right more left2 (part ^^^ prod many more) k := by
  obtain ⟨k, k1, k2⟩ := top_ex hr
  have ki : k < i := (Nat.pow_lt_pow_iff_right (by decide)).mp (Nat.lt_of_le_of_lt k1 S.r)
  have iD := S.iD
  have hm := parts_size h S.l2 k1 k2 (by omega)
  have hp := prod_tight hm S.m
  have up : 2 ^ (D - i + 1) ≤ 2 ^ (D - k + 1) := Nat.pow_le_pow_right (by decide) (by omega)
  refine ⟨k, ki, k1, k2, by omega, h.lt k k2, Nat.lt_of_lt_of_le S.m up, Nat.xor_lt_two_pow (Nat.lt_of_lt_of_le S.p up) (Nat.lt_of_lt_of_le hp (Nat.pow_le_pow_right (by decide) (by omega))), S.dr, inv_step h S.dl S.dr⟩
/-- the greatest common one goes along -/
theorem gcd_turn {left right many left2 g : Nat} (h : Parts left right many left2) (k : Gcd left right g) : Gcd right left2 g :=
  ⟨k.r, (dv_rem h k.r).mp k.l, fun c c1 c2 => k.most c ((dv_rem h c1).mpr c2) c1⟩
/-! ### products place by place -/
def prodL (a : Nat) (xs : List Nat) : Nat := xs.foldl (fun v p => v ^^^ a * 2 ^ p) 0
theorem prodL_snoc (a : Nat) (xs : List Nat) (x : Nat) : prodL a (xs ++ [x]) = prodL a xs ^^^ a * 2 ^ x := by
  unfold prodL
  rw [List.foldl_append]
  rfl
theorem prodL_ones (a b : Nat) : ∀ k, prodL a (onesN b k) = prod a (b % 2 ^ k)
  | 0 => by rw [Nat.pow_zero, Nat.mod_one, prod_zero]; rfl
  | k + 1 => by
    rw [ones_succ, mod_succ]
    by_cases c : b.testBit k = true
    · rw [if_pos c, if_pos c, prodL_snoc, prodL_ones a b k, prod_xorr, prod_two]
    · rw [if_neg c, if_neg c, List.append_nil, Nat.xor_zero, prodL_ones a b k]
/-- one step of parting -/
theorem parts_step {a b left found p : Nat} (h : a = prod b found ^^^ left) : a = prod b (found ^^^ 2 ^ p) ^^^ (left ^^^ b * 2 ^ p) := by
  rw [prod_xorr, prod_two, show (prod b found ^^^ b * 2 ^ p) ^^^ (left ^^^ b * 2 ^ p) = (prod b found ^^^ left) ^^^ (b * 2 ^ p ^^^ b * 2 ^ p) by ac_rfl, Nat.xor_self, Nat.xor_zero]
  exact h
/-- two of the same size make a shorter one -/
theorem xor_short {x y i : Nat} (h1 : 2 ^ i ≤ x) (h2 : x < 2 ^ (i + 1)) (h3 : 2 ^ i ≤ y) (h4 : y < 2 ^ (i + 1)) : x ^^^ y < 2 ^ i := xor_low h2 h4 h1 h3
theorem parts_turn {b l B L : Nat} (hb1 : 2 ^ B ≤ b) (hb2 : b < 2 ^ (B + 1)) (hl1 : 2 ^ L ≤ l) (hl2 : l < 2 ^ (L + 1)) (c : B ≤ L) : l ^^^ b * 2 ^ (L - B) < 2 ^ L := by
  refine xor_short hl1 hl2 ?_ ?_
  · rw [show 2 ^ L = 2 ^ B * 2 ^ (L - B) by rw [← Nat.pow_add]; congr 1; omega]
    exact Nat.mul_le_mul_right _ hb1
  · rw [show 2 ^ (L + 1) = 2 ^ (B + 1) * 2 ^ (L - B) by rw [← Nat.pow_add]; congr 1; omega]
    exact Nat.mul_lt_mul_of_pos_right hb2 (Nat.two_pow_pos _)
theorem parts_end {a b left found B : Nat} (h : a = prod b found ^^^ left) (hb1 : 2 ^ B ≤ b) (hl : left < 2 ^ B) : Parts a b found left :=
  ⟨h, fun i hi => Nat.lt_of_lt_of_le hl (Nat.pow_le_pow_right (by decide) (by
    have : B < i + 1 := (Nat.pow_lt_pow_iff_right (by decide)).mp (Nat.lt_of_le_of_lt hb1 hi)
    omega))⟩
end My

namespace My
open PySem PySem.Spec PyProof.Rows L2 Pre
/-! ### promises for callers that stand in no repr: within them repr of lists shows its items -/
structure FnG (P : Program) (w : World) (K : PySem.W.Frag) (mg : Str → Option Value) (base : Heap) (CX : CXT) (k : Nat) (f : Addr) (fd : FuncData) (ps : List Str) (sp : Sp) : Prop where
  many : ∀ xs H Q E, sp xs H Q E → xs.length = ps.length
  does : ∀ (A : Around), A.guards = some [] → Room k A → ∀ (fr : List Env) (t : Shared) (H : Hp), Env0 P w K mg base A fr t H → ∀ (ar : Args) (us : List Value) (xs : List V), BindsTo t fd ar (ps.zip us) → Vals xs us →
    ∀ (Q : VK) (E : XK), sp xs H Q E → codeAny (model P w) A (.call (.ref f) ar) (CR CX fr P w H t Q E) t
section
variable {P : Program} {w : World} {K : PySem.W.Frag} {mg : Str → Option Value} {base : Heap} {CX : CXT} {k : Nat} {f : Addr} {fd : FuncData} {ps : List Str} {sp : Sp}
theorem FnG.of (F : FnOk P w K mg base CX k f fd ps sp) : FnG P w K mg base CX k f fd ps sp :=
  ⟨F.len, fun A _ hr fr t H e ar us xs b v Q E h => F.run A fr t H ar us xs Q E hr e b v h⟩
/-- a body makes a promise -/
theorem FnG.body {x qual : Str} {pr : Arguments} {bd : List Stmt} {sc : Scope} {dvs : List V} {kws : List (Str × V)} {N : List Str} (F : FunD K x qual pr bd sc dvs kws f fd) (S : FnScope N ps sc) (hm : ∀ xs H Q E, sp xs H Q E → xs.length = ps.length)
    (go : ∀ (cv : Value) (A : Around) (fr : List Env) (t : Shared) (H : Hp) (xs : List V) (Q : VK) (E : XK), A.guards = some [] → Room k (A.deeper (envOfC qual sc t.heap.objs.size f cv)) → sp xs H Q E →
      ∃ τ, PSs (cxOf CX P w K mg base N qual sc f cv A fr t H E) bd τ ∧ τ { nx := fun _ H1 => Q .non H1, rt := Q } (start N xs) H) : FnG P w K mg base CX (k + 1) f fd ps sp := by
  obtain ⟨c0, d0, dv, kv, dc, pm, an, cv, ct, sl, rfl, lk, hcode, _, _⟩ := F.ex
  refine ⟨hm, fun A gd hr fr t H e0 ar us xs hb rv Q E hs => ?_⟩
  have hin : K.In t.heap := e0.mod.kin.keeps fun b o z => (e0.bs b o z).1
  have hno : t.heap.NoLimit := e0.mod.nolimit.keeps fun b o z => (e0.bs b o z).1
  refine codeAny_call_function hr.depth (hin _ _ lk) rfl S.co S.gen rfl (PySem.W.codeRec_of hin hcode) (hb _ _ _ _ ?_)
  refine wpAny_newFunctionEnv_cells S.kind (fun y hy => ?_) fun env he t1 hx => ?_
  · obtain ⟨n, u⟩ := y
    rcases S.par n (List.of_mem_zip hy).1 with z | z
    · exact Or.inl z
    · exact Or.inr ⟨z, PySem.W.cellsFrom_some _ _ _ (Or.inl z)⟩
  · subst he
    refine ⟨hno.keeps hx.toInCall.keep, codeAny_func ?_⟩
    obtain ⟨τ, hτ, hq⟩ := go cv A fr t H xs Q E gd (hr.deeper _) hs
    have J := inv_start (CX := CX) (E := E) S hr.hd e0 (hm _ _ _ _ hs) rv hx
    refine wpAny_mono (hτ.run [] t1 (start N xs) H _ J hq) (fun fl t2 h2 => ?_) fun _ _ z => z
    cases fl with
    | brk => exact False.elim h2.choose_spec.choose_spec.2
    | cont => exact False.elim h2.choose_spec.choose_spec.2
    | next =>
      obtain ⟨σ2, H2, J2, q2⟩ := h2
      exact ⟨V.non, H2, J2.os, J2.bare, J2.base, J2.hok, rfl, q2⟩
    | ret u =>
      obtain ⟨v2, σ2, H2, J2, r2, q2⟩ := h2
      exact ⟨v2, H2, J2.os, J2.bare, J2.base, J2.hok, r2, q2⟩
end
section
variable {X : Cx} {CX : CXT} {k : Nat} {f : Addr} {fd : FuncData} {ps : List Str} {sp : Sp} {dvs : List V} {ds : List Value} {E : XK} {x : Str} {p pos : Pos} {e : Expr} {es : List Expr} {t : TA}
theorem go_g {pins : List (Addr × Obj)} {σ : L2.St} {H : Hp} {s : Shared} {Q : VK} {us : List Value} {xs : List V} (F : FnG X.prog X.w X.K X.mg X.base CX k f fd ps sp) (gd : X.A.guards = some []) (hr : Room k X.A) (hb : Binds X.K fd ps ds) (hd : Vals dvs ds)
    (hx : Passes CX X E) (I : Inv X pins σ H s) (r : Vals xs us) (h : sp (xs ++ dvs) H Q E) : wpAny (model X.prog X.w) X.A (call (.ref f) us) (EP X pins σ Q) X.xe s := by
  have rr := Vals.append r hd
  refine wpAny_call (codeAny_mono (F.does X.A gd hr X.stack s H I.env0 ⟨us, []⟩ (us ++ ds) (xs ++ dvs) (hb s us I.kIn (by rw [← rr.length]; exact F.many _ _ _ _ h)) rr Q E h) fun z s2 hz => ?_)
  match z, hz with
  | .error e, hz => exact hx pins σ H s e s2 I hz
  | .ok (.ret u), hz => exact I.after hz
theorem pe_callG (F : FnG X.prog X.w X.K X.mg X.base CX k f fd ps sp) (gd : X.A.guards = some []) (hr : Room k X.A) (hg : Gl X x) (hm : X.mg x = some (.ref f)) (hk : PySem.W.keepIn X.K (.ref f) = true) (hb : Binds X.K fd ps ds) (hd : Vals dvs ds) (hx : Passes CX X E)
    (ha : PA X (e :: es) t) (hdb : (x == ("__debug__" : Str)) = false := by decide) (he : starEach (e :: es) X.env = (false, eval e X.env) :: starEach es X.env := by rfl) (hpl : (backTo pos (starEach es X.env)).any (·.1) = false := by rfl) :
    PE X (.Call (.Name x p) (e :: es) [] pos) (tCall sp dvs E t) :=
  ⟨fun pins s σ H Q I h => wpAny_Call_Name_kw (ld_glob I hg hm (PySem.W.callWith_K (h₀ := X.base) I.ok.mod.kin hk (thn (ha.run pos pins s σ H _ I h) fun us s1 ⟨vs, H1, J, r, q⟩ => ⟨J.kIn, go_g F gd hr hb hd hx J r q⟩) he hpl) hdb)⟩
theorem pe_callG0 (F : FnG X.prog X.w X.K X.mg X.base CX k f fd ps sp) (gd : X.A.guards = some []) (hr : Room k X.A) (hg : Gl X x) (hm : X.mg x = some (.ref f)) (hk : PySem.W.keepIn X.K (.ref f) = true) (hb : Binds X.K fd ps ds) (hd : Vals dvs ds) (hx : Passes CX X E)
    (hdb : (x == ("__debug__" : Str)) = false := by decide) : PE X (.Call (.Name x p) [] [] pos) (tCall sp dvs E tNil) :=
  ⟨fun pins s σ H Q I h => wpAny_Call_Name_kw (ld_glob I hg hm (PySem.W.callWith_K0 I.kIn hk (go_g (us := []) F gd hr hb hd hx I .nil h)) hdb)⟩
end
/-! ### repr -/
def rRepr (K : PySem.W.Frag) : List V → Hp → VK → Prop := fun xs H Q => ∃ (x : V) (d : PyData), xs = [x] ∧ Dp K H x d ∧ d.showable = true ∧ SeqAt.shaped d = true ∧ d.shown.length ≤ sizeLine ∧ Q (.str d.shown) H
theorem call_repr {X : Cx} (gd : X.A.guards = some []) (hu : X.A.units + 65 < cLine) : CallR X (.builtin "repr") (rRepr X.K) := by
  intro pins s σ H xs us Q I r h
  obtain ⟨x, d, rfl, hd, hs, hsh, hl, q⟩ := h
  cases r with
  | cons rx rr =>
    cases rr
    rename_i u
    have hlay : d.canLay0 = true := SeqAt.canLay_of_shaped hsh
    have hdep : d.depth ≤ 64 := by
      have z : (d.canLay0 && decide (d.depth ≤ 64)) = true := hsh
      exact of_decide_eq_true (Bool.and_eq_true_iff.mp z).2
    obtain ⟨as, rd⟩ := Dp.reads I d x u hd rx
    have fin : ∀ h' v tk, (∀ b o, s.heap.get? b = some o → h'.get? b = some o) → EP X pins σ Q (.str d.shown v) { s with heap := h', toks := tk } := fun h' v tk hk => ⟨.str d.shown, H, I.kept hk, ⟨v, rfl⟩, q⟩
    cases hd with
    | non => cases rx; exact PySem.P.repr_of_none (fin _ _ _ fun _ _ z => z)
    | bl b => cases rx; exact PySem.P.repr_of_bool (fin _ _ _ fun _ _ z => z)
    | int i => obtain ⟨t, rfl⟩ := rx; exact PySem.P.repr_of_int (of_decide_eq_true hs) (fin _ _ _ fun _ _ z => z)
    | str y => obtain ⟨t, rfl⟩ := rx; exact PySem.P.repr_of_str (fin _ _ _ fun _ _ z => z) hl
    | lst _ _ => cases rx; exact repr_of_reads' rd hs (PyData.noDict_hsm (PyData.hasDict_of_canLay _ hlay)) gd (by omega) (fun _ _ z => z) fin hl
    | tup _ _ => cases rx; exact repr_of_reads' rd hs (PyData.noDict_hsm (PyData.hasDict_of_canLay _ hlay)) gd (by omega) (fun _ _ z => z) fin hl
theorem k_repr {X : Cx} (K : PySem.W.Frag) (h : X.K = K) (gd : X.A.guards = some []) (hu : X.A.units + 65 < cLine) : CallR X (.builtin "repr") (rRepr K) := by subst h; exact call_repr gd hu
theorem hu65 {k : Nat} {A : Around} (r : Room k A) : A.units + 65 < cLine := by have := r.un; omega
/-- rows of whole numbers, shown -/
theorem dp_ints {K : PySem.W.Frag} {H : Hp} : ∀ ns : List Int, DpAll K H (ns.map V.int) (ns.map PyData.int)
  | [] => .nil
  | n :: ns => .cons (.int n) (dp_ints ns)
theorem dp_row {K : PySem.W.Frag} {H : Hp} {a : Addr} {ns : List Int} (h : SqL K H a (ns.map V.int)) : Dp K H (.ref a) (.list (ns.map PyData.int)) := .lst h (dp_ints ns)
def shownR (ns : List Int) : Str := PyData.shown (.list (ns.map PyData.int))
theorem ints_lay : ∀ ns : List Int, PyData.canLayAll0 (ns.map PyData.int) = true
  | [] => rfl
  | n :: ns => by simp [PyData.canLayAll0, PyData.canLay0, ints_lay ns]
theorem ints_depth : ∀ ns : List Int, PyData.depthAll (ns.map PyData.int) ≤ 1
  | [] => by simp [PyData.depthAll]
  | n :: ns => by
    have := ints_depth ns
    simp only [List.map_cons, PyData.depthAll, PyData.depth]
    omega
theorem row_shaped (ns : List Int) : SeqAt.shaped (.list (ns.map PyData.int)) = true := by
  have h := ints_depth ns
  show (PyData.canLay0 (.list (ns.map PyData.int)) && decide (PyData.depth (.list (ns.map PyData.int)) ≤ 64)) = true
  rw [Bool.and_eq_true]
  exact ⟨by simp only [PyData.canLay0]; exact ints_lay ns, decide_eq_true (by simp only [PyData.depth]; omega)⟩
theorem ints_show : ∀ ns : List Int, (∀ n ∈ ns, n.natAbs.log2 < 1920) → PyData.showableAll (ns.map PyData.int) = true
  | [], _ => rfl
  | n :: ns, h => by
    simp only [List.map_cons, PyData.showableAll, PyData.showable]
    rw [decide_eq_true (h n List.mem_cons_self), ints_show ns fun m hm => h m (List.mem_cons_of_mem _ hm)]
    rfl
/-! ### sorted, any number -/
theorem k_sortedI {X : Cx} (K : PySem.W.Frag) (h : X.K = K) : CallR X (.builtin "sorted") (rSortedI K) := by subst h; exact cr_sortedI
def rSortedA (K : PySem.W.Frag) : List V → Hp → VK → Prop := fun vs H Q => ∃ (a : Addr) (xs : List Str), vs = [V.ref a] ∧ SqL K H a (xs.map V.str) ∧ ∀ (ys : List Str) (p : Addr), ys.Perm xs → sortedS ys = true → H p = none → Q (.ref p) (upd H p (.lst (ys.map V.str)))
theorem k_sortedS {X : Cx} (K : PySem.W.Frag) (h : X.K = K) : CallR X (.builtin "sorted") (rSortedA K) := by
  subst h
  intro pins s σ H vs us Q I r h
  obtain ⟨a, xs, rfl, hs, q⟩ := h
  obtain ⟨its, rv, hl, hz⟩ := I.list hs
  rw [Vals.ref1 r]
  refine sorted_strsAny hl.isList rv.strs (by rw [← rv.length]; exact hz) fun out ys h1 h2 h3 => ?_
  obtain ⟨ep, at_⟩ := sortedAll_at s.heap its out
  refine ⟨.ref _, upd H (s.heap.objs.size + 1) (.lst (ys.map V.str)), I.laid (t' := s.toks) (fun _ _ => sortedAll_old) (Nat.le_succ _) ⟨?_, out.toList, ep, vals_of_strs h1, at_⟩, rfl, q ys _ h2 h3 (I.hok.fresh (Nat.le_succ _))⟩
  rw [List.length_map, h2.length_eq]
  rw [List.length_map] at hz
  exact hz
theorem sorted_le : ∀ (l : List Str) (p : Str), risingS p l = true → (p :: l).Pairwise fun x y => x.cps.toList ≤ y.cps.toList
  | [], p, _ => List.pairwise_singleton _ _
  | x :: r, p, h => by
    obtain ⟨h1, h2⟩ := Bool.and_eq_true_iff.mp (show (!ltCps x.cps.toList p.cps.toList && risingS x r) = true from h)
    have hpx : p.cps.toList ≤ x.cps.toList := by
      rw [ltCps_eq] at h1
      intro z
      rw [decide_eq_true z] at h1
      cases h1
    have ih := sorted_le r x h2
    refine List.pairwise_cons.mpr ⟨fun y hy => ?_, ih⟩
    rcases List.mem_cons.mp hy with rfl | hy
    · exact hpx
    · exact List.le_trans hpx ((List.pairwise_cons.mp ih).1 y hy)
theorem sorted_uniq {xs ys : List Str} (h : xs.Perm ys) (hx : sortedS xs = true) (hy : sortedS ys = true) : xs = ys := by
  have pw : ∀ l : List Str, sortedS l = true → l.Pairwise fun x y => x.cps.toList ≤ y.cps.toList := fun l hl => by
    cases l with
    | nil => exact .nil
    | cons x r => exact sorted_le r x hl
  refine List.Perm.eq_of_pairwise (fun x y _ _ h1 h2 => ?_) (pw _ hx) (pw _ hy) h
  have e := List.le_antisymm h1 h2
  cases x with | mk a => cases y with | mk b => exact congrArg Str.mk (Array.toList_inj.mp e)
end My

namespace My
open PySem PySem.Spec PyProof.Rows L2 Pre
/-! ### the end of a law whose promise stands in no repr -/
/-- the script, tracked or one of the module's own objects -/
theorem script_env {P : Program} {w : World} {K : PySem.W.Frag} {mg mb : Str → Option Value} {a : Addr} {t : Shared} {us : List Value} {ns : List Int} (hin : K.In t.heap) (hgl : t.heap.Ns mainGlobals mg) (hbl : t.heap.Ns builtinsNs mb)
    (hbo : ∀ x : Str, x ≠ "__name__" → mb x = bootBuiltins x) (hno : t.heap.NoLimit) (hgs : t.gens = #[]) (at_a : t.heap.get? a = some { cls := .type "list", data := .seq us.toArray }) (ints_ : IntsAre us ns) (few : ns.length ≤ sizeLine) :
    ∃ (H : Hp) (base : Heap), Only H ∧ SqL K H a (ns.map V.int) ∧ K.In base ∧ base.Ns mainGlobals mg ∧ Env0 P w K mg base callerA [] t H := by
  have rv := vals_ints ints_
  have ul := ints_.length
  -- the module and the rest of the heap, whatever is tracked at a alone
  have rest : ∀ H : Hp, Only H → (∀ b, b ≠ a → H b = none) → (H a = none ∨ K.lookup a = none) → HOk P w H t.heap → SqL K H a (ns.map V.int) → ∃ (H : Hp) (base : Heap), Only H ∧ SqL K H a (ns.map V.int) ∧ K.In base ∧ base.Ns mainGlobals mg ∧ Env0 P w K mg base callerA [] t H := by
    intro H h1 h2 h3 h4 h5
    have dictFree : ∀ b o, t.heap.get? b = some o → (∃ es n, o.data = Data.dict es n) → H b = none := fun b o z ⟨es, n, d⟩ => by
      by_cases hb : b = a
      · rw [hb, at_a] at z
        cases z
        cases d
      · exact h2 b hb
    have nsKept : ∀ (b : Addr) (m : Str → Option Value), t.heap.Ns b m → (hidT t.heap H).Ns b m := fun b m z => by
      obtain ⟨o, es, ep, z1, z2, z3⟩ := z
      exact ⟨o, es, ep, hidT_get z1 (dictFree b o z1 ⟨_, _, z2⟩), z2, z3⟩
    have inKept : K.In (hidT t.heap H) := fun b o z => hidT_get (hin b o z) (by
      by_cases hb : b = a
      · rcases h3 with z3 | z3
        · rw [hb]; exact z3
        · rw [hb, z3] at z; cases z
      · exact h2 b hb)
    obtain ⟨mc, l1, l2⟩ := hno
    refine ⟨H, hidT t.heap H, h1, h5, inKept, nsKept _ _ hgl, ⟨rfl, ⟨inKept, nsKept _ _ hgl, ⟨mb, nsKept _ _ hbl, hbo⟩, ⟨mc, nsKept _ _ l1, l2⟩⟩, fun b o z => of_hidT z, ?_, trivial, fun b z => (nomatch z), h4, .of_eq hgs⟩⟩
    rw [hidT_size]
    exact Nat.le_refl _
  cases hk : K.lookup a with
  | some o =>
    have z := hin a o hk
    rw [at_a] at z
    cases z
    exact rest (fun _ => none) (fun _ => .inl rfl) (fun _ _ => rfl) (.inl rfl) (fun _ _ z => nomatch z) (.inr ⟨_, us.toArray, _, hk, rfl, rfl, rfl, by rw [List.size_toArray, ul]; exact few, by simpa using rv⟩)
  | none =>
    refine rest (upd (fun _ => none) a (.frz { cls := .type "list", data := .seq us.toArray } (.lst (ns.map V.int)))) (fun b => ?_) (fun b hb => upd_ne hb) (.inr hk) (fun b u z => ?_) (.inl (.inr ⟨_, upd_same⟩))
    · by_cases hb : b = a
      · rw [hb]; exact .inr ⟨_, _, upd_same⟩
      · exact .inl (upd_ne hb)
    · by_cases hb : b = a
      · subst hb
        rw [upd_same] at z
        cases z
        exact ⟨at_a, by rw [List.length_map]; exact few, us, _, rv, at_a⟩
      · rw [upd_ne hb] at z
        cases z
theorem end_g {l : PySem.W.OpenLaw} {n k : Nat} {q : Program} {loose : List Str} {XP : (Str → Option Value) → Heap → Prop} {YP : World → Heap → Prop} {d : DefRec} {x : Str} (hn : l.most = some n) (hn2 : n ≤ sizeLine) (hdf : d.params.defaults = []) (hr : Room k callerA)
    (F : ∀ (w : World) (mg : Str → Option Value) (fa : Addr) (h : Heap), YP w h → h.Ns mainGlobals mg → mg d.name = some (.ref fa) →
      ∃ (K : PySem.W.Frag) (fd : FuncData) (sp : Sp), K.In h ∧ (∀ (s : Shared) (u : Value), BindsTo s fd ⟨[u], []⟩ [(x, u)]) ∧
        (∀ (H : Hp) (a : Addr) (ns : List Int), ns.length ≤ n → SqL K H a (ns.map V.int) → sp [.ref a] H (fun v _ => v = .bl true) fun _ _ _ => False) ∧
        ∀ base : Heap, K.In base → base.Ns mainGlobals mg → FnG l.prog w K mg base CX0 k fa fd [x] sp) :
    PySem.W.WalkO q loose XP YP l.row.toRowW d [] (fun f vs => PySem.call f vs) := by
  refine Att.attach_call hn hdf fun w s₀ t mg mb fa o pm cd doc a us ns G Y ho hd hcd hmg at_a hi hl hg => ?_
  obtain ⟨K, fd, sp, hin, hb, hsp, hF⟩ := F w mg fa _ Y G.T.g hmg
  obtain ⟨H, base, only, hS, hKb, hgb, e0⟩ := script_env (P := l.prog) (w := w) hin G.T.g G.T.b G.T.builtins G.T.nolimit hg at_a hi (Nat.le_trans hl hn2)
  refine codeAny_mono ((hF base hKb hgb).does callerA rfl hr [] t H e0 ⟨[.ref a], []⟩ [.ref a] [.ref a] (hb t (.ref a)) (.cons rfl .nil) _ _ (hsp H a ns hl hS)) fun r t2 h => ?_
  match r, h with
  | .error e, h => exact (show False from h).elim
  | .ok (.ret u), h =>
    obtain ⟨v, H2, os, bare, un, hok2, rv, qv⟩ := h
    have qv : v = .bl true := qv
    subst qv
    have rv : u = Value.bool true := rv
    subst rv
    refine ⟨rfl, OldK.of_keep fun b o z => ?_, os, bare⟩
    rcases only b with hb | ⟨ob, ys, hb⟩
    · exact un.keep b o z hb (fun y => nomatch y) (fun y => nomatch y)
    · have z1 : t.heap.get? b = some ob := (e0.hok b _ hb).1
      have z2 : t2.heap.get? b = some ob := (hok2 b _ (un.frzs b ob _ hb)).1
      rw [z] at z1
      cases z1
      exact z2
end My

namespace My
open PySem PySem.Spec PyProof.Rows L2 Pre
/-! ### how long shown lists are -/
theorem str_app_len (a b : Str) : (a ++ b).length = a.length + b.length := by
  show (a.cps ++ b.cps).size = _
  rw [Array.size_append]
  rfl
theorem textFrom_le (c : Nat) : ∀ (ts : List Str) (k : Nat) (acc : Str), (∀ t ∈ ts, t.length ≤ c) → (textFrom k acc ts).length ≤ acc.length + ts.length * (c + 2)
  | [], _, acc, _ => by show acc.length ≤ _; simp
  | t :: ts, k, acc, h => by
    show (textFrom (k + 1) _ ts).length ≤ _
    refine Nat.le_trans (textFrom_le c ts (k + 1) _ fun u hu => h u (List.mem_cons_of_mem _ hu)) ?_
    rw [str_app_len, str_app_len, List.length_cons, Nat.succ_mul]
    have h1 := h t List.mem_cons_self
    have h2 : ((if k > 0 then ", " else "" : String) : Str).length ≤ 2 := by
      split <;> decide +kernel
    omega
theorem shownAll_mem : ∀ (ds : List PyData) (c : Nat), (∀ d ∈ ds, d.shown.length ≤ c) → ∀ t ∈ PyData.shownAll ds, t.length ≤ c
  | [], _, _, t, h => by simp [PyData.shownAll] at h
  | d :: ds, c, hd, t, h => by
    rw [PyData.shownAll] at h
    rcases List.mem_cons.mp h with rfl | h
    · exact hd d List.mem_cons_self
    · exact shownAll_mem ds c (fun e he => hd e (List.mem_cons_of_mem _ he)) t h
theorem shownAll_len : ∀ ds : List PyData, (PyData.shownAll ds).length = ds.length
  | [] => by simp [PyData.shownAll]
  | d :: ds => by rw [PyData.shownAll, List.length_cons, List.length_cons, shownAll_len ds]
theorem shown_list {ds : List PyData} {c : Nat} (h : ∀ d ∈ ds, d.shown.length ≤ c) : (PyData.shown (.list ds)).length ≤ 2 + ds.length * (c + 2) := by
  rw [PyData.shown, listText, str_app_len]
  have h1 := textFrom_le c (PyData.shownAll ds) 0 ((("[" : String) : Str)) (shownAll_mem ds c h)
  rw [shownAll_len] at h1
  have h2 : ((("[" : String) : Str)).length = 1 := by decide +kernel
  have h3 : ((("]" : String) : Str)).length = 1 := by decide +kernel
  omega
theorem shown_int {n : Int} {k : Nat} (hk : 0 < k) (h : n.natAbs < 10 ^ k) : (PyData.shown (.int n)).length ≤ k + 1 := by
  rw [PyData.shown]
  have e := int_text_length_le10 hk h
  have e2 : (Str.ofString (toString n)).length = (toString n).length := PySem.ofString_length _
  rw [e2]
  exact e
theorem show_int {n : Int} (h : n.natAbs < 10 ^ 100) : (PyData.int n).showable = true := by
  rw [PyData.showable]
  refine decide_eq_true ?_
  by_cases z : n.natAbs = 0
  · rw [z]; decide
  · rw [Nat.log2_lt z]
    exact Nat.lt_trans h (by decide +kernel)
end My

namespace My
open PySem PySem.Spec PyProof.Rows L2 Pre
theorem bS_codes (bs : List Bool) : ∀ c ∈ (bS bs).cps.toList, c < 16 ^ 8 := fun c hc => by
  unfold bS at hc
  simp only [List.toList_toArray] at hc
  obtain ⟨b, _, rfl⟩ := List.mem_map.mp hc
  cases b <;> decide
theorem bS_ok (bs : List Bool) : PyData.strOk (bS bs) = true := by
  unfold PyData.strOk
  rw [Array.all_eq_true]
  intro i hi
  have h := bS_codes bs ((bS bs).cps[i]) (by rw [Array.mem_toList_iff]; exact Array.getElem_mem hi)
  have : (16 : Nat) ^ 8 = 4294967296 := by decide
  refine decide_eq_true ?_
  have e : ∀ c ∈ (bS bs).cps.toList, c < 0x110000 := fun c hc => by
    unfold bS at hc
    simp only [List.toList_toArray] at hc
    obtain ⟨b, _, rfl⟩ := List.mem_map.mp hc
    cases b <;> decide
  exact e _ (by rw [Array.mem_toList_iff]; exact Array.getElem_mem hi)
theorem ints2_ok {m n : Nat} (hm : m < 2 ^ 60) (hn : n < 2 ^ 60) : (PyData.list [.int m, .int n]).showable = true ∧ SeqAt.shaped (.list [.int m, .int n]) = true ∧ (PyData.shown (.list [.int m, .int n])).length ≤ sizeLine := by
  refine ⟨?_, by simp [SeqAt.shaped, PyData.canLay0, PyData.canLayAll0, PyData.depth, PyData.depthAll], ?_⟩
  · rw [PyData.showable, PyData.showableAll, PyData.showableAll, PyData.showableAll, show_int (by omega), show_int (by omega)]
    rfl
  · refine Nat.le_trans (shown_list (c := 21) fun d hd => ?_) (by rw [sizeLine_eq]; simp only [List.length_cons, List.length_nil]; omega)
    simp only [List.mem_cons, List.not_mem_nil, or_false] at hd
    rcases hd with rfl | rfl
    · exact shown_int (k := 20) (by decide) (by omega)
    · exact shown_int (k := 20) (by decide) (by omega)
theorem ints3_ok {m n : Nat} {bs : List Bool} (hm : m < 2 ^ 60) (hn : n < 2 ^ 60) (hb : bs.length ≤ 100) : (PyData.list [.int m, .int n, .str (bS bs)]).showable = true ∧ SeqAt.shaped (.list [.int m, .int n, .str (bS bs)]) = true ∧ (PyData.shown (.list [.int m, .int n, .str (bS bs)])).length ≤ sizeLine := by
  refine ⟨?_, by simp [SeqAt.shaped, PyData.canLay0, PyData.canLayAll0, PyData.depth, PyData.depthAll, bS_ok], ?_⟩
  · rw [PyData.showable, PyData.showableAll, PyData.showableAll, PyData.showableAll, PyData.showableAll, show_int (by omega), show_int (by omega)]
    rfl
  · refine Nat.le_trans (shown_list (c := 1002) fun d hd => ?_) (by rw [sizeLine_eq]; simp only [List.length_cons, List.length_nil]; omega)
    simp only [List.mem_cons, List.not_mem_nil, or_false] at hd
    rcases hd with rfl | rfl | rfl
    · exact Nat.le_trans (shown_int (k := 20) (by decide) (by omega)) (by decide)
    · exact Nat.le_trans (shown_int (k := 20) (by decide) (by omega)) (by decide)
    · rw [PyData.shown]
      refine Nat.le_trans (PySem.StrLaws.reprText_len _ (bS_codes bs)) ?_
      rw [bS_len]
      omega
theorem bool_ok (b : Bool) : (PyData.bool b).showable = true ∧ SeqAt.shaped (.bool b) = true ∧ (PyData.shown (.bool b)).length ≤ sizeLine := by
  cases b <;> refine ⟨rfl, rfl, ?_⟩ <;> rw [PyData.shown, sizeLine_eq] <;> decide +kernel
/-- ways that meet again -/
theorem join2 {b : Bool} {A : Prop} {R : Hp → Prop} {H : Hp} (Pv : Hp → Prop) (cont : ∀ H', Pv H' → R H') (h1 : b = true → (∀ H', Pv H' → R H') → A) (h2 : b = false → Pv H) : if b = true then A else R H := by
  cases b with
  | true => rw [if_pos rfl]; exact h1 rfl cont
  | false => rw [if_neg (by decide)]; exact cont _ (h2 rfl)
/-- ways of an `and` that meet again behind it -/
theorem join3 {b : Bool} {A B : Prop} {R : Hp → Prop} {H : Hp} (Pv : Hp → Prop) (cont : ∀ H', Pv H' → R H') (h1 : b = true → (∀ H', Pv H' → R H') → A) (h2 : b = false → Pv H) : if b = true then A else (if false = true then B else R H) := by
  cases b with
  | true => rw [if_pos rfl]; exact h1 rfl cont
  | false => rw [if_neg (by decide), if_neg (by decide)]; exact cont _ (h2 rfl)
local macro_rules | `(tactic| walk_at "go") => `(tactic| repeat (first | (with_reducible first | refine iteT ?_ | refine iteF ?_ | refine iteNtt ?_ | refine iteNff ?_ | refine iteET (by omega) ?_ | refine iteEF (by omega) ?_ | refine iteENT (by omega) ?_ | refine iteENF (by omega) ?_ | refine iteDT (by omega) ?_ | refine iteDF (by omega) ?_ | refine iteNT (by omega) ?_ | refine iteNF (by omega) ?_) | refine ⟨_, rfl, ?_⟩ | refine ⟨_, _, rfl, rfl, ?_⟩ | refine ⟨_, _, rfl, ?_⟩ | refine ⟨rfl, ?_⟩ | refine .inl ⟨_, rfl, ?_⟩ | refine .inr ⟨_, rfl, ?_⟩))
local macro_rules | `(tactic| walk_at "b") => `(tactic| try dsimp (config := { proj := false, iota := false, eta := false, zeta := false }) only)
section
variable {P : Program} {w : World} {K : PySem.W.Frag} {mg : Str → Option Value} {base : Heap}
def sp_Check___eq__ (C : Addr) : Sp := fun vs H Q _ => ∃ (a b : Addr) (wd W : Nat) (c : Bool), vs = [.ref a, .ref b] ∧ CheckAt C H a wd W ∧
  ((∃ wd2 W2, CheckAt C H b wd2 W2 ∧ c = decide (wd = wd2 ∧ W = W2)) ∨ (c = false ∧ ∃ xs, H b = some (.tup xs))) ∧ Q (.bl c) H
theorem G_Check___eq__ (T : Top K mg) : FnOk P w K mg base CX0 1 T.f_Check___eq__ T.fd_Check___eq__ ["self", "other"] (sp_Check___eq__ T.C_Check) := by
  refine T.F_Check___eq__.ok sc_Check___eq__ (fun vs H Q E h => by obtain ⟨a, b, wd, W, c, rfl, _⟩ := h; rfl) (fun cdv A outer s H vs Q E hr h => ?_)
  obtain ⟨a, b, wd, W, c, rfl, hC, hb, q⟩ := h
  refine ⟨_, PSs.nox (pss_one (ps_ret (pe_and (pe_callB (k_isi K rfl) (by rfl) T.n_isinstance (by decide +kernel) (pa_cons (pv 1) (pa_cons (pe_glob (v := .ref T.C_Check) rfl T.gc_Check rfl) pa_nil))) (pe_and (pe_cmpR op_eq (pe_fld (pv 0) rfl) (pe_fld (pv 1) rfl) (nomark _)) (pe_one (pe_cmpR op_eq (pe_fld (pv 0) rfl) (pe_fld (pv 1) rfl) (nomark _))))))), ?_⟩
  obtain ⟨hK, hw, dx, ha⟩ := id hC
  rcases hb with ⟨wd2, W2, hC2, rfl⟩ | ⟨rfl, xs, hB⟩
  · obtain ⟨hK2, hw2, dy, hb⟩ := id hC2
    refine ⟨_, rfl, _, _, _, _, true, rfl, .own _, tyx_insC T.ic_Check hb, T.ic_Check.me, true, rfl, iteT ?_⟩
    refine ⟨_, rfl, a, T.C_Check, dx, _, _, rfl, ha, T.cl_Check, T.na_Check_size, rfl, _, rfl, b, T.C_Check, dy, _, _, rfl, hb, T.cl_Check, T.na_Check_size, rfl, rfl, ?_⟩
    rw [dec_nat]
    refine ⟨_, rfl, ?_⟩
    by_cases h : wd = wd2
    · subst h
      rw [decide_eq_true rfl]
      refine iteT ⟨_, rfl, a, T.C_Check, dx, _, _, rfl, ha, T.cl_Check, T.na_Check_tail, rfl, _, rfl, b, T.C_Check, dy, _, _, rfl, hb, T.cl_Check, T.na_Check_tail, rfl, rfl, ?_⟩
      rw [dec_nat]
      have e : decide (W - 2 ^ wd = W2 - 2 ^ wd) = decide (wd = wd ∧ W = W2) := decide_eq_decide.mpr (by
        have := hK.lo
        have := hK2.lo
        omega)
      rw [e]
      exact q
    · rw [decide_eq_false (fun z => h z.1)] at q
      rw [decide_eq_false h]
      exact iteF q
  · exact ⟨_, rfl, _, _, _, _, false, rfl, .own _, .base (.tup hB), T.ec_Check.kt, false, rfl, iteF q⟩
def sp_Check_bits (C : Addr) : Sp := fun vs H Q _ => ∃ (a : Addr) (wd W : Nat), vs = [.ref a] ∧ CheckAt C H a wd W ∧ ∀ H', Same H H' → Q (.str (bS (bitsB W (wd + 1)))) H'
theorem G_Check_bits (T : Top K mg) : FnOk P w K mg base CX0 2 T.f_Check_bits T.fd_Check_bits ["self"] (sp_Check_bits T.C_Check) := by
  refine T.F_Check_bits.ok sc_Check_bits (fun vs H Q E h => by obtain ⟨a, wd, W, rfl, _⟩ := h; rfl) (fun cdv A outer s H vs Q E hr h => ?_)
  obtain ⟨a, wd, W, rfl, hC, q⟩ := h
  refine ⟨_, PSs.nox (pss_one (ps_ret (pe_call (G_bits_of T) (hr.mono (by decide)) (by rfl) T.g_bits_of T.F_bits_of.kp T.b_bits_of .nil pass0 (pa_cons (pe_call (G_sum_of T) (hr.mono (by decide)) (by rfl) T.g_sum_of T.F_sum_of.kp T.b_sum_of .nil pass0 (pa_cons (pv 0) pa_nil)) (pa_cons (pe_op op_add (pe_fld (pv 0) rfl) pe_int) pa_nil))))), ?_⟩
  obtain ⟨hK, hw, dx, ha⟩ := id hC
  refine ⟨_, rfl, a, wd, W, rfl, hC, _, rfl, a, T.C_Check, dx, _, _, rfl, ha, T.cl_Check, T.na_Check_size, rfl, _, _, rfl, rfl, W, wd + 1, rfl, by omega, fun H1 s1 => q _ s1⟩
end
end My

namespace My
open PySem PySem.Spec PyProof.Rows L2 Pre
theorem bl_top {n : Nat} (h : n ≠ 0) : ∃ i, Builtin.Int.intBits (n : Int) = i + 1 ∧ 2 ^ i ≤ n ∧ n < 2 ^ (i + 1) := by
  obtain ⟨i, h1, h2⟩ := top_ex h
  have a := bl_iff.mpr h2
  have b : ¬ Builtin.Int.intBits (n : Int) ≤ i := fun z => by
    have := bl_iff.mp z
    omega
  exact ⟨i, by omega, h1, h2⟩
local macro_rules | `(tactic| walk_at "go") => `(tactic| repeat (first | (with_reducible first | refine iteT ?_ | refine iteF ?_ | refine iteNtt ?_ | refine iteNff ?_ | refine iteET (by omega) ?_ | refine iteEF (by omega) ?_ | refine iteENT (by omega) ?_ | refine iteENF (by omega) ?_ | refine iteDT (by omega) ?_ | refine iteDF (by omega) ?_ | refine iteNT (by omega) ?_ | refine iteNF (by omega) ?_) | refine ⟨_, rfl, ?_⟩ | refine ⟨_, _, rfl, rfl, ?_⟩ | refine ⟨_, _, rfl, ?_⟩ | refine ⟨rfl, ?_⟩ | refine .inl ⟨_, rfl, ?_⟩ | refine .inr ⟨_, rfl, ?_⟩))
local macro_rules | `(tactic| walk_at "b") => `(tactic| try dsimp (config := { proj := false, iota := false, eta := false, zeta := false }) only)
section
variable {P : Program} {w : World} {K : PySem.W.Frag} {mg : Str → Option Value} {base : Heap}
def sp_sum_product (K : PySem.W.Frag) : Sp := fun vs H Q _ => ∃ (a b : Nat), vs = [.int a, .int b] ∧ a < 2 ^ 40 ∧ b < 2 ^ 40 ∧ ∀ H', Same H H' → Q (.int (prod a b)) H'
theorem G_sum_product (T : Top K mg) : FnOk P w K mg base CX0 2 T.f_sum_product T.fd_sum_product ["one", "other"] (sp_sum_product K) := by
  refine T.F_sum_product.ok sc_sum_product (fun vs H Q E h => by obtain ⟨a, b, rfl, _⟩ := h; rfl) (fun cdv A outer s H vs Q E hr h => ?_)
  obtain ⟨a, b, rfl, ha, hb, q⟩ := h
  refine ⟨_, PSs.nox (pss_cons (ps_set (i := 2) sc_sum_product.nd rfl (by first | exact Or.inl rfl | exact Or.inr rfl) pe_int)
  (pss_cons (ps_for PassesOwn.never rfl (k_piL K rfl (pe_call (G_ones_in T) (hr.mono (by decide)) (by rfl) T.g_ones_in T.F_ones_in.kp T.b_ones_in .nil pass0 (pa_cons (pv 1) pa_nil))) (pg_name (i := 3) sc_sum_product.nd rfl (by first | exact Or.inl rfl | exact Or.inr rfl))
    (pss_one (ps_set (i := 2) sc_sum_product.nd rfl (by first | exact Or.inl rfl | exact Or.inr rfl) (pe_op op_xor (pv 2) (pe_op op_shl (pv 0) (pv 3))))))
  (pss_one (ps_ret (pv 2))))), ?_⟩
  have hb1 : b < 2 ^ 1000 := Nat.lt_of_lt_of_le hb (Nat.pow_le_pow_right (by decide) (by decide))
  have hs : b < 2 ^ Builtin.Int.intBits (b : Int) := bl_iff.mp (Nat.le_refl _)
  obtain ⟨k, ek⟩ : ∃ k, Builtin.Int.intBits (b : Int) = k := ⟨_, rfl⟩
  have hk : k ≤ 40 := by rw [← ek]; exact bl_iff.mpr hb
  rw [ek] at hs
  refine ⟨_, rfl, b, rfl, hb1, fun H1 p s1 np h1 => ?_⟩
  rw [ek] at h1
  walk_at "b"
  refine ⟨p, rfl, ⟨_, .inl (.inl h1)⟩, for_list (K := K) (a := p) (xs := (natI (onesN b k)).map V.int) (fun j σ H2 => ∃ v3, σ = [some (.int a), some (.int b), some (.int (prodL a ((onesN b k).take j))), v3] ∧ Same H1 H2) ⟨_, rfl, Same.refl _⟩ (fun j σ H2 _ ⟨_, _, s⟩ => .inl (.inl (s _ _ h1))) ?_ ?_⟩
  · rintro j x σ H2 hx ⟨v3, rfl, s2⟩
    obtain ⟨t, ht, rfl⟩ := nat_at hx
    have htk := ones_mem.mp (List.mem_of_getElem? ht)
    refine ⟨_, rfl, _, rfl, _, rfl, _, _, rfl, rfl, ⟨by omega, by omega, by omega⟩, _, _, rfl, rfl, ?_⟩
    have e1 : (a : Int) * 2 ^ ((t : Int)).toNat = ((a * 2 ^ t : Nat) : Int) := by
      rw [Int.toNat_natCast, Int.natCast_mul, Int.natCast_pow]
      rfl
    have e2 : prodL a ((onesN b k).take (j + 1)) = prodL a ((onesN b k).take j) ^^^ a * 2 ^ t := by
      rw [List.take_add_one, ht]
      exact prodL_snoc a _ t
    walk_at "b"
    rw [e1, bx, ← e2]
    exact ⟨_, rfl, s2⟩
  · rintro σ H2 ⟨v3, rfl, s2⟩
    have e : prodL a ((onesN b k).take ((natI (onesN b k)).map V.int).length) = prod a b := by
      rw [nat_len, List.take_length, prodL_ones, Nat.mod_eq_of_lt hs]
    rw [e]
    exact ⟨_, rfl, q _ (s1.trans s2)⟩
def sp_sum_divided : Sp := fun vs H Q _ => ∃ (a b : Nat), vs = [.int a, .int b] ∧ b ≠ 0 ∧ a < 2 ^ 40 ∧ b < 2 ^ 40 ∧ ∀ (f r : Nat) H' t, Same H H' → H t = none → Parts a b f r → H' t = some (.tup [.int f, .int r]) → Q (.ref t) H'
theorem G_sum_divided (T : Top K mg) : FnOk P w K mg base CX0 1 T.f_sum_divided T.fd_sum_divided ["one", "other"] sp_sum_divided := by
  refine T.F_sum_divided.ok sc_sum_divided (fun vs H Q E h => by obtain ⟨a, b, rfl, _⟩ := h; rfl) (fun cdv A outer s H vs Q E hr h => ?_)
  obtain ⟨a, b, rfl, hb0, ha, hb, q⟩ := h
  refine ⟨_, PSs.nox (pss_cons (ps_par (by rfl) sc_sum_divided.nd (i := 2) (j := 3) rfl rfl (by decide) rfl rfl (pa_cons pe_int (pa_cons (pv 0) pa_nil)) (by rfl))
  (pss_cons (ps_while PassesOwn.never (pt_cmpR op_ge (pe_bits (pv 3)) (pe_bits (pv 1)) (nomark _))
    (pss_cons (ps_set (i := 4) sc_sum_divided.nd rfl (by first | exact Or.inl rfl | exact Or.inr rfl) (pe_op op_sub (pe_bits (pv 3)) (pe_bits (pv 1))))
  (pss_one (ps_par (by rfl) sc_sum_divided.nd (i := 2) (j := 3) rfl rfl (by decide) rfl rfl (pa_cons (pe_op op_xor (pv 2) (pe_op op_shl pe_int (pv 4))) (pa_cons (pe_op op_xor (pv 3) (pe_op op_shl (pv 1) (pv 4))) pa_nil)) (by rfl)))))
  (pss_one (ps_ret (pe_tup (pa_cons (pv 2) (pa_cons (pv 3) pa_nil))))))), ?_⟩
  obtain ⟨B, eB, b1, b2⟩ := bl_top hb0
  refine ⟨_, rfl, _, _, rfl, ?_⟩
  refine ⟨fun m σ H1 => ∃ (f l : Nat) (v4 : Option V), σ = [some (.int a), some (.int b), some (.int f), some (.int l), v4] ∧ H1 = H ∧ m = l ∧ l < 2 ^ 40 ∧ a = prod b f ^^^ l, ⟨a, 0, a, none, rfl, rfl, rfl, ha, by rw [prod_zero, Nat.zero_xor]⟩, ?_⟩
  rintro m σ H1 ⟨f, l, v4, rfl, rfl, hm, hl, he⟩
  refine ⟨_, rfl, _, rfl, _, rfl, _, rfl, _, _, rfl, rfl, _, rfl, ite2 (fun c => ?_) (fun c => ?_)⟩
  · have c1 : B + 1 ≤ Builtin.Int.intBits (l : Int) := by
      have := of_decide_eq_true c
      rw [eB] at this
      omega
    have l0 : l ≠ 0 := fun z => by
      rw [z] at c1
      have : Builtin.Int.intBits ((0 : Nat) : Int) ≤ 0 := bl_iff.mpr (by decide)
      omega
    obtain ⟨L, eL, k1, k2⟩ := bl_top l0
    have hL : L ≤ 40 := by have : Builtin.Int.intBits (l : Int) ≤ 40 := bl_iff.mpr hl; omega
    have t1 := parts_turn b1 b2 k1 k2 (show B ≤ L by omega)
    have t2 := parts_step (p := L - B) he
    have lt : l ^^^ b * 2 ^ (L - B) < l := by omega
    refine ⟨fun σ' H' => ∃ (f' l' : Nat) (v4 : Option V), σ' = [some (.int a), some (.int b), some (.int f'), some (.int l'), v4] ∧ H' = H1 ∧ l' < l ∧ l' < 2 ^ 40 ∧ a = prod b f' ^^^ l', fun σ' H' ⟨f', l', v4, e1, e2, e3, e4, e5⟩ => ⟨l', by omega, f', l', v4, e1, e2, rfl, e4, e5⟩, ?_⟩
    have ek : ((Builtin.Int.intBits (l : Int) : Nat) : Int) - ((Builtin.Int.intBits (b : Int) : Nat) : Int) = ((L - B : Nat) : Int) := by
      rw [eB, eL]
      omega
    refine ⟨_, rfl, _, rfl, _, rfl, _, rfl, _, _, rfl, rfl, ?_⟩
    walk_at "b"
    rw [ek]
    refine ⟨_, rfl, _, rfl, _, _, rfl, rfl, ⟨by omega, by omega, by omega⟩, _, _, rfl, rfl, _, rfl, _, rfl, _, rfl, _, _, rfl, rfl, ⟨by omega, by omega, by omega⟩, _, _, rfl, rfl, _, _, rfl, ?_⟩
    have x1 : (1 : Int) * 2 ^ (((L - B : Nat) : Int)).toNat = ((2 ^ (L - B) : Nat) : Int) := by
      rw [Int.one_mul, Int.toNat_natCast, Int.natCast_pow]
      rfl
    have x2 : (b : Int) * 2 ^ (((L - B : Nat) : Int)).toNat = ((b * 2 ^ (L - B) : Nat) : Int) := by
      rw [Int.toNat_natCast, Int.natCast_mul, Int.natCast_pow]
      rfl
    walk_at "b"
    rw [x1, x2, bx, bx]
    exact ⟨_, _, _, rfl, rfl, lt, by omega, t2⟩
  · have c1 : Builtin.Int.intBits (l : Int) ≤ B := by
      have : ¬ ((Builtin.Int.intBits (l : Int) : Nat) : Int) ≥ ((Builtin.Int.intBits (b : Int) : Nat) : Int) := fun z => c (decide_eq_true z)
      rw [eB] at this
      omega
    have hP := parts_end he b1 (bl_iff.mp c1)
    refine ⟨_, rfl, _, rfl, (show 2 ≤ sizeLine by decide), fun t nt => ?_⟩
    obtain ⟨H2, e2, s2, h2⟩ := fresh (.tup [V.int f, V.int l]) nt
    rw [e2]
    exact q f l H2 t s2 nt hP h2
end
end My

namespace My
open PySem PySem.Spec PyProof.Rows L2 Pre
local macro_rules | `(tactic| walk_at "go") => `(tactic| repeat (first | (with_reducible first | refine iteT ?_ | refine iteF ?_ | refine iteNtt ?_ | refine iteNff ?_ | refine iteET (by omega) ?_ | refine iteEF (by omega) ?_ | refine iteENT (by omega) ?_ | refine iteENF (by omega) ?_ | refine iteDT (by omega) ?_ | refine iteDF (by omega) ?_ | refine iteNT (by omega) ?_ | refine iteNF (by omega) ?_) | refine ⟨_, rfl, ?_⟩ | refine ⟨_, _, rfl, rfl, ?_⟩ | refine ⟨_, _, rfl, ?_⟩ | refine ⟨rfl, ?_⟩ | refine .inl ⟨_, rfl, ?_⟩ | refine .inr ⟨_, rfl, ?_⟩))
local macro_rules | `(tactic| walk_at "b") => `(tactic| try dsimp (config := { proj := false, iota := false, eta := false, zeta := false }) only)
section
variable {P : Program} {w : World} {K : PySem.W.Frag} {mg : Str → Option Value} {base : Heap}
def sp_sum_common : Sp := fun vs H Q _ => ∃ (a b : Nat), vs = [.int a, .int b] ∧ a < 2 ^ 40 ∧ b < 2 ^ 40 ∧ ∀ (g : Nat) H', Same H H' → Gcd a b g → g < 2 ^ 40 → Q (.int g) H'
theorem G_sum_common (T : Top K mg) : FnOk P w K mg base CX0 2 T.f_sum_common T.fd_sum_common ["one", "other"] sp_sum_common := by
  refine T.F_sum_common.ok sc_sum_common (fun vs H Q E h => by obtain ⟨a, b, rfl, _⟩ := h; rfl) (fun cdv A outer s H vs Q E hr h => ?_)
  obtain ⟨a, b, rfl, ha, hb, q⟩ := h
  refine ⟨_, PSs.nox (pss_cons (ps_while PassesOwn.never (pt_cmpR op_ne (pv 1) pe_int (nomark _))
    (pss_one (ps_par (by rfl) sc_sum_common.nd (i := 0) (j := 1) rfl rfl (by decide) rfl rfl (pa_cons (pv 1) (pa_cons (pe_ix (k_ixT K rfl) (pe_call (G_sum_divided T) (hr.mono (by decide)) (by rfl) T.g_sum_divided T.F_sum_divided.kp T.b_sum_divided .nil pass0 (pa_cons (pv 0) (pa_cons (pv 1) pa_nil))) pe_int (fun _ _ => rfl)) pa_nil)) (by rfl))))
  (pss_one (ps_ret (pv 0)))), ?_⟩
  refine ⟨fun m σ H1 => ∃ (x y : Nat), σ = [some (.int x), some (.int y)] ∧ Same H H1 ∧ m = y ∧ x < 2 ^ 40 ∧ y < 2 ^ 40 ∧ ∀ g, Gcd x y g → Gcd a b g, ⟨b, a, b, rfl, Same.refl _, rfl, ha, hb, fun g h => h⟩, ?_⟩
  rintro m σ H1 ⟨x, y, rfl, s1, hm, hx, hy, hg⟩
  by_cases c : y = 0
  · refine ⟨_, rfl, rfl, _, rfl, iteENF (by rw [c]; rfl) ?_⟩
    subst c
    exact ⟨_, rfl, q x H1 s1 (hg x (gcd_zero x)) hx⟩
  · refine ⟨_, rfl, rfl, _, rfl, iteENT (fun z => c (by omega)) ?_⟩
    refine ⟨fun σ' H' => ∃ (x' y' : Nat), σ' = [some (.int x'), some (.int y')] ∧ Same H H' ∧ y' < y ∧ x' < 2 ^ 40 ∧ y' < 2 ^ 40 ∧ ∀ g, Gcd x' y' g → Gcd a b g, fun σ' H' ⟨x', y', e1, e2, e3, e4, e5, e6⟩ => ⟨y', by omega, x', y', e1, e2, rfl, e4, e5, e6⟩, ?_⟩
    refine ⟨_, rfl, _, rfl, _, rfl, x, y, rfl, c, hx, hy, fun f r H2 t s2 nt hP ht => ?_⟩
    obtain ⟨i, i1, i2⟩ := top_ex c
    have hr := hP.lt i i2
    exact ⟨t, _, _, .int (r : Int), rfl, rfl, by first | exact .inl ht | exact .inl (.inl ht), rfl, _, _, rfl, y, r, rfl, s1.trans s2, by omega, hy, by omega, fun g h => hg g (gcd_step hP h)⟩
end
end My

namespace My
open PySem PySem.Spec PyProof.Rows L2 Pre
local macro_rules | `(tactic| walk_at "go") => `(tactic| repeat (first | (with_reducible first | refine iteT ?_ | refine iteF ?_ | refine iteNtt ?_ | refine iteNff ?_ | refine iteET (by omega) ?_ | refine iteEF (by omega) ?_ | refine iteENT (by omega) ?_ | refine iteENF (by omega) ?_ | refine iteDT (by omega) ?_ | refine iteDF (by omega) ?_ | refine iteNT (by omega) ?_ | refine iteNF (by omega) ?_) | refine ⟨_, rfl, ?_⟩ | refine ⟨_, _, rfl, rfl, ?_⟩ | refine ⟨_, _, rfl, ?_⟩ | refine ⟨rfl, ?_⟩ | refine .inl ⟨_, rfl, ?_⟩ | refine .inr ⟨_, rfl, ?_⟩))
local macro_rules | `(tactic| walk_at "b") => `(tactic| try dsimp (config := { proj := false, iota := false, eta := false, zeta := false }) only)
section
variable {P : Program} {w : World} {K : PySem.W.Frag} {mg : Str → Option Value} {base : Heap}
theorem pow40 {n k : Nat} (h : n < 2 ^ k) (l : k ≤ 40) : n < 2 ^ 40 := Nat.lt_of_lt_of_le h (Nat.pow_le_pow_right (by decide) l)
def sp_sum_inverse (K : PySem.W.Frag) : Sp := fun vs H Q _ => ∃ (a b D : Nat), vs = [.int a, .int b] ∧ a < 2 ^ 20 ∧ 2 ^ D ≤ b ∧ b < 2 ^ (D + 1) ∧ D ≤ 18 ∧ ∀ (p g : Nat) H', Same H H' → Gcd a b g → Dv b (g ^^^ prod a p) → p < 2 ^ (D + 1) → Q (.int p) H'
theorem G_sum_inverse (T : Top K mg) : FnOk P w K mg base CX0 3 T.f_sum_inverse T.fd_sum_inverse ["one", "by"] (sp_sum_inverse K) := by
  refine T.F_sum_inverse.ok sc_sum_inverse (fun vs H Q E h => by obtain ⟨a, b, D, rfl, _⟩ := h; rfl) (fun cdv A outer s H vs Q E hr h => ?_)
  obtain ⟨a, b, D, rfl, ha, b1, b2, hD, q⟩ := h
  refine ⟨_, PSs.nox (pss_cons (ps_asg (pe_tup (pa_cons (pe_tup (pa_cons (pv 1) (pa_cons pe_int pa_nil))) (pa_cons (pe_tup (pa_cons (pe_ix (k_ixT K rfl) (pe_call (G_sum_divided T) (hr.mono (by decide)) (by rfl) T.g_sum_divided T.F_sum_divided.kp T.b_sum_divided .nil pass0 (pa_cons (pv 0) (pa_cons (pv 1) pa_nil))) pe_int (fun _ _ => rfl)) (pa_cons pe_int pa_nil))) pa_nil))) (k_pgT K rfl (by rfl) (pgs_cons (k_pgT K rfl (by rfl) (pgs_cons (pg_name (i := 2) sc_sum_inverse.nd rfl (by first | exact Or.inl rfl | exact Or.inr rfl)) (pgs_cons (pg_name (i := 3) sc_sum_inverse.nd rfl (by first | exact Or.inl rfl | exact Or.inr rfl)) pgs_nil))) (pgs_cons (k_pgT K rfl (by rfl) (pgs_cons (pg_name (i := 4) sc_sum_inverse.nd rfl (by first | exact Or.inl rfl | exact Or.inr rfl)) (pgs_cons (pg_name (i := 5) sc_sum_inverse.nd rfl (by first | exact Or.inl rfl | exact Or.inr rfl)) pgs_nil))) pgs_nil))))
  (pss_cons (ps_while PassesOwn.never (pt_cmpR op_ne (pv 4) pe_int (nomark _))
    (pss_cons (ps_asg (pe_call (G_sum_divided T) (hr.mono (by decide)) (by rfl) T.g_sum_divided T.F_sum_divided.kp T.b_sum_divided .nil pass0 (pa_cons (pv 2) (pa_cons (pv 4) pa_nil))) (k_pgT K rfl (by rfl) (pgs_cons (pg_name (i := 6) sc_sum_inverse.nd rfl (by first | exact Or.inl rfl | exact Or.inr rfl)) (pgs_cons (pg_name (i := 7) sc_sum_inverse.nd rfl (by first | exact Or.inl rfl | exact Or.inr rfl)) pgs_nil))))
  (pss_one (ps_asg (pe_tup (pa_cons (pe_tup (pa_cons (pv 4) (pa_cons (pv 5) pa_nil))) (pa_cons (pe_tup (pa_cons (pv 7) (pa_cons (pe_op op_xor (pv 3) (pe_call (G_sum_product T) (hr.mono (by decide)) (by rfl) T.g_sum_product T.F_sum_product.kp T.b_sum_product .nil pass0 (pa_cons (pv 6) (pa_cons (pv 5) pa_nil)))) pa_nil))) pa_nil))) (k_pgT K rfl (by rfl) (pgs_cons (k_pgT K rfl (by rfl) (pgs_cons (pg_name (i := 2) sc_sum_inverse.nd rfl (by first | exact Or.inl rfl | exact Or.inr rfl)) (pgs_cons (pg_name (i := 3) sc_sum_inverse.nd rfl (by first | exact Or.inl rfl | exact Or.inr rfl)) pgs_nil))) (pgs_cons (k_pgT K rfl (by rfl) (pgs_cons (pg_name (i := 4) sc_sum_inverse.nd rfl (by first | exact Or.inl rfl | exact Or.inr rfl)) (pgs_cons (pg_name (i := 5) sc_sum_inverse.nd rfl (by first | exact Or.inl rfl | exact Or.inr rfl)) pgs_nil))) pgs_nil)))))))
  (pss_one (ps_ret (pv 3))))), ?_⟩
  have hb0 : b ≠ 0 := by have := Nat.two_pow_pos D; omega
  refine ⟨_, rfl, (show 2 ≤ sizeLine by decide), fun t1 n1 => ?_⟩
  obtain ⟨H1, e1, s1, h1⟩ := fresh (.tup [V.int b, V.int 0]) n1
  rw [e1]
  refine ⟨_, rfl, _, rfl, a, b, rfl, hb0, pow40 ha (by decide), pow40 b2 (by omega), fun f r H2 t s2 nt hP ht => ?_⟩
  refine ⟨t, _, _, .int (r : Int), rfl, rfl, .inl (.inl ht), rfl, (show 2 ≤ sizeLine by decide), fun t2 n2 => ?_⟩
  obtain ⟨H3, e3, s3, h3⟩ := fresh (.tup [V.int r, V.int 1]) n2
  rw [e3]
  refine ⟨(show 2 ≤ sizeLine by decide), fun t3 n3 => ?_⟩
  obtain ⟨H4, e4, s4, h4⟩ := fresh (.tup [V.ref t1, V.ref t2]) n3
  rw [e4]
  refine ⟨t3, _, rfl, .inl (.inl h4), rfl, _, _, rfl, t1, _, rfl, .inl (.inl (s4 _ _ (s3 _ _ (s2 _ _ h1)))), rfl, _, _, rfl, _, _, rfl, rfl, _, _, rfl, t2, _, rfl, .inl (.inl (s4 _ _ h3)), rfl, _, _, rfl, _, _, rfl, rfl, rfl, ?_⟩
  refine ⟨fun m σ H1 => ∃ (left part right more i : Nat) (v6 v7 : Option V), σ = [some (.int a), some (.int b), some (.int left), some (.int part), some (.int right), some (.int more), v6, v7] ∧ Same H H1 ∧ m = right ∧ InvSt a b D left part right more i ∧ ∀ g, Gcd left right g → Gcd a b g, ⟨r, b, 0, r, 1, D, none, none, rfl, s1.trans (s2.trans (s3.trans s4)), rfl, InvSt.first b1 b2 hP, fun g h => gcd_step hP h⟩, ?_⟩
  rintro m σ H5 ⟨left, part, right, more, i, v6, v7, rfl, s5, hm, hS, hg⟩
  by_cases c : right = 0
  · refine ⟨_, rfl, rfl, _, rfl, iteENF (by rw [c]; rfl) ?_⟩
    subst c
    exact ⟨_, rfl, q part left H5 s5 (hg left (gcd_zero left)) hS.dl (Nat.lt_of_lt_of_le hS.p (Nat.pow_le_pow_right (by decide) (by omega)))⟩
  · refine ⟨_, rfl, rfl, _, rfl, iteENT (fun z => c (by omega)) ?_⟩
    have iD := hS.iD
    have hl : left < 2 ^ 40 := pow40 hS.l2 (by omega)
    have hr : right < 2 ^ 40 := pow40 hS.r (by omega)
    refine ⟨fun σ' H' => ∃ (left' part' right' more' i' : Nat) (v6 v7 : Option V), σ' = [some (.int a), some (.int b), some (.int left'), some (.int part'), some (.int right'), some (.int more'), v6, v7] ∧ Same H H' ∧ right' < right ∧ InvSt a b D left' part' right' more' i' ∧ ∀ g, Gcd left' right' g → Gcd a b g, fun σ' H' ⟨left', part', right', more', i', v6, v7, e1, e2, e3, e4, e5⟩ => ⟨right', by omega, left', part', right', more', i', v6, v7, e1, e2, rfl, e4, e5⟩, ?_⟩
    refine ⟨_, rfl, _, rfl, left, right, rfl, c, hl, hr, fun f2 r2 H6 t6 s6 nt6 hP6 ht6 => ?_⟩
    refine ⟨t6, _, rfl, .inl (.inl ht6), rfl, _, _, rfl, _, _, rfl, rfl, ?_⟩
    obtain ⟨k, ki, hN⟩ := hS.next c hP6
    have hlt : r2 < right := by
      have := hN.r
      have := hN.l1
      omega
    have hf : f2 < 2 ^ 40 := by
      obtain ⟨k', k1, k2⟩ := top_ex c
      have ki' : k' < i := (Nat.pow_lt_pow_iff_right (by decide)).mp (Nat.lt_of_le_of_lt k1 hS.r)
      exact pow40 (parts_size hP6 hS.l2 k1 k2 (by omega)) (by omega)
    have hmo : more < 2 ^ 40 := pow40 hS.m (by omega)
    refine ⟨_, rfl, _, rfl, (show 2 ≤ sizeLine by decide), fun t7 n7 => ?_⟩
    obtain ⟨H7, e7, s7, h7⟩ := fresh (.tup [V.int right, V.int more]) n7
    rw [e7]
    refine ⟨_, rfl, _, rfl, _, rfl, _, rfl, f2, more, rfl, hf, hmo, fun H8 s8 => ?_⟩
    refine ⟨_, _, rfl, rfl, (show 2 ≤ sizeLine by decide), fun t9 n9 => ?_⟩
    walk_at "b"
    rw [bx] at *
    obtain ⟨H9, e9, s9, h9⟩ := fresh (.tup [V.int r2, V.int ((part ^^^ prod f2 more : Nat) : Int)]) n9
    rw [e9]
    refine ⟨(show 2 ≤ sizeLine by decide), fun t10 n10 => ?_⟩
    obtain ⟨H10, e10, s10, h10⟩ := fresh (.tup [V.ref t7, V.ref t9]) n10
    rw [e10]
    refine ⟨t10, _, rfl, .inl (.inl h10), rfl, _, _, rfl, t7, _, rfl, .inl (.inl (s10 _ _ (s9 _ _ (s8 _ _ h7)))), rfl, _, _, rfl, _, _, rfl, rfl, _, _, rfl, t9, _, rfl, .inl (.inl (s10 _ _ h9)), rfl, _, _, rfl, _, _, rfl, rfl, rfl, ?_⟩
    exact ⟨right, more, r2, _, k, _, _, rfl, s5.trans (s6.trans (s7.trans (s8.trans (s9.trans s10)))), hlt, hN, fun g h => hg g (gcd_step hP6 h)⟩
end
end My

namespace My
open PySem PySem.Spec PyProof.Rows L2 Pre
theorem ck_17 {w W : Nat} (h : Ck w W) (hw : w ≤ 16) : W < 2 ^ 17 ∧ W ≠ 0 := by
  have h1 := h.hi
  have h2 := h.lo
  have : 2 ^ (w + 1) ≤ 2 ^ 17 := Nat.pow_le_pow_right (by decide) (by omega)
  omega
theorem xor_odd (x y : Nat) : (2 * x ^^^ y) % 2 = y % 2 := by
  have h := xor_bit x (y / 2) 0 (y % 2) (by omega) (by omega)
  rw [Nat.add_zero, Nat.zero_xor, show 2 * (y / 2) + y % 2 = y by omega] at h
  omega
theorem prod_oddl {a b : Nat} (h : prod a b % 2 = 1) : b % 2 = 1 ∧ a % 2 = 1 := by
  rw [prod_step, xor_odd] at h
  split at h
  · rename_i c
    exact ⟨c, h⟩
  · omega
theorem prod_odd {a b : Nat} (ha : a % 2 = 1) (hb : b % 2 = 1) : prod a b % 2 = 1 := by
  rw [prod_step, xor_odd, if_pos hb, ha]
theorem quo_lt {g q n k : Nat} (hg : g ≠ 0) (e : n = prod g q) (h : n < 2 ^ k) : q < 2 ^ k := by
  by_cases z : q = 0
  · rw [z]; exact Nat.two_pow_pos _
  · have : n ≠ 0 := by rw [e]; exact prod_ne hg z
    exact Dv.le (a := q) this ⟨g, by rw [e, prod_comm]⟩ k h
theorem parts_zero {a b q r : Nat} (hb : b ≠ 0) (h : Parts a b q r) (k : Dv b a) : r = 0 ∧ a = prod b q := by
  have := dv_parts hb h k
  subst this
  exact ⟨rfl, by rw [h.eq, Nat.xor_zero]⟩
theorem new_same {H H2 : Hp} {x dx : Addr} {o o2 : HO} (n1 : H x = none) (n2 : H dx = none) (kp : ∀ b u, b ≠ x → upd (upd H dx o) x o2 b = some u → H2 b = some u) : Same H H2 := fun b u e => kp b u (ne_of_none e n1) (by
    rw [upd_ne (ne_of_none e n1), upd_ne (ne_of_none e n2)]
    exact e)
local macro_rules | `(tactic| walk_at "go") => `(tactic| repeat (first | (with_reducible first | refine iteT ?_ | refine iteF ?_ | refine iteNtt ?_ | refine iteNff ?_ | refine iteET (by omega) ?_ | refine iteEF (by omega) ?_ | refine iteENT (by omega) ?_ | refine iteENF (by omega) ?_ | refine iteDT (by omega) ?_ | refine iteDF (by omega) ?_ | refine iteNT (by omega) ?_ | refine iteNF (by omega) ?_) | refine ⟨_, rfl, ?_⟩ | refine ⟨_, _, rfl, rfl, ?_⟩ | refine ⟨_, _, rfl, ?_⟩ | refine ⟨rfl, ?_⟩ | refine .inl ⟨_, rfl, ?_⟩ | refine .inr ⟨_, rfl, ?_⟩))
local macro_rules | `(tactic| walk_at "b") => `(tactic| try dsimp (config := { proj := false, iota := false, eta := false, zeta := false }) only)
section
variable {P : Program} {w : World} {K : PySem.W.Frag} {mg : Str → Option Value} {base : Heap}
def sp_check_two (C : Addr) : Sp := fun vs H Q _ => ∃ (a b : Addr) (wa A wb B : Nat), vs = [.ref a, .ref b] ∧ CheckAt C H a wa A ∧ CheckAt C H b wb B ∧ Q .non H
theorem G_check_two (T : Top K mg) : FnOk P w K mg base CX0 2 T.f_check_two T.fd_check_two ["one", "other"] (sp_check_two T.C_Check) := by
  refine T.F_check_two.ok sc_check_two (fun vs H Q E h => by obtain ⟨a, b, wa, A, wb, B, rfl, _⟩ := h; rfl) (fun cdv A outer s H vs Q E hr h => ?_)
  obtain ⟨a, b, wa, A, wb, B, rfl, hA, hB, q⟩ := h
  refine ⟨_, PSs.nox (pss_cons (ps_expr (pe_call (G_check_check T) (hr.mono (by decide)) (by rfl) T.g_check_check T.F_check_check.kp T.b_check_check .nil pass0 (pa_cons (pv 0) pa_nil)))
  (pss_one (ps_expr (pe_call (G_check_check T) (hr.mono (by decide)) (by rfl) T.g_check_check T.F_check_check.kp T.b_check_check .nil pass0 (pa_cons (pv 1) pa_nil))))), ?_⟩
  exact ⟨_, rfl, a, wa, A, rfl, hA, _, rfl, b, wb, B, rfl, hB, q⟩
def sp_check_by (C : Addr) : Sp := fun vs H Q _ => ∃ (n i : Nat), vs = [.int n] ∧ 2 ^ i ≤ n ∧ n < 2 ^ (i + 1) ∧ 1 ≤ i ∧ i ≤ 16 ∧ n % 2 = 1 ∧ ∀ x H', Same H H' → H x = none → CheckAt C H' x i n → Q (.ref x) H'
theorem by_bits {n i : Nat} (h1 : 2 ^ i ≤ n) (h2 : n < 2 ^ (i + 1)) : ((Builtin.Int.intBits (n : Int) : Nat) : Int) - 1 = (i : Int) := by
  have a := bl_iff.mpr h2
  have b : ¬ Builtin.Int.intBits (n : Int) ≤ i := fun z => by
    have := bl_iff.mp z
    omega
  omega
theorem by_low {n i : Nat} (h1 : 2 ^ i ≤ n) : (n : Int) - 1 * 2 ^ ((i : Int)).toNat = ((n - 2 ^ i : Nat) : Int) := by
  rw [Int.one_mul, Int.toNat_natCast]
  have : ((2 ^ i : Nat) : Int) = 2 ^ i := by rw [Int.natCast_pow]; rfl
  omega
theorem G_check_by (T : Top K mg) : FnOk P w K mg base CX0 6 T.f_check_by T.fd_check_by ["number"] (sp_check_by T.C_Check) := by
  refine T.F_check_by.ok sc_check_by (fun vs H Q E h => by obtain ⟨n, i, rfl, _⟩ := h; rfl) (fun cdv A outer s H vs Q E hr h => ?_)
  obtain ⟨n, i, rfl, h1, h2, i1, i2, ho, q⟩ := h
  refine ⟨_, PSs.nox (pss_cons (ps_set (i := 1) sc_check_by.nd rfl (by first | exact Or.inl rfl | exact Or.inr rfl) (pe_op op_sub (pe_bits (pv 0)) pe_int))
  (pss_one (ps_ret (pe_make T.mk_Check (G_Check___init__ T) (hr.mono (by decide)) (by rfl) T.gc_Check T.b_Check___init__ .nil pass0 (pa_cons (pv 1) (pa_cons (pe_op op_sub (pv 0) (pe_op op_shl pe_int (pv 1))) pa_nil)))))), ?_⟩
  have ep : 2 ^ (i + 1) = 2 ^ i * 2 := Nat.pow_succ ..
  have e2 : 2 ^ i = 2 ^ (i - 1) * 2 := by rw [← Nat.pow_succ, show (i - 1).succ = i by omega]
  refine ⟨_, rfl, _, rfl, _, _, rfl, rfl, ?_⟩
  walk_at "b"
  rw [by_bits h1 h2]
  refine ⟨_, rfl, _, rfl, _, rfl, _, _, rfl, rfl, ⟨by omega, by omega, by decide⟩, _, _, rfl, rfl, ?_⟩
  walk_at "b"
  rw [by_low h1]
  intro x dx nx ndx nex
  refine ⟨x, dx, i, n - 2 ^ i, rfl, upd_same, i1, i2, by omega, by omega, fun H5 kp hC5 => ?_⟩
  rw [show 2 ^ i + (n - 2 ^ i) = n by omega] at hC5
  exact ⟨rfl, q x H5 (new_same nx ndx kp) nx hC5⟩
def sp_also_right (C : Addr) : Sp := fun vs H Q _ => ∃ (a b : Addr) (wa A wb B : Nat), vs = [.ref a, .ref b] ∧ CheckAt C H a wa A ∧ CheckAt C H b wb B ∧ ∀ H' (c : Bool), Same H H' → (c = true ↔ Dv B A) → Q (.bl c) H'
theorem G_also_right (T : Top K mg) : FnOk P w K mg base CX0 3 T.f_also_right T.fd_also_right ["one", "other"] (sp_also_right T.C_Check) := by
  refine T.F_also_right.ok sc_also_right (fun vs H Q E h => by obtain ⟨a, b, wa, A, wb, B, rfl, _⟩ := h; rfl) (fun cdv A outer s H vs Q E hr h => ?_)
  obtain ⟨a, b, wa, A, wb, B, rfl, hA, hB, q⟩ := h
  refine ⟨_, PSs.nox (pss_cons (ps_expr (pe_call (G_check_two T) (hr.mono (by decide)) (by rfl) T.g_check_two T.F_check_two.kp T.b_check_two .nil pass0 (pa_cons (pv 0) (pa_cons (pv 1) pa_nil))))
  (pss_one (ps_ret (pe_cmpR op_eq (pe_ix (k_ixT K rfl) (pe_call (G_sum_divided T) (hr.mono (by decide)) (by rfl) T.g_sum_divided T.F_sum_divided.kp T.b_sum_divided .nil pass0 (pa_cons (pe_call (G_sum_of T) (hr.mono (by decide)) (by rfl) T.g_sum_of T.F_sum_of.kp T.b_sum_of .nil pass0 (pa_cons (pv 0) pa_nil)) (pa_cons (pe_call (G_sum_of T) (hr.mono (by decide)) (by rfl) T.g_sum_of T.F_sum_of.kp T.b_sum_of .nil pass0 (pa_cons (pv 1) pa_nil)) pa_nil))) pe_int (fun _ _ => rfl)) pe_int (nomark _))))), ?_⟩
  have kA := ck_17 hA.1 hA.2.1
  have kB := ck_17 hB.1 hB.2.1
  refine ⟨_, rfl, _, rfl, a, b, wa, A, wb, B, rfl, hA, hB, ?_⟩
  refine ⟨_, rfl, a, wa, A, rfl, hA, _, rfl, b, wb, B, rfl, hB, A, B, rfl, kB.2, pow40 kA.1 (by decide), pow40 kB.1 (by decide), fun f r H2 t s2 nt hP ht => ?_⟩
  refine ⟨t, _, _, .int (r : Int), rfl, rfl, .inl (.inl ht), rfl, rfl, q H2 _ s2 ⟨fun z => ?_, fun z => ?_⟩⟩
  · have := V.int.inj (of_decide_eq_true z)
    have e : r = 0 := by omega
    subst e
    exact parts_dv hP
  · rw [dv_parts kB.2 hP z]
    exact decide_eq_true rfl
def sp_parted_bits (C : Addr) : Sp := fun vs H Q _ => ∃ (a b : Addr) (wa A wb B : Nat), vs = [.ref a, .ref b] ∧ CheckAt C H a wa A ∧ CheckAt C H b wb B ∧ ∀ H' v, Same H H' → ((Dv B A ∧ v = .non) ∨ (¬ Dv B A ∧ v = .str (bS (bitsB A (wa + 1))))) → Q v H'
theorem G_parted_bits (T : Top K mg) : FnOk P w K mg base CX0 4 T.f_parted_bits T.fd_parted_bits ["one", "other"] (sp_parted_bits T.C_Check) := by
  refine T.F_parted_bits.ok sc_parted_bits (fun vs H Q E h => by obtain ⟨a, b, wa, A, wb, B, rfl, _⟩ := h; rfl) (fun cdv A outer s H vs Q E hr h => ?_)
  obtain ⟨a, b, wa, A, wb, B, rfl, hA, hB, q⟩ := h
  refine ⟨_, PSs.nox (pss_one (ps_ret (pe_ifExp (pt_val (pe_call (G_also_right T) (hr.mono (by decide)) (by rfl) T.g_also_right T.F_also_right.kp T.b_also_right .nil pass0 (pa_cons (pv 0) (pa_cons (pv 1) pa_nil)))) pe_non (pe_meth0 (pv 0) T.cl_Check T.me_Check_bits (G_Check_bits T) (hr.mono (by decide)) T.b_Check_bits .nil pass0)))), ?_⟩
  refine ⟨_, rfl, _, rfl, a, b, wa, A, wb, B, rfl, hA, hB, fun H1 c s1 hc => ⟨_, rfl, ?_⟩⟩
  cases c with
  | true => exact iteT (q H1 _ s1 (.inl ⟨hc.mp rfl, rfl⟩))
  | false =>
    refine iteF ?_
    have hA1 := hA.same s1
    obtain ⟨_, _, dx, ha⟩ := id hA1
    refine ⟨_, rfl, a, dx, _, rfl, ha, (by rfl), a, wa, A, rfl, hA1, fun H2 s2 => ?_⟩
    exact q H2 _ (s1.trans s2) (.inr ⟨fun z => (by have := hc.mpr z; cases this), rfl⟩)
def sp_together (C : Addr) : Sp := fun vs H Q _ => ∃ (a b : Addr) (wa A wb B : Nat), vs = [.ref a, .ref b] ∧ CheckAt C H a wa A ∧ CheckAt C H b wb B ∧ ∀ (g y i : Nat) H' v, Same H H' → Gcd A B g → B = prod g y → 2 ^ i ≤ prod A y → prod A y < 2 ^ (i + 1) →
  ((i ≤ 16 ∧ ∃ x, v = .ref x ∧ H x = none ∧ CheckAt C H' x i (prod A y)) ∨ (16 < i ∧ v = .non)) → Q v H'
theorem free_of {H H1 : Hp} (s : Same H H1) {x : Addr} (n : H1 x = none) : H x = none := s.free n
theorem G_together (T : Top K mg) : FnOk P w K mg base CX0 7 T.f_together T.fd_together ["one", "other"] (sp_together T.C_Check) := by
  refine T.F_together.ok sc_together (fun vs H Q E h => by obtain ⟨a, b, wa, A, wb, B, rfl, _⟩ := h; rfl) (fun cdv A outer s H vs Q E hr h => ?_)
  obtain ⟨a, b, wa, A, wb, B, rfl, hA, hB, q⟩ := h
  refine ⟨_, PSs.nox (pss_cons (ps_expr (pe_call (G_check_two T) (hr.mono (by decide)) (by rfl) T.g_check_two T.F_check_two.kp T.b_check_two .nil pass0 (pa_cons (pv 0) (pa_cons (pv 1) pa_nil))))
  (pss_cons (ps_par (by rfl) sc_together.nd (i := 3) (j := 4) rfl rfl (by decide) rfl rfl (pa_cons (pe_call (G_sum_of T) (hr.mono (by decide)) (by rfl) T.g_sum_of T.F_sum_of.kp T.b_sum_of .nil pass0 (pa_cons (pv 0) pa_nil)) (pa_cons (pe_call (G_sum_of T) (hr.mono (by decide)) (by rfl) T.g_sum_of T.F_sum_of.kp T.b_sum_of .nil pass0 (pa_cons (pv 1) pa_nil)) pa_nil)) (by rfl))
  (pss_cons (ps_set (i := 2) sc_together.nd rfl (by first | exact Or.inl rfl | exact Or.inr rfl) (pe_call (G_sum_product T) (hr.mono (by decide)) (by rfl) T.g_sum_product T.F_sum_product.kp T.b_sum_product .nil pass0 (pa_cons (pv 3) (pa_cons (pe_ix (k_ixT K rfl) (pe_call (G_sum_divided T) (hr.mono (by decide)) (by rfl) T.g_sum_divided T.F_sum_divided.kp T.b_sum_divided .nil pass0 (pa_cons (pv 4) (pa_cons (pe_call (G_sum_common T) (hr.mono (by decide)) (by rfl) T.g_sum_common T.F_sum_common.kp T.b_sum_common .nil pass0 (pa_cons (pv 3) (pa_cons (pv 4) pa_nil))) pa_nil))) pe_int (fun _ _ => rfl)) pa_nil))))
  (pss_one (ps_ret (pe_ifExp (pt_cmpR op_le (pe_op op_sub (pe_bits (pv 2)) pe_int) (pe_glob (v := .int 16) rfl T.m_MOST_WIDTH ⟨_, rfl⟩) (nomark _)) (pe_call (G_check_by T) (hr.mono (by decide)) (by rfl) T.g_check_by T.F_check_by.kp T.b_check_by .nil pass0 (pa_cons (pv 2) pa_nil)) pe_non)))))), ?_⟩
  have kA := ck_17 hA.1 hA.2.1
  have kB := ck_17 hB.1 hB.2.1
  refine ⟨_, rfl, _, rfl, a, b, wa, A, wb, B, rfl, hA, hB, ?_⟩
  refine ⟨_, rfl, a, wa, A, rfl, hA, _, rfl, b, wb, B, rfl, hB, _, _, rfl, ?_⟩
  refine ⟨_, rfl, _, rfl, _, rfl, _, rfl, A, B, rfl, pow40 kA.1 (by decide), pow40 kB.1 (by decide), fun g H1 s1 hg hgl => ?_⟩
  have g0 := gcd_ne hg kA.2
  refine ⟨B, g, rfl, g0, pow40 kB.1 (by decide), hgl, fun y r H2 t s2 nt hP ht => ?_⟩
  obtain ⟨rfl, ey⟩ := parts_zero g0 hP hg.r
  have hy := quo_lt g0 ey kB.1
  refine ⟨t, _, _, .int (y : Int), rfl, rfl, .inl (.inl ht), rfl, A, y, rfl, pow40 kA.1 (by decide), pow40 hy (by decide), fun H3 s3 => ?_⟩
  have y0 : y ≠ 0 := fun z => kB.2 (by rw [ey, z, prod_zero])
  obtain ⟨D, d1, d2⟩ := top_ex y0
  have hp := prod_top D A y (Nat.le_of_lt hA.1.lo) hA.1.hi d1 d2
  have s03 := s1.trans (s2.trans s3)
  have odd : prod A y % 2 = 1 := prod_odd hA.1.odd (prod_oddl (a := g) (b := y) (by rw [← ey]; exact hB.1.odd)).1
  have w1 := hA.1.pos
  refine ⟨_, rfl, _, rfl, _, _, rfl, rfl, ?_⟩
  walk_at "b"
  rw [by_bits hp.1 hp.2]
  refine ⟨_, _, rfl, rfl, _, rfl, ?_⟩
  by_cases c : wa + D ≤ 16
  · refine iteDT (by omega) ?_
    exact ⟨_, rfl, _, wa + D, rfl, hp.1, hp.2, by omega, c, odd, fun x H4 s4 nx hC4 => q g y _ H4 _ (s03.trans s4) hg ey hp.1 hp.2 (.inl ⟨c, x, rfl, s03.free nx, hC4⟩)⟩
  · refine iteDF (by omega) ?_
    exact q g y _ H3 _ s03 hg ey hp.1 hp.2 (.inr ⟨by omega, rfl⟩)
def sp_shared (C : Addr) : Sp := fun vs H Q _ => ∃ (a b : Addr) (wa A wb B : Nat), vs = [.ref a, .ref b] ∧ CheckAt C H a wa A ∧ CheckAt C H b wb B ∧ ∀ (g : Nat) H' v, Same H H' → Gcd A B g →
  ((g = 1 ∧ v = .non) ∨ ∃ i x, g ≠ 1 ∧ v = .ref x ∧ H x = none ∧ CheckAt C H' x i g) → Q v H'
theorem G_shared (T : Top K mg) : FnOk P w K mg base CX0 7 T.f_shared T.fd_shared ["one", "other"] (sp_shared T.C_Check) := by
  refine T.F_shared.ok sc_shared (fun vs H Q E h => by obtain ⟨a, b, wa, A, wb, B, rfl, _⟩ := h; rfl) (fun cdv A outer s H vs Q E hr h => ?_)
  obtain ⟨a, b, wa, A, wb, B, rfl, hA, hB, q⟩ := h
  refine ⟨_, PSs.nox (pss_cons (ps_expr (pe_call (G_check_two T) (hr.mono (by decide)) (by rfl) T.g_check_two T.F_check_two.kp T.b_check_two .nil pass0 (pa_cons (pv 0) (pa_cons (pv 1) pa_nil))))
  (pss_cons (ps_set (i := 2) sc_shared.nd rfl (by first | exact Or.inl rfl | exact Or.inr rfl) (pe_call (G_sum_common T) (hr.mono (by decide)) (by rfl) T.g_sum_common T.F_sum_common.kp T.b_sum_common .nil pass0 (pa_cons (pe_call (G_sum_of T) (hr.mono (by decide)) (by rfl) T.g_sum_of T.F_sum_of.kp T.b_sum_of .nil pass0 (pa_cons (pv 0) pa_nil)) (pa_cons (pe_call (G_sum_of T) (hr.mono (by decide)) (by rfl) T.g_sum_of T.F_sum_of.kp T.b_sum_of .nil pass0 (pa_cons (pv 1) pa_nil)) pa_nil))))
  (pss_one (ps_ret (pe_ifExp (pt_cmpR op_gt (pv 2) pe_int (nomark _)) (pe_call (G_check_by T) (hr.mono (by decide)) (by rfl) T.g_check_by T.F_check_by.kp T.b_check_by .nil pass0 (pa_cons (pv 2) pa_nil)) pe_non))))), ?_⟩
  have kA := ck_17 hA.1 hA.2.1
  have kB := ck_17 hB.1 hB.2.1
  refine ⟨_, rfl, _, rfl, a, b, wa, A, wb, B, rfl, hA, hB, ?_⟩
  refine ⟨_, rfl, a, wa, A, rfl, hA, _, rfl, b, wb, B, rfl, hB, A, B, rfl, pow40 kA.1 (by decide), pow40 kB.1 (by decide), fun g H1 s1 hg hgl => ?_⟩
  have g0 := gcd_ne hg kA.2
  have godd : g % 2 = 1 := by
    obtain ⟨u, eu⟩ := hg.l
    exact (prod_oddl (a := g) (b := u) (by rw [← eu]; exact hA.1.odd)).2
  refine ⟨_, rfl, _, _, rfl, rfl, _, rfl, ?_⟩
  by_cases c : g = 1
  · subst c
    exact iteDF (by omega) (q 1 H1 _ s1 hg (.inl ⟨rfl, rfl⟩))
  · refine iteDT (by omega) ?_
    obtain ⟨i, i1, i2⟩ := top_ex g0
    have hi : i ≤ 16 := by
      have := hg.l.le kA.2 (wa + 1) hA.1.hi
      have h3 : i < wa + 1 := (Nat.pow_lt_pow_iff_right (by decide)).mp (Nat.lt_of_le_of_lt i1 this)
      have := hA.2.1
      omega
    have hi1 : 1 ≤ i := by
      rcases Nat.eq_zero_or_pos i with z | z
      · subst z; simp at i2; omega
      · exact z
    exact ⟨_, rfl, g, i, rfl, i1, i2, hi1, hi, godd, fun x H2 s2 nx hC => q g H2 _ (s1.trans s2) hg (.inr ⟨i, x, c, rfl, s1.free nx, hC⟩)⟩
end
end My

namespace My
open PySem PySem.Spec PyProof.Rows L2 Pre
local macro_rules | `(tactic| walk_at "go") => `(tactic| repeat (first | (with_reducible first | refine iteT ?_ | refine iteF ?_ | refine iteNtt ?_ | refine iteNff ?_ | refine iteET (by omega) ?_ | refine iteEF (by omega) ?_ | refine iteENT (by omega) ?_ | refine iteENF (by omega) ?_ | refine iteDT (by omega) ?_ | refine iteDF (by omega) ?_ | refine iteNT (by omega) ?_ | refine iteNF (by omega) ?_) | refine ⟨_, rfl, ?_⟩ | refine ⟨_, _, rfl, rfl, ?_⟩ | refine ⟨_, _, rfl, ?_⟩ | refine ⟨rfl, ?_⟩ | refine .inl ⟨_, rfl, ?_⟩ | refine .inr ⟨_, rfl, ?_⟩))
local macro_rules | `(tactic| walk_at "b") => `(tactic| try dsimp (config := { proj := false, iota := false, eta := false, zeta := false }) only)
section
variable {P : Program} {w : World} {K : PySem.W.Frag} {mg : Str → Option Value} {base : Heap}
def sp_bits_with (C : Addr) : Sp := fun vs H Q _ => ∃ (a b : Addr) (wa A wb B l r : Nat), vs = [.ref a, .ref b, .int l, .int r] ∧ CheckAt C H a wa A ∧ CheckAt C H b wb B ∧ l < 2 ^ wa ∧ r < 2 ^ wb ∧
  ∀ (g y i : Nat) H' v, Same H H' → Gcd A B g → B = prod g y → 2 ^ i ≤ prod A y → prod A y < 2 ^ (i + 1) →
  ((¬ Dv g (l ^^^ r) ∧ v = .non) ∨ (Dv g (l ^^^ r) ∧ ∃ n, n < 2 ^ i ∧ Dv A (n ^^^ l) ∧ Dv B (n ^^^ r) ∧ v = .str (bS (bitsB n i)))) → Q v H'
theorem G_bits_with (T : Top K mg) : FnOk P w K mg base CX0 5 T.f_bits_with T.fd_bits_with ["one", "other", "left", "right"] (sp_bits_with T.C_Check) := by
  refine T.F_bits_with.ok sc_bits_with (fun vs H Q E h => by obtain ⟨a, b, wa, A, wb, B, l, r, rfl, _⟩ := h; rfl) (fun cdv A outer s H vs Q E hr h => ?_)
  obtain ⟨a, b, wa, A, wb, B, l, r, rfl, hA, hB, hl, hr', q⟩ := h
  refine ⟨_, PSs.nox (pss_cons (ps_expr (pe_call (G_check_two T) (hr.mono (by decide)) (by rfl) T.g_check_two T.F_check_two.kp T.b_check_two .nil pass0 (pa_cons (pv 0) (pa_cons (pv 1) pa_nil))))
  (pss_cons (ps_expr (pe_call (G_check_rest T) (hr.mono (by decide)) (by rfl) T.g_check_rest T.F_check_rest.kp T.b_check_rest .nil pass0 (pa_cons (pv 0) (pa_cons (pv 2) pa_nil))))
  (pss_cons (ps_expr (pe_call (G_check_rest T) (hr.mono (by decide)) (by rfl) T.g_check_rest T.F_check_rest.kp T.b_check_rest .nil pass0 (pa_cons (pv 1) (pa_cons (pv 3) pa_nil))))
  (pss_cons (ps_par (by rfl) sc_bits_with.nd (i := 7) (j := 8) rfl rfl (by decide) rfl rfl (pa_cons (pe_call (G_sum_of T) (hr.mono (by decide)) (by rfl) T.g_sum_of T.F_sum_of.kp T.b_sum_of .nil pass0 (pa_cons (pv 0) pa_nil)) (pa_cons (pe_call (G_sum_of T) (hr.mono (by decide)) (by rfl) T.g_sum_of T.F_sum_of.kp T.b_sum_of .nil pass0 (pa_cons (pv 1) pa_nil)) pa_nil)) (by rfl))
  (pss_cons (ps_set (i := 4) sc_bits_with.nd rfl (by first | exact Or.inl rfl | exact Or.inr rfl) (pe_call (G_sum_common T) (hr.mono (by decide)) (by rfl) T.g_sum_common T.F_sum_common.kp T.b_sum_common .nil pass0 (pa_cons (pv 7) (pa_cons (pv 8) pa_nil))))
  (pss_cons (ps_asg (pe_call (G_sum_divided T) (hr.mono (by decide)) (by rfl) T.g_sum_divided T.F_sum_divided.kp T.b_sum_divided .nil pass0 (pa_cons (pe_op op_xor (pv 2) (pv 3)) (pa_cons (pv 4) pa_nil))) (k_pgT K rfl (by rfl) (pgs_cons (pg_name (i := 9) sc_bits_with.nd rfl (by first | exact Or.inl rfl | exact Or.inr rfl)) (pgs_cons (pg_name (i := 10) sc_bits_with.nd rfl (by first | exact Or.inl rfl | exact Or.inr rfl)) pgs_nil))))
  (pss_cons (ps_if (pt_cmpR op_ne (pv 10) pe_int (nomark _))
    (pss_one (ps_ret pe_non))
    pss_nil)
  (pss_cons (ps_set (i := 5) sc_bits_with.nd rfl (by first | exact Or.inl rfl | exact Or.inr rfl) (pe_ix (k_ixT K rfl) (pe_call (G_sum_divided T) (hr.mono (by decide)) (by rfl) T.g_sum_divided T.F_sum_divided.kp T.b_sum_divided .nil pass0 (pa_cons (pv 8) (pa_cons (pv 4) pa_nil))) pe_int (fun _ _ => rfl)))
  (pss_cons (ps_set (i := 6) sc_bits_with.nd rfl (by first | exact Or.inl rfl | exact Or.inr rfl) (pe_ix (k_ixT K rfl) (pe_call (G_sum_divided T) (hr.mono (by decide)) (by rfl) T.g_sum_divided T.F_sum_divided.kp T.b_sum_divided .nil pass0 (pa_cons (pe_call (G_sum_product T) (hr.mono (by decide)) (by rfl) T.g_sum_product T.F_sum_product.kp T.b_sum_product .nil pass0 (pa_cons (pv 9) (pa_cons (pe_call (G_sum_inverse T) (hr.mono (by decide)) (by rfl) T.g_sum_inverse T.F_sum_inverse.kp T.b_sum_inverse .nil pass0 (pa_cons (pe_ix (k_ixT K rfl) (pe_call (G_sum_divided T) (hr.mono (by decide)) (by rfl) T.g_sum_divided T.F_sum_divided.kp T.b_sum_divided .nil pass0 (pa_cons (pv 7) (pa_cons (pv 4) pa_nil))) pe_int (fun _ _ => rfl)) (pa_cons (pv 5) pa_nil))) pa_nil))) (pa_cons (pv 5) pa_nil))) pe_int (fun _ _ => rfl)))
  (pss_one (ps_ret (pe_call (G_bits_of T) (hr.mono (by decide)) (by rfl) T.g_bits_of T.F_bits_of.kp T.b_bits_of .nil pass0 (pa_cons (pe_op op_xor (pv 2) (pe_call (G_sum_product T) (hr.mono (by decide)) (by rfl) T.g_sum_product T.F_sum_product.kp T.b_sum_product .nil pass0 (pa_cons (pv 7) (pa_cons (pv 6) pa_nil)))) (pa_cons (pe_op op_sub (pe_op op_add (pe_fld (pv 0) rfl) (pe_bits (pv 5))) pe_int) pa_nil)))))))))))))), ?_⟩
  have kA := ck_17 hA.1 hA.2.1
  have kB := ck_17 hB.1 hB.2.1
  have h16 := pow17 hA.2.1
  have h16b := pow17 hB.2.1
  have hlr : l ^^^ r < 2 ^ 17 := Nat.xor_lt_two_pow (by omega) (by omega)
  refine ⟨_, rfl, _, rfl, a, b, wa, A, wb, B, rfl, hA, hB, ?_⟩
  refine ⟨_, rfl, _, rfl, a, wa, A, l, rfl, hA, hl, ?_⟩
  refine ⟨_, rfl, _, rfl, b, wb, B, r, rfl, hB, hr', ?_⟩
  refine ⟨_, rfl, a, wa, A, rfl, hA, _, rfl, b, wb, B, rfl, hB, _, _, rfl, ?_⟩
  refine ⟨_, rfl, _, rfl, A, B, rfl, pow40 kA.1 (by decide), pow40 kB.1 (by decide), fun g H1 s1 hg hgl => ?_⟩
  have g0 := gcd_ne hg kA.2
  refine ⟨_, rfl, _, rfl, _, _, rfl, rfl, _, rfl, ?_⟩
  walk_at "b"
  rw [bx]
  refine ⟨l ^^^ r, g, rfl, g0, pow40 hlr (by decide), hgl, fun ap be H2 t2 s2 nt2 hP2 ht2 => ⟨t2, _, rfl, .inl (.inl ht2), rfl, _, _, rfl, _, _, rfl, rfl, ?_⟩⟩
  obtain ⟨y, ey⟩ := hg.r
  have hy := quo_lt g0 ey kB.1
  have y0 : y ≠ 0 := fun z => kB.2 (by rw [ey, z, prod_zero])
  obtain ⟨D, d1, d2⟩ := top_ex y0
  have hD : D ≤ 16 := by
    have : D < 17 := (Nat.pow_lt_pow_iff_right (by decide)).mp (Nat.lt_of_le_of_lt d1 hy)
    omega
  have hp := prod_top D A y (Nat.le_of_lt hA.1.lo) hA.1.hi d1 d2
  refine ⟨_, rfl, rfl, _, rfl, ?_⟩
  by_cases c : be = 0
  · refine iteENF (by rw [c]; rfl) ?_
    subst c
    have hap : l ^^^ r = prod g ap := by rw [hP2.eq, Nat.xor_zero]
    have apl := quo_lt g0 hap hlr
    refine ⟨_, rfl, _, rfl, B, g, rfl, g0, pow40 kB.1 (by decide), hgl, fun y' r3 H3 t3 s3 nt3 hP3 ht3 => ⟨t3, _, _, .int (y' : Int), rfl, rfl, .inl (.inl ht3), rfl, ?_⟩⟩
    obtain ⟨rfl, ey'⟩ := parts_zero g0 hP3 hg.r
    have : y' = y := prod_cancel g0 (by rw [← ey', ← ey])
    subst this
    refine ⟨_, rfl, _, rfl, _, rfl, A, g, rfl, g0, pow40 kA.1 (by decide), hgl, fun m r4 H4 t4 s4 nt4 hP4 ht4 => ⟨t4, _, _, .int (m : Int), rfl, rfl, .inl (.inl ht4), rfl, ?_⟩⟩
    obtain ⟨rfl, em⟩ := parts_zero g0 hP4 hg.l
    have hm := quo_lt g0 em kA.1
    refine ⟨_, rfl, m, y', D, rfl, Nat.lt_of_lt_of_le hm (Nat.pow_le_pow_right (by decide) (by decide)), d1, d2, by omega, fun p g' H5 s5 hg' hdv hp' => ?_⟩
    have eg : g' = 1 := gcd_uniq hg' (gcd_parts kA.2 hg em ey)
    subst eg
    have pl : p < 2 ^ 17 := Nat.lt_of_lt_of_le hp' (Nat.pow_le_pow_right (by decide) (by omega))
    have hpp : prod ap p < 2 ^ (17 + 17) := prod_lt apl pl
    refine ⟨ap, p, rfl, pow40 apl (by decide), pow40 pl (by decide), fun H6 s6 => ?_⟩
    refine ⟨_, rfl, prod ap p, y', rfl, y0, pow40 hpp (by decide), pow40 hy (by decide), fun q7 of H7 t7 s7 nt7 hP7 ht7 => ⟨t7, _, _, .int (of : Int), rfl, rfl, .inl (.inl ht7), rfl, ?_⟩⟩
    have hPair : Pair A B g m y' p := ⟨kA.2, kB.2, hg, em, ey, hdv⟩
    have hrests := hPair.both_rests (left := l) (right := r) hP2 hP7
    have ofl : of < 2 ^ D := hP7.lt D d2
    have hn : l ^^^ prod A of < 2 ^ (wa + D) := by
      refine Nat.xor_lt_two_pow (Nat.lt_of_lt_of_le hl (Nat.pow_le_pow_right (by decide) (by omega))) ?_
      rcases Nat.eq_zero_or_pos D with z | z
      · subst z
        have : of = 0 := by omega
        rw [this, prod_zero]
        exact Nat.two_pow_pos _
      · have := prod_tight (i := wa) (j := D - 1) hA.1.hi (b := of) (by rw [show D - 1 + 1 = D by omega]; exact ofl)
        rw [show wa + (D - 1) + 1 = wa + D by omega] at this
        exact this
    have s07 := s1.trans (s2.trans (s3.trans (s4.trans (s5.trans (s6.trans s7)))))
    obtain ⟨_, _, dx, ha⟩ := id (hA.same s07)
    refine ⟨_, rfl, _, rfl, _, rfl, A, of, rfl, pow40 kA.1 (by decide), pow40 ofl (by omega), fun H8 s8 => ⟨_, _, rfl, rfl, ?_⟩⟩
    refine ⟨_, rfl, a, T.C_Check, dx, _, _, rfl, s8 _ _ ha, T.cl_Check, T.na_Check_size, rfl, _, rfl, _, rfl, _, _, rfl, rfl, _, _, rfl, rfl, ?_⟩
    walk_at "b"
    have eb := by_bits d1 d2
    rw [bx, show (wa : Int) + ((Builtin.Int.intBits (y' : Int) : Nat) : Int) - 1 = ((wa + D : Nat) : Int) by omega]
    refine ⟨l ^^^ prod A of, wa + D, rfl, by have := hA.2.1; omega, fun H9 s9 => ?_⟩
    exact q g y' (wa + D) H9 _ (s07.trans (s8.trans s9)) hg ey hp.1 hp.2 (.inr ⟨⟨ap, hap⟩, _, hn, hrests.1, hrests.2, rfl⟩)
  · refine iteENT (fun z => c (by omega)) ?_
    exact q g y (wa + D) H2 _ (s1.trans s2) hg ey hp.1 hp.2 (.inl ⟨fun z => c (parts_zero g0 hP2 z).1, rfl⟩)
/-! ### the law's own -/
def sp_law_rest : Sp := fun vs H Q _ => ∃ (a b : Nat), vs = [.int b, .int a] ∧ b ≠ 0 ∧ a < 2 ^ 1000 ∧ b < 2 ^ 40 ∧ ∀ (f r : Nat), Parts a b f r → Q (.int r) H
theorem G_law_rest (T : Top K mg) : FnOk P w K mg base CX0 1 T.f_law_rest T.fd_law_rest ["_law_whole", "_law_number_here"] sp_law_rest := by
  refine T.F_law_rest.ok sc_law_rest (fun vs H Q E h => by obtain ⟨a, b, rfl, _⟩ := h; rfl) (fun cdv A outer s H vs Q E hr h => ?_)
  obtain ⟨a, b, rfl, hb0, ha, hb, q⟩ := h
  refine ⟨_, PSs.nox (pss_cons (ps_set (i := 2) sc_law_rest.nd rfl (by first | exact Or.inl rfl | exact Or.inr rfl) (pv 1))
  (pss_cons (ps_while PassesOwn.never (pt_cmpR op_ge (pe_bits (pv 2)) (pe_bits (pv 0)) (nomark _))
    (pss_one (ps_set (i := 2) sc_law_rest.nd rfl (by first | exact Or.inl rfl | exact Or.inr rfl) (pe_op op_xor (pv 2) (pe_op op_shl (pv 0) (pe_op op_sub (pe_bits (pv 2)) (pe_bits (pv 0))))))))
  (pss_one (ps_ret (pv 2))))), ?_⟩
  obtain ⟨B, eB, b1, b2⟩ := bl_top hb0
  refine ⟨_, rfl, ?_⟩
  refine ⟨fun m σ H1 => ∃ (f l : Nat), σ = [some (.int b), some (.int a), some (.int l)] ∧ H1 = H ∧ m = l ∧ l < 2 ^ 1000 ∧ a = prod b f ^^^ l, ⟨a, 0, a, rfl, rfl, rfl, ha, by rw [prod_zero, Nat.zero_xor]⟩, ?_⟩
  rintro m σ H1 ⟨f, l, rfl, rfl, hm, hl, he⟩
  refine ⟨_, rfl, _, rfl, _, rfl, _, rfl, _, _, rfl, rfl, _, rfl, ite2 (fun c => ?_) (fun c => ?_)⟩
  · have c1 : B + 1 ≤ Builtin.Int.intBits (l : Int) := by
      have := of_decide_eq_true c
      rw [eB] at this
      omega
    have l0 : l ≠ 0 := fun z => by
      rw [z] at c1
      have : Builtin.Int.intBits ((0 : Nat) : Int) ≤ 0 := bl_iff.mpr (by decide)
      omega
    obtain ⟨L, eL, k1, k2⟩ := bl_top l0
    have hL : L ≤ 1000 := by have : Builtin.Int.intBits (l : Int) ≤ 1000 := bl_iff.mpr hl; omega
    have t1 := parts_turn b1 b2 k1 k2 (show B ≤ L by omega)
    have t2 := parts_step (p := L - B) he
    have lt : l ^^^ b * 2 ^ (L - B) < l := by omega
    refine ⟨fun σ' H' => ∃ (f' l' : Nat), σ' = [some (.int b), some (.int a), some (.int l')] ∧ H' = H1 ∧ l' < l ∧ l' < 2 ^ 1000 ∧ a = prod b f' ^^^ l', fun σ' H' ⟨f', l', e1, e2, e3, e4, e5⟩ => ⟨l', by omega, f', l', e1, e2, rfl, e4, e5⟩, ?_⟩
    have ek : ((Builtin.Int.intBits (l : Int) : Nat) : Int) - ((Builtin.Int.intBits (b : Int) : Nat) : Int) = ((L - B : Nat) : Int) := by
      rw [eB, eL]
      omega
    refine ⟨_, rfl, _, rfl, _, rfl, _, rfl, _, rfl, _, rfl, _, _, rfl, rfl, _, _, rfl, rfl, ⟨by omega, by omega, by omega⟩, _, _, rfl, rfl, ?_⟩
    walk_at "b"
    have x2 : (b : Int) * 2 ^ (((L - B : Nat) : Int)).toNat = ((b * 2 ^ (L - B) : Nat) : Int) := by
      rw [Int.toNat_natCast, Int.natCast_mul, Int.natCast_pow]
      rfl
    rw [ek, x2, bx]
    exact ⟨_, _, rfl, rfl, lt, by omega, t2⟩
  · have c1 : Builtin.Int.intBits (l : Int) ≤ B := by
      have : ¬ ((Builtin.Int.intBits (l : Int) : Nat) : Int) ≥ ((Builtin.Int.intBits (b : Int) : Nat) : Int) := fun z => c (decide_eq_true z)
      rw [eB] at this
      omega
    exact ⟨_, rfl, q f l (parts_end he b1 (bl_iff.mp c1))⟩
def sp_law_parts : Sp := fun vs H Q _ => ∃ (a b : Nat), vs = [.int a, .int b] ∧ b ≠ 0 ∧ a < 2 ^ 40 ∧ b < 2 ^ 40 ∧ ∀ (f r : Nat) H' t, Same H H' → H t = none → Parts a b f r → H' t = some (.tup [.int f, .int r]) → Q (.ref t) H'
theorem G_law_parts (T : Top K mg) : FnOk P w K mg base CX0 1 T.f_law_parts T.fd_law_parts ["_law_one", "_law_other"] sp_law_parts := by
  refine T.F_law_parts.ok sc_law_parts (fun vs H Q E h => by obtain ⟨a, b, rfl, _⟩ := h; rfl) (fun cdv A outer s H vs Q E hr h => ?_)
  obtain ⟨a, b, rfl, hb0, ha, hb, q⟩ := h
  refine ⟨_, PSs.nox (pss_cons (ps_par (by rfl) sc_law_parts.nd (i := 2) (j := 3) rfl rfl (by decide) rfl rfl (pa_cons pe_int (pa_cons (pv 0) pa_nil)) (by rfl))
  (pss_cons (ps_while PassesOwn.never (pt_cmpR op_ge (pe_bits (pv 3)) (pe_bits (pv 1)) (nomark _))
    (pss_cons (ps_set (i := 4) sc_law_parts.nd rfl (by first | exact Or.inl rfl | exact Or.inr rfl) (pe_op op_sub (pe_bits (pv 3)) (pe_bits (pv 1))))
  (pss_one (ps_par (by rfl) sc_law_parts.nd (i := 2) (j := 3) rfl rfl (by decide) rfl rfl (pa_cons (pe_op op_xor (pv 2) (pe_op op_shl pe_int (pv 4))) (pa_cons (pe_op op_xor (pv 3) (pe_op op_shl (pv 1) (pv 4))) pa_nil)) (by rfl)))))
  (pss_one (ps_ret (pe_tup (pa_cons (pv 2) (pa_cons (pv 3) pa_nil))))))), ?_⟩
  obtain ⟨B, eB, b1, b2⟩ := bl_top hb0
  refine ⟨_, rfl, _, _, rfl, ?_⟩
  refine ⟨fun m σ H1 => ∃ (f l : Nat) (v4 : Option V), σ = [some (.int a), some (.int b), some (.int f), some (.int l), v4] ∧ H1 = H ∧ m = l ∧ l < 2 ^ 40 ∧ a = prod b f ^^^ l, ⟨a, 0, a, none, rfl, rfl, rfl, ha, by rw [prod_zero, Nat.zero_xor]⟩, ?_⟩
  rintro m σ H1 ⟨f, l, v4, rfl, rfl, hm, hl, he⟩
  refine ⟨_, rfl, _, rfl, _, rfl, _, rfl, _, _, rfl, rfl, _, rfl, ite2 (fun c => ?_) (fun c => ?_)⟩
  · have c1 : B + 1 ≤ Builtin.Int.intBits (l : Int) := by
      have := of_decide_eq_true c
      rw [eB] at this
      omega
    have l0 : l ≠ 0 := fun z => by
      rw [z] at c1
      have : Builtin.Int.intBits ((0 : Nat) : Int) ≤ 0 := bl_iff.mpr (by decide)
      omega
    obtain ⟨L, eL, k1, k2⟩ := bl_top l0
    have hL : L ≤ 40 := by have : Builtin.Int.intBits (l : Int) ≤ 40 := bl_iff.mpr hl; omega
    have t1 := parts_turn b1 b2 k1 k2 (show B ≤ L by omega)
    have t2 := parts_step (p := L - B) he
    have lt : l ^^^ b * 2 ^ (L - B) < l := by omega
    refine ⟨fun σ' H' => ∃ (f' l' : Nat) (v4 : Option V), σ' = [some (.int a), some (.int b), some (.int f'), some (.int l'), v4] ∧ H' = H1 ∧ l' < l ∧ l' < 2 ^ 40 ∧ a = prod b f' ^^^ l', fun σ' H' ⟨f', l', v4, e1, e2, e3, e4, e5⟩ => ⟨l', by omega, f', l', v4, e1, e2, rfl, e4, e5⟩, ?_⟩
    have ek : ((Builtin.Int.intBits (l : Int) : Nat) : Int) - ((Builtin.Int.intBits (b : Int) : Nat) : Int) = ((L - B : Nat) : Int) := by
      rw [eB, eL]
      omega
    refine ⟨_, rfl, _, rfl, _, rfl, _, rfl, _, _, rfl, rfl, ?_⟩
    walk_at "b"
    rw [ek]
    refine ⟨_, rfl, _, rfl, _, _, rfl, rfl, ⟨by omega, by omega, by omega⟩, _, _, rfl, rfl, _, rfl, _, rfl, _, rfl, _, _, rfl, rfl, ⟨by omega, by omega, by omega⟩, _, _, rfl, rfl, _, _, rfl, ?_⟩
    have x1 : (1 : Int) * 2 ^ (((L - B : Nat) : Int)).toNat = ((2 ^ (L - B) : Nat) : Int) := by
      rw [Int.one_mul, Int.toNat_natCast, Int.natCast_pow]
      rfl
    have x2 : (b : Int) * 2 ^ (((L - B : Nat) : Int)).toNat = ((b * 2 ^ (L - B) : Nat) : Int) := by
      rw [Int.toNat_natCast, Int.natCast_mul, Int.natCast_pow]
      rfl
    walk_at "b"
    rw [x1, x2, bx, bx]
    exact ⟨_, _, _, rfl, rfl, lt, by omega, t2⟩
  · have c1 : Builtin.Int.intBits (l : Int) ≤ B := by
      have : ¬ ((Builtin.Int.intBits (l : Int) : Nat) : Int) ≥ ((Builtin.Int.intBits (b : Int) : Nat) : Int) := fun z => c (decide_eq_true z)
      rw [eB] at this
      omega
    have hP := parts_end he b1 (bl_iff.mp c1)
    refine ⟨_, rfl, _, rfl, (show 2 ≤ sizeLine by decide), fun t nt => ?_⟩
    obtain ⟨H2, e2, s2, h2⟩ := fresh (.tup [V.int f, V.int l]) nt
    rw [e2]
    exact q f l H2 t s2 nt hP h2
def sp_law_common : Sp := fun vs H Q _ => ∃ (a b : Nat), vs = [.int a, .int b] ∧ a < 2 ^ 40 ∧ b < 2 ^ 40 ∧ ∀ (g : Nat) H', Same H H' → Gcd a b g → g < 2 ^ 40 → Q (.int g) H'
theorem G_law_common (T : Top K mg) : FnOk P w K mg base CX0 2 T.f_law_common T.fd_law_common ["_law_one", "_law_other"] sp_law_common := by
  refine T.F_law_common.ok sc_law_common (fun vs H Q E h => by obtain ⟨a, b, rfl, _⟩ := h; rfl) (fun cdv A outer s H vs Q E hr h => ?_)
  obtain ⟨a, b, rfl, ha, hb, q⟩ := h
  refine ⟨_, PSs.nox (pss_cons (ps_while PassesOwn.never (pt_cmpR op_ne (pv 1) pe_int (nomark _))
    (pss_one (ps_par (by rfl) sc_law_common.nd (i := 0) (j := 1) rfl rfl (by decide) rfl rfl (pa_cons (pv 1) (pa_cons (pe_ix (k_ixT K rfl) (pe_call (G_law_parts T) (hr.mono (by decide)) (by rfl) T.g_law_parts T.F_law_parts.kp T.b_law_parts .nil pass0 (pa_cons (pv 0) (pa_cons (pv 1) pa_nil))) pe_int (fun _ _ => rfl)) pa_nil)) (by rfl))))
  (pss_one (ps_ret (pv 0)))), ?_⟩
  refine ⟨fun m σ H1 => ∃ (x y : Nat), σ = [some (.int x), some (.int y)] ∧ Same H H1 ∧ m = y ∧ x < 2 ^ 40 ∧ y < 2 ^ 40 ∧ ∀ g, Gcd x y g → Gcd a b g, ⟨b, a, b, rfl, Same.refl _, rfl, ha, hb, fun g h => h⟩, ?_⟩
  rintro m σ H1 ⟨x, y, rfl, s1, hm, hx, hy, hg⟩
  by_cases c : y = 0
  · refine ⟨_, rfl, rfl, _, rfl, iteENF (by rw [c]; rfl) ?_⟩
    subst c
    exact ⟨_, rfl, q x H1 s1 (hg x (gcd_zero x)) hx⟩
  · refine ⟨_, rfl, rfl, _, rfl, iteENT (fun z => c (by omega)) ?_⟩
    refine ⟨fun σ' H' => ∃ (x' y' : Nat), σ' = [some (.int x'), some (.int y')] ∧ Same H H' ∧ y' < y ∧ x' < 2 ^ 40 ∧ y' < 2 ^ 40 ∧ ∀ g, Gcd x' y' g → Gcd a b g, fun σ' H' ⟨x', y', e1, e2, e3, e4, e5, e6⟩ => ⟨y', by omega, x', y', e1, e2, rfl, e4, e5, e6⟩, ?_⟩
    refine ⟨_, rfl, _, rfl, _, rfl, x, y, rfl, c, hx, hy, fun f r H2 t s2 nt hP ht => ?_⟩
    obtain ⟨i, i1, i2⟩ := top_ex c
    have hr := hP.lt i i2
    exact ⟨t, _, _, .int (r : Int), rfl, rfl, by first | exact .inl ht | exact .inl (.inl ht), rfl, _, _, rfl, y, r, rfl, s1.trans s2, by omega, hy, by omega, fun g h => hg g (gcd_step hP h)⟩
def sp_law_check_of (C : Addr) : Sp := fun vs H Q _ => ∃ (n i : Nat), vs = [.int n] ∧ 2 ^ i ≤ n ∧ n < 2 ^ (i + 1) ∧ 1 ≤ i ∧ i ≤ 16 ∧ n % 2 = 1 ∧ ∀ x H', Same H H' → H x = none → CheckAt C H' x i n → Q (.ref x) H'
theorem G_law_check_of (T : Top K mg) : FnOk P w K mg base CX0 6 T.f_law_check_of T.fd_law_check_of ["_law_number_here"] (sp_law_check_of T.C_Check) := by
  refine T.F_law_check_of.ok sc_law_check_of (fun vs H Q E h => by obtain ⟨n, i, rfl, _⟩ := h; rfl) (fun cdv A outer s H vs Q E hr h => ?_)
  obtain ⟨n, i, rfl, h1, h2, i1, i2, ho, q⟩ := h
  refine ⟨_, PSs.nox (pss_cons (ps_set (i := 1) sc_law_check_of.nd rfl (by first | exact Or.inl rfl | exact Or.inr rfl) (pe_op op_sub (pe_bits (pv 0)) pe_int))
  (pss_one (ps_ret (pe_make T.mk_Check (G_Check___init__ T) (hr.mono (by decide)) (by rfl) T.gc_Check T.b_Check___init__ .nil pass0 (pa_cons (pv 1) (pa_cons (pe_op op_sub (pv 0) (pe_op op_shl pe_int (pv 1))) pa_nil)))))), ?_⟩
  have ep : 2 ^ (i + 1) = 2 ^ i * 2 := Nat.pow_succ ..
  have e2 : 2 ^ i = 2 ^ (i - 1) * 2 := by rw [← Nat.pow_succ, show (i - 1).succ = i by omega]
  refine ⟨_, rfl, _, rfl, _, _, rfl, rfl, ?_⟩
  walk_at "b"
  rw [by_bits h1 h2]
  refine ⟨_, rfl, _, rfl, _, rfl, _, _, rfl, rfl, ⟨by omega, by omega, by decide⟩, _, _, rfl, rfl, ?_⟩
  walk_at "b"
  rw [by_low h1]
  intro x dx nx ndx nex
  refine ⟨x, dx, i, n - 2 ^ i, rfl, upd_same, i1, i2, by omega, by omega, fun H5 kp hC5 => ?_⟩
  rw [show 2 ^ i + (n - 2 ^ i) = n by omega] at hC5
  exact ⟨rfl, q x H5 (new_same nx ndx kp) nx hC5⟩
end
end My

namespace My
/-! ### parts there are; inverses there are; rests told by what divides -/
theorem parts_ex {b : Nat} (hb : b ≠ 0) : ∀ a, ∃ q r, Parts a b q r := by
  obtain ⟨B, b1, b2⟩ := top_ex hb
  intro a
  induction a using Nat.strongRecOn with
  | _ a ih =>
    by_cases c : a < 2 ^ B
    · exact ⟨0, a, parts_end (by rw [prod_zero, Nat.zero_xor]) b1 c⟩
    · have a0 : a ≠ 0 := by have := Nat.two_pow_pos B; omega
      obtain ⟨L, l1, l2⟩ := top_ex a0
      have hL : B ≤ L := by
        have : 2 ^ B < 2 ^ (L + 1) := by omega
        have := (Nat.pow_lt_pow_iff_right (by decide)).mp this
        omega
      have t := parts_turn b1 b2 l1 l2 hL
      obtain ⟨q, r, h⟩ := ih (a ^^^ b * 2 ^ (L - B)) (by omega)
      refine ⟨q ^^^ 2 ^ (L - B), r, ?_, h.lt⟩
      have e := h.eq
      rw [prod_xorr, prod_two, show prod b q ^^^ b * 2 ^ (L - B) ^^^ r = (prod b q ^^^ r) ^^^ b * 2 ^ (L - B) by ac_rfl, ← e, Nat.xor_assoc, Nat.xor_self, Nat.xor_zero]
theorem bezout : ∀ (b a g : Nat), Gcd a b g → ∃ p, Dv b (g ^^^ prod a p) := by
  intro b
  induction b using Nat.strongRecOn with
  | _ b ih =>
    intro a g hg
    by_cases z : b = 0
    · subst z
      have := gcd_uniq hg (gcd_zero a)
      subst this
      exact ⟨1, by rw [prod_comm, prod_one, Nat.xor_self]; exact .zero 0⟩
    · obtain ⟨q, r, h⟩ := parts_ex z a
      obtain ⟨i, i1, i2⟩ := top_ex z
      have hr := h.lt i i2
      have hg2 : Gcd b r g := gcd_turn h hg
      obtain ⟨p, u, e⟩ := ih r (by omega) b g hg2
      refine ⟨u, p ^^^ prod q u, ?_⟩
      have er : r = a ^^^ prod b q := by rw [h.eq, Nat.xor_comm (prod b q), Nat.xor_assoc, Nat.xor_self, Nat.xor_zero]
      have eg : g = prod b p ^^^ prod r u := by rw [← e, Nat.xor_comm g, ← Nat.xor_assoc, Nat.xor_self, Nat.zero_xor]
      rw [prod_xorr, ← prod_assoc]
      rw [er, prod_xorl] at eg
      rw [eg, show prod b p ^^^ (prod a u ^^^ prod (prod b q) u) ^^^ prod a u = prod b p ^^^ prod (prod b q) u ^^^ (prod a u ^^^ prod a u) by ac_rfl, Nat.xor_self, Nat.xor_zero]
theorem gcd_ex : ∀ (b a : Nat), ∃ g, Gcd a b g := by
  intro b
  induction b using Nat.strongRecOn with
  | _ b ih =>
    intro a
    by_cases z : b = 0
    · subst z
      exact ⟨a, gcd_zero a⟩
    · obtain ⟨q, r, h⟩ := parts_ex z a
      obtain ⟨i, i1, i2⟩ := top_ex z
      have hr := h.lt i i2
      obtain ⟨g, hg⟩ := ih r (by omega) b
      exact ⟨g, gcd_step h hg⟩
theorem pair_ex {A B g y : Nat} (a0 : A ≠ 0) (b0 : B ≠ 0) (hg : Gcd A B g) (ey : B = prod g y) : ∃ m p, Pair A B g m y p := by
  obtain ⟨m, em⟩ := hg.l
  obtain ⟨p, hp⟩ := bezout y m 1 (gcd_parts a0 hg em ey)
  exact ⟨m, p, ⟨a0, b0, hg, em, ey, hp⟩⟩
theorem ck_ne {w W : Nat} (C : Ck w W) : W ≠ 0 := by
  have := C.lo
  have := Nat.two_pow_pos w
  omega
theorem parts_rem {w W n q r : Nat} (C : Ck w W) (h : Parts n W q r) : r = rem w W n := by
  obtain ⟨q', h'⟩ := rem_parts C n
  exact (parts_uniq (ck_ne C) h h').2
theorem dv_iff {w W n : Nat} (C : Ck w W) : Dv W n ↔ rem w W n = 0 := by
  obtain ⟨q, h⟩ := rem_parts C n
  refine ⟨fun z => dv_parts (ck_ne C) h z, fun z => ?_⟩
  rw [z] at h
  exact parts_dv h
theorem rem_eq_iff {w W n l : Nat} (C : Ck w W) (hl : l < 2 ^ w) : rem w W n = l ↔ Dv W (n ^^^ l) := by
  rw [dv_iff C, rem_xor C, rem_small C l hl]
  exact xor_eq0.symm
theorem joined_iff {A B g y x : Nat} (a0 : A ≠ 0) (b0 : B ≠ 0) (hg : Gcd A B g) (ey : B = prod g y) : Dv (prod A y) x ↔ Dv A x ∧ Dv B x := by
  obtain ⟨m, p, P⟩ := pair_ex a0 b0 hg ey
  exact ⟨fun h => ⟨P.joinL.trans h, P.joinR.trans h⟩, fun h => P.join h.1 h.2⟩
/-- the least one that is divided is the divider -/
theorem dv_least {A n : Nat} (h : Dv A n) (n0 : n ≠ 0) : A ≤ n := by
  obtain ⟨q, rfl⟩ := h
  have a0 : A ≠ 0 := fun z => n0 (by rw [z, prod_zerol])
  have q0 : q ≠ 0 := fun z => n0 (by rw [z, prod_zero])
  obtain ⟨i, i1, i2⟩ := top_ex a0
  obtain ⟨j, j1, j2⟩ := top_ex q0
  have h := (prod_top j A q i1 i2 j1 j2).1
  rcases Nat.eq_zero_or_pos j with z | z
  · subst z
    have : q = 1 := by simp at j1 j2; omega
    rw [this, prod_comm, prod_one]
    exact Nat.le_refl _
  · have : 2 ^ (i + 1) ≤ 2 ^ (i + j) := Nat.pow_le_pow_right (by decide) (by omega)
    omega
/-! ### the rows from 1 to 511 -/
def rowsN : List Nat := List.range' 1 511
def dvB (w W : Nat) (n : Nat) : Bool := decide (rem w W n = 0)
theorem mem_rowsN {n : Nat} : n ∈ rowsN ↔ 1 ≤ n ∧ n < 512 := by unfold rowsN; rw [List.mem_range'_1]
def aloneN (wa A wb B : Nat) : List Nat := rowsN.filter fun n => dvB wa A n && !dvB wb B n
theorem alone_nil {wa A wb B : Nat} (CA : Ck wa A) (CB : Ck wb B) (hA : A < 512) (hA1 : 1 ≤ A) : aloneN wa A wb B = [] ↔ Dv B A := by
  unfold aloneN
  rw [List.filter_eq_nil_iff]
  constructor
  · intro h
    have := h A (mem_rowsN.mpr ⟨hA1, hA⟩)
    unfold dvB at this
    rw [rem_self CA] at this
    simp at this
    exact (dv_iff CB).mpr this
  · intro h n hn hx
    unfold dvB at hx
    simp at hx
    exact hx.2 ((dv_iff CB).mp (h.trans ((dv_iff CA).mpr hx.1)))
theorem alone_first {wa A wb B : Nat} (CA : Ck wa A) (CB : Ck wb B) (hA : A < 512) (hA1 : 1 ≤ A) (h : ¬ Dv B A) : ∃ r, aloneN wa A wb B = A :: r := by
  have e : rowsN = List.range' 1 (A - 1) ++ A :: List.range' (A + 1) (511 - A) := by
    unfold rowsN
    have e1 : (511 : Nat) = (A - 1) + (512 - A) := by omega
    rw [e1, ← List.range'_append_1]
    congr 1
    rw [show 1 + (A - 1) = A by omega, show 512 - A = (511 - A) + 1 by omega, List.range'_succ]
    congr 1
    congr 1
    omega
  unfold aloneN
  rw [e, List.filter_append]
  have e2 : (List.range' 1 (A - 1)).filter (fun n => dvB wa A n && !dvB wb B n) = [] := by
    rw [List.filter_eq_nil_iff]
    intro n hn hx
    rw [List.mem_range'_1] at hn
    unfold dvB at hx
    simp at hx
    have := dv_least ((dv_iff CA).mpr hx.1) (by omega)
    omega
  rw [e2, List.nil_append, List.filter_cons, if_pos]
  · exact ⟨_, rfl⟩
  · unfold dvB
    rw [rem_self CA]
    simp
    exact fun z => h ((dv_iff CB).mpr z)
/-! ### the rows with two rests -/
def fitsN (wa A wb B l r i : Nat) : List Nat := (List.range (2 ^ i)).filter fun n => decide (rem wa A n = l) && decide (rem wb B n = r)
theorem filter_one {p : Nat → Bool} {N n : Nat} (hn : n < N) (h : ∀ k, k < N → (p k = true ↔ k = n)) : (List.range N).filter p = [n] := by
  have e : (List.range N).filter p = (List.range N).filter (· == n) := by
    refine List.filter_congr fun k hk => ?_
    have := h k (List.mem_range.mp hk)
    cases c : p k with
    | true => rw [this.mp c]; simp
    | false =>
      have : k ≠ n := fun z => by rw [this.mpr z] at c; cases c
      simp [this]
  rw [e, List.filter_beq]
  have : List.count n (List.range N) = 1 := by rw [List.Nodup.count List.nodup_range, if_pos (List.mem_range.mpr hn)]
  rw [this]
  rfl
theorem fits_none {wa A wb B g l r i : Nat} (CA : Ck wa A) (CB : Ck wb B) (hg : Gcd A B g) (hl : l < 2 ^ wa) (hr : r < 2 ^ wb) (h : ¬ Dv g (l ^^^ r)) : fitsN wa A wb B l r i = [] := by
  unfold fitsN
  rw [List.filter_eq_nil_iff]
  intro n hn hx
  simp at hx
  have h1 := hg.l.trans ((rem_eq_iff CA hl).mp hx.1)
  have h2 := hg.r.trans ((rem_eq_iff CB hr).mp hx.2)
  refine h ?_
  have := h1.xor h2
  rw [show (n ^^^ l) ^^^ (n ^^^ r) = (n ^^^ n) ^^^ (l ^^^ r) by ac_rfl, Nat.xor_self, Nat.zero_xor] at this
  exact this
theorem fits_one {wa A wb B g y l r i n : Nat} (CA : Ck wa A) (CB : Ck wb B) (hg : Gcd A B g) (ey : B = prod g y) (hl : l < 2 ^ wa) (hr : r < 2 ^ wb) (hi : 2 ^ i ≤ prod A y) (hn : n < 2 ^ i) (h1 : Dv A (n ^^^ l)) (h2 : Dv B (n ^^^ r)) : fitsN wa A wb B l r i = [n] := by
  obtain ⟨m, p, P⟩ := pair_ex (ck_ne CA) (ck_ne CB) hg ey
  refine filter_one hn fun k hk => ?_
  constructor
  · intro hx
    simp at hx
    have k1 := ((rem_eq_iff CA hl).mp hx.1).xor h1
    have k2 := ((rem_eq_iff CB hr).mp hx.2).xor h2
    rw [show (k ^^^ l) ^^^ (n ^^^ l) = (k ^^^ n) ^^^ (l ^^^ l) by ac_rfl, Nat.xor_self, Nat.xor_zero] at k1
    rw [show (k ^^^ r) ^^^ (n ^^^ r) = (k ^^^ n) ^^^ (r ^^^ r) by ac_rfl, Nat.xor_self, Nat.xor_zero] at k2
    exact P.uniq hi hk hn k1 k2
  · rintro rfl
    simp
    exact ⟨(rem_eq_iff CA hl).mpr h1, (rem_eq_iff CB hr).mpr h2⟩
end My

namespace My
open PySem PySem.Spec PyProof.Rows L2 Pre
/-- a sum of a degree from 1 to m, odd -/
def IsSum (m i A : Nat) : Prop := 1 ≤ i ∧ i ≤ m ∧ 2 ^ i ≤ A ∧ A < 2 ^ (i + 1) ∧ A % 2 = 1
theorem GenAt.updNe {H : Hp} {g p : Addr} {o : HO} {n : Nat} (h : GenAt H g n) (ne : p ≠ g) : GenAt (L2.upd H p o) g n := by
  obtain ⟨x, y, z, a, b⟩ := h
  exact ⟨x, y, z, by rw [upd_ne ne.symm]; exact a, b⟩
theorem shl1 (k : Nat) : (1 : Int) * 2 ^ ((k : Int)).toNat = ((2 ^ k : Nat) : Int) := by
  rw [Int.one_mul, Int.toNat_natCast, Int.natCast_pow]
  rfl
theorem sum_of_more {m i A : Nat} (h1 : A < 2 ^ (m + 1)) (h2 : A % 2 = 1) (h3 : A ≠ 1) : ∃ i, IsSum m i A := by
  obtain ⟨i, i1, i2⟩ := top_ex (a := A) (by omega)
  refine ⟨i, ?_, ?_, i1, i2, h2⟩
  · rcases Nat.eq_zero_or_pos i with z | z
    · subst z; simp at i2; omega
    · exact z
  · have : i < m + 1 := (Nat.pow_lt_pow_iff_right (by decide)).mp (Nat.lt_of_le_of_lt i1 h1)
    omega
local macro_rules | `(tactic| walk_at "go") => `(tactic| repeat (first | (with_reducible first | refine iteT ?_ | refine iteF ?_ | refine iteNtt ?_ | refine iteNff ?_ | refine iteET (by omega) ?_ | refine iteEF (by omega) ?_ | refine iteENT (by omega) ?_ | refine iteENF (by omega) ?_ | refine iteDT (by omega) ?_ | refine iteDF (by omega) ?_ | refine iteNT (by omega) ?_ | refine iteNF (by omega) ?_) | refine ⟨_, rfl, ?_⟩ | refine ⟨_, _, rfl, rfl, ?_⟩ | refine ⟨_, _, rfl, ?_⟩ | refine ⟨rfl, ?_⟩ | refine .inl ⟨_, rfl, ?_⟩ | refine .inr ⟨_, rfl, ?_⟩))
local macro_rules | `(tactic| walk_at "b") => `(tactic| try dsimp (config := { proj := false, iota := false, eta := false, zeta := false }) only)
section
variable {P : Program} {w : World} {K : PySem.W.Frag} {mg : Str → Option Value} {base : Heap}
def sp_law_drawn_pair : Sp := fun vs H Q _ => ∃ (g : Addr) (n m : Nat), vs = [.ref g, .int m] ∧ GenAt H g n ∧ n ≤ 10 ^ 6 ∧ 2 < m ∧ m ≤ 16 ∧ ∀ (l : Addr) (A B i j : Nat) H', But g H H' → GenAt H' g (n + 1000) → H' l = some (.lst [.int A, .int B]) → IsSum m i A → IsSum m j B → Q (.ref l) H'
theorem G_law_drawn_pair (T : Top K mg) : FnOk P w K mg base CX0 4 T.f_law_drawn_pair T.fd_law_drawn_pair ["_law_generator_here", "_law_most"] sp_law_drawn_pair := by
  refine T.F_law_drawn_pair.ok sc_law_drawn_pair (fun vs H Q E h => by obtain ⟨g, n, m, rfl, _⟩ := h; rfl) (fun cdv A outer s H vs Q E hr h => ?_)
  obtain ⟨g, n, m, rfl, hg, hn, m2, m16, q⟩ := h
  refine ⟨_, PSs.nox (pss_cons (ps_set (i := 2) sc_law_drawn_pair.nd rfl (by first | exact Or.inl rfl | exact Or.inr rfl) pe_int)
  (pss_cons (ps_if (PW.pt (pw_and (pt_cmpR op_gt (pv 1) pe_int (nomark _)) (pw_and1 (pt_cmpR op_gt (pe_call (G_law_random T) (hr.mono (by decide)) (by rfl) T.g_law_random T.F_law_random.kp T.b_law_random .nil pass0 (pa_cons (pv 0) (pa_cons pe_int pa_nil))) pe_int (nomark _)))))
    (pss_cons (ps_set (i := 5) sc_law_drawn_pair.nd rfl (by first | exact Or.inl rfl | exact Or.inr rfl) (pe_op op_add pe_int (pe_call (G_law_random T) (hr.mono (by decide)) (by rfl) T.g_law_random T.F_law_random.kp T.b_law_random .nil pass0 (pa_cons (pv 0) (pa_cons (pe_op op_sub (pv 1) pe_int) pa_nil)))))
  (pss_one (ps_set (i := 2) sc_law_drawn_pair.nd rfl (by first | exact Or.inl rfl | exact Or.inr rfl) (pe_op op_add (pe_op op_shl pe_int (pv 5)) (pe_call (G_law_drawn T) (hr.mono (by decide)) (by rfl) T.g_law_drawn T.F_law_drawn.kp T.b_law_drawn .nil pass0 (pa_cons (pv 0) (pa_cons (pv 5) pa_nil)))))))
    pss_nil)
  (pss_cons (ps_set (i := 3) sc_law_drawn_pair.nd rfl (by first | exact Or.inl rfl | exact Or.inr rfl) (pe_lst pa_nil))
  (pss_cons (ps_for PassesOwn.never rfl (pi_range1 (by rfl) T.n_range (pa_cons pe_int pa_nil)) (pg_name (i := 4) sc_law_drawn_pair.nd rfl (by first | exact Or.inl rfl | exact Or.inr rfl))
    (pss_cons (ps_set (i := 5) sc_law_drawn_pair.nd rfl (by first | exact Or.inl rfl | exact Or.inr rfl) (pe_call (G_law_random T) (hr.mono (by decide)) (by rfl) T.g_law_random T.F_law_random.kp T.b_law_random .nil pass0 (pa_cons (pv 0) (pa_cons (pe_op op_add (pe_op op_sub (pv 1) (pe_bits (pv 2))) pe_int) pa_nil))))
  (pss_cons (ps_set (i := 6) sc_law_drawn_pair.nd rfl (by first | exact Or.inl rfl | exact Or.inr rfl) (pe_ifExp (pt_cmpR op_gt (pv 5) pe_int (nomark _)) (pe_op op_add (pe_op op_shl pe_int (pv 5)) (pe_call (G_law_drawn T) (hr.mono (by decide)) (by rfl) T.g_law_drawn T.F_law_drawn.kp T.b_law_drawn .nil pass0 (pa_cons (pv 0) (pa_cons (pv 5) pa_nil)))) pe_int))
  (pss_one (ps_expr (pe_bm PySem.F.plainAttrs_list PySem.F.slot_list_append PySem.F.type_list_append mt_append (pv 3) (pa_cons (pe_call (G_law_product T) (hr.mono (by decide)) (by rfl) T.g_law_product T.F_law_product.kp T.b_law_product .nil pass0 (pa_cons (pv 2) (pa_cons (pv 6) pa_nil))) pa_nil)))))))
  (pss_one (ps_ret (pe_lc (own := [("_law_number_here", 7)]) (g := gName 7) (tt := tYes) (by rfl) sc_law_drawn_pair.nd (k_piL K rfl (pv 3)) (blkOk_by (own := [("_law_number_here", 7)]) (N := N_law_drawn_pair) (sc := defScope s_law_drawn_pair) (by decide +kernel)) (fun _ _ _ _ _ => (pg_name (i := 7) sc_law_drawn_pair.nd rfl (by first | exact Or.inl rfl | exact Or.inr rfl))) (fun _ _ _ _ _ => pts_nil) (fun _ _ _ _ _ => (pe_ifExp (pt_cmpR op_eq (pv 7) pe_int (nomark _)) pe_int (pv 7)))))))))), ?_⟩
  refine ⟨_, rfl, _, _, rfl, rfl, _, rfl, iteDT (by omega) ?_⟩
  refine ⟨_, rfl, g, 3, n, rfl, hg, by omega, by decide, by decide, fun r1 H1 r10 r11 g1 b1 => ⟨_, _, rfl, rfl, _, rfl, ?_⟩⟩
  walk_at "b"
  refine joinS (fun σ' H' => ∃ (e both : Nat) (v5 : Option V), σ' = [some (.ref g), some (.int m), some (.int both), none, none, v5, none, none] ∧ But g H H' ∧ GenAt H' g (n + 300) ∧ e < m ∧ 2 ^ e ≤ both ∧ both < 2 ^ (e + 1) ∧ both % 2 = 1) (fun σ' H' h => ?_) (fun cc cont => ?_) (fun cc => ?_)
  rotate_left
  · refine ⟨_, rfl, _, rfl, _, _, rfl, rfl, g, _, _, rfl, g1, by omega, by omega, by omega, fun r2 H2 r20 r21 g2 b2 => ⟨_, _, rfl, rfl, ?_⟩⟩
    obtain ⟨e, ee, e1, em⟩ : ∃ e : Nat, 1 + r2 = (e : Int) ∧ 1 ≤ e ∧ e < m := ⟨(1 + r2).toNat, by omega, by omega, by omega⟩
    walk_at "b"
    rw [ee]
    refine ⟨_, rfl, _, _, rfl, rfl, ⟨by omega, by omega, by decide⟩, _, rfl, _, rfl, g, _, e, rfl, g2, by omega, e1, by omega, fun l H3 l1 l2 g3 b3 => ⟨_, _, rfl, rfl, ?_⟩⟩
    walk_at "b"
    rw [shl1]
    have ep : 2 ^ (e + 1) = 2 ^ e * 2 := Nat.pow_succ ..
    have e2 : 2 ^ e = 2 ^ (e - 1) * 2 := by rw [← Nat.pow_succ, show (e - 1).succ = e by omega]
    have ev : ((2 ^ e : Nat) : Int) + (l : Int) = ((2 ^ e + l : Nat) : Int) := by omega
    rw [ev]
    exact cont _ _ ⟨e, 2 ^ e + l, _, rfl, (b1.trans b2).trans b3, g3.mono (by omega), em, by omega, by omega, by omega⟩
  · exact ⟨0, 1, none, rfl, b1, g1.mono (by omega), by omega, by decide, by decide, by decide⟩
  obtain ⟨e, both, v5, rfl, b2, g2, em, h1, h2, h3⟩ := h
  have eb := by_bits h1 h2
  have hbo : both < 2 ^ 20 := Nat.lt_of_lt_of_le h2 (Nat.pow_le_pow_right (by decide) (by omega))
  refine ⟨Nat.zero_le _, fun f nf => ?_⟩
  have hf : H f = none := b2.free (g2.ne nf) nf
  have fg : f ≠ g := g2.ne nf
  refine ⟨_, rfl, by decide, by decide, ?_⟩
  walk_at "b"
  refine for_range (lo := 0) (n := 2) (fun i σ H1 => ∃ (xs : List Nat) (v4 v5 v6 : Option V), σ = [some (.ref g), some (.int m), some (.int both), some (.ref f), v4, v5, v6, none] ∧ But g H H1 ∧ GenAt H1 g (n + 300 + 200 * i) ∧ H1 f = some (.lst ((natI xs).map V.int)) ∧ xs.length = i ∧ ∀ x ∈ xs, x % 2 = 1 ∧ x < 2 ^ (m + 1)) ⟨[], none, v5, none, rfl, ?_, g2.updNe fg, upd_same, rfl, fun x hx => nomatch hx⟩ ?_ ?_
  · intro b o nb hb
    rw [upd_ne (ne_of_none hb hf)]
    exact b2 b o nb hb
  · rintro i σ H3 hi ⟨xs, v4, v5, v6, rfl, b3, g3, hF, hl, hx⟩
    refine ⟨_, rfl, _, rfl, _, rfl, _, rfl, _, _, rfl, rfl, _, _, rfl, rfl, g, _, _, rfl, g3, by omega, by omega, by omega, fun r4 H4 r40 r41 g4 b4 => ?_⟩
    obtain ⟨u, eu, um⟩ : ∃ u : Nat, r4 = (u : Int) ∧ u + e ≤ m := ⟨r4.toNat, by omega, by omega⟩
    subst eu
    have fin : ∀ (mo : Nat) (H5 : Hp), But g H4 H5 → GenAt H5 g (n + 300 + 200 * i + 200) → mo % 2 = 1 → mo < 2 ^ (u + 1) → But g H (upd H5 f (.lst ((natI xs).map V.int ++ [V.int (prod both mo : Nat)]))) ∧ GenAt (upd H5 f (.lst ((natI xs).map V.int ++ [V.int (prod both mo : Nat)]))) g (n + 300 + 200 * (i + 1)) ∧ H5 f = some (.lst ((natI xs).map V.int)) ∧ prod both mo % 2 = 1 ∧ prod both mo < 2 ^ (m + 1) ∧ mo < 2 ^ 1000 ∧ ((natI xs).map V.int).length < sizeLine ∧ (natI xs).map V.int ++ [V.int (prod both mo : Nat)] = (natI (xs ++ [prod both mo])).map V.int := by
      intro mo H5 b5 g5 m1 m2'
      refine ⟨fun b o nb hb => ?_, (g5.mono (by omega)).updNe fg, b5 _ _ fg (b4 _ _ fg hF), prod_odd h3 m1, ?_, Nat.lt_of_lt_of_le m2' (Nat.pow_le_pow_right (by decide) (by omega)), by rw [nat_len, hl]; exact Nat.lt_of_lt_of_le hi (by decide), by unfold natI; simp⟩
      · rw [upd_ne (ne_of_none hb hf)]
        exact b5 _ _ nb (b4 _ _ nb (b3 _ _ nb hb))
      · exact Nat.lt_of_lt_of_le (prod_tight h2 m2') (Nat.pow_le_pow_right (by decide) (by omega))
    refine ⟨_, rfl, _, _, rfl, rfl, _, rfl, ?_⟩
    by_cases c : 0 < u
    · refine iteDT (by omega) ?_
      refine ⟨_, rfl, _, _, rfl, rfl, ⟨by omega, by omega, by decide⟩, _, rfl, _, rfl, g, _, u, rfl, g4, by omega, c, by omega, fun l H5 l1 l2 g5 b5 => ⟨_, _, rfl, rfl, ?_⟩⟩
      walk_at "b"
      rw [shl1]
      have ep : 2 ^ (u + 1) = 2 ^ u * 2 := Nat.pow_succ ..
      have e2 : 2 ^ u = 2 ^ (u - 1) * 2 := by rw [← Nat.pow_succ, show (u - 1).succ = u by omega]
      have ev : ((2 ^ u : Nat) : Int) + (l : Int) = ((2 ^ u + l : Nat) : Int) := by omega
      rw [ev]
      obtain ⟨f1, f2, f3, f4, f5, f6, f7, f8⟩ := fin (2 ^ u + l) H5 b5 (g5.mono (by omega)) (by omega) (by omega)
      refine ⟨_, rfl, .inl ⟨rfl, _, .inl (.inl f3)⟩, _, rfl, _, rfl, both, 2 ^ u + l, rfl, hbo, f6, f, _, _, rfl, rfl, f3, f7, ?_⟩
      exact ⟨xs ++ [prod both (2 ^ u + l)], _, _, _, rfl, f1, f2, by rw [upd_same, f8], by rw [List.length_append, hl]; rfl, fun x hx' => by
        rcases List.mem_append.mp hx' with z | z
        · exact hx x z
        · rw [List.mem_singleton.mp z]; exact ⟨f4, f5⟩⟩
    · refine iteDF (by omega) ?_
      obtain ⟨f1, f2, f3, f4, f5, f6, f7, f8⟩ := fin 1 H4 But.refl (g4.mono (by omega)) (by decide) (by have := Nat.two_pow_pos u; rw [Nat.pow_succ]; omega)
      refine ⟨_, rfl, .inl ⟨rfl, _, .inl (.inl f3)⟩, _, rfl, _, rfl, both, 1, rfl, hbo, f6, f, _, _, rfl, rfl, f3, f7, ?_⟩
      exact ⟨xs ++ [prod both 1], _, _, _, rfl, f1, f2, by rw [upd_same, f8], by rw [List.length_append, hl]; rfl, fun x hx' => by
        rcases List.mem_append.mp hx' with z | z
        · exact hx x z
        · rw [List.mem_singleton.mp z]; exact ⟨f4, f5⟩⟩
  · rintro σ H3 ⟨xs, v4, v5, v6, rfl, b3, g3, hF, hl, hx⟩
    match xs, hl with
    | [x, y], _ =>
      have hx1 := hx x (by simp)
      have hy1 := hx y (by simp)
      have three : ∀ z : Nat, z % 2 = 1 ∧ z < 2 ^ (m + 1) → ∃ z' i, (if z = 1 then 3 else z) = z' ∧ IsSum m i z' := fun z hz => by
        by_cases c : z = 1
        · exact ⟨3, 1, if_pos c, by decide, by omega, by decide, by decide, by decide⟩
        · obtain ⟨i, hi⟩ := sum_of_more (m := m) (i := 0) hz.2 hz.1 c
          exact ⟨z, i, if_neg c, hi⟩
      obtain ⟨x', i, ex, hix⟩ := three x hx1
      obtain ⟨y', j, ey, hjy⟩ := three y hy1
      refine ⟨_, rfl, f, rfl, ⟨_, .inl (.inl hF)⟩, fun D nD => ?_⟩
      refine lc_mapL (K := K) (xs := (natI [x, y]).map V.int) [V.int (x' : Nat), V.int (y' : Nat)] nD (.inl (.inl hF)) rfl (show 2 < sizeLine by decide) (fun x => rfl) ?_ ?_
      · intro i z u H' hz hu s Qt qt
        have one : ∀ z z' : Nat, (if z = 1 then 3 else z) = z' → z % 2 = 1 ∧ z < 2 ^ (m + 1) → ((z : Int) = 1 ∧ (z' : Int) = 3) ∨ (¬ (z : Int) = 1 ∧ (z' : Int) = (z : Int)) := fun z z' ez _ => by
          by_cases c : z = 1
          · rw [if_pos c] at ez; exact .inl (by omega)
          · rw [if_neg c] at ez; exact .inr (by omega)
        match i, hz, hu with
        | 0, hz, hu =>
          cases hz
          cases hu
          refine ⟨_, rfl, rfl, _, rfl, ?_⟩
          rcases one x x' ex hx1 with ⟨a, b⟩ | ⟨a, b⟩
          · rw [b] at qt; exact iteET a (qt _ (Same.refl _))
          · rw [b] at qt; exact iteEF a ⟨_, rfl, qt _ (Same.refl _)⟩
        | 1, hz, hu =>
          cases hz
          cases hu
          refine ⟨_, rfl, rfl, _, rfl, ?_⟩
          rcases one y y' ey hy1 with ⟨a, b⟩ | ⟨a, b⟩
          · rw [b] at qt; exact iteET a (qt _ (Same.refl _))
          · rw [b] at qt; exact iteEF a ⟨_, rfl, qt _ (Same.refl _)⟩
      · intro H4 s4 hD
        refine q D x' y' i j H4 (b3.same s4) ((g3.same s4).mono (by omega)) hD hix hjy
end
end My

namespace My
open PySem PySem.Spec PyProof.Rows L2 Pre
theorem k_inNat (p : Nat) (ts : List Nat) : inV (.int (p : Int)) ((natI ts).map V.int) = decide (p ∈ ts) := by
  unfold inV natI
  induction ts with
  | nil => rfl
  | cons t r ih =>
    rw [List.map_cons, List.map_cons, List.any_cons, ih]
    show (((t : Int) == (p : Int)) || decide (p ∈ r)) = decide (p ∈ t :: r)
    by_cases h : t = p
    · subst h; simp
    · have h1 : ¬ (t : Int) = p := by omega
      have h2 : ¬ p = t := fun z => h z.symm
      simp [h1, h2]
theorem in_nat (p : Nat) (ts : List Nat) : (if false = true then !inV (.int (p : Int)) ((natI ts).map V.int) else inV (.int (p : Int)) ((natI ts).map V.int)) = decide (p ∈ ts) := by rw [if_neg (by decide), k_inNat]
theorem flat_nat (ts : List Nat) : ((natI ts).map V.int).all flatV = true := by
  unfold natI
  induction ts with
  | nil => rfl
  | cons t r ih =>
    rw [List.map_cons, List.map_cons, List.all_cons, ih]
    rfl
theorem sel_filter (ns : List Nat) (p : Nat → Bool) : (ns.map fun n => if p n = true then some (V.int (n : Int)) else none).filterMap id = (natI (ns.filter p)).map V.int := by
  unfold natI
  induction ns with
  | nil => rfl
  | cons n r ih =>
    rw [List.map_cons, List.filter_cons]
    by_cases c : p n = true
    · rw [if_pos c, if_pos c]
      show V.int (n : Int) :: _ = _
      rw [ih]
      rfl
    · rw [if_neg c, if_neg c]
      show _ = _
      rw [← ih]
      rfl
/-- a comprehension that takes some numbers of a list -/
theorem lc_filtL {K : PySem.W.Frag} {a : Addr} {j : Nat} {tt : TT} {te : TE} {vs : List Nat} {σ : L2.St} {H1 : Hp} {D : Addr} {Qd : Hp → Prop} (ns : List Nat) (p : Nat → Bool) (nD : H1 D = none) (hS : SqL K H1 a ((natI ns).map V.int)) (hz : ns.length < sizeLine)
    (hw : ∀ x, wipe ((wipe σ vs).set j (some x)) vs = wipe σ vs)
    (hs : ∀ (n : Nat) (H' : Hp), n ∈ ns → Same H1 H' → ∀ Qt : Option V → Hp → Prop, (∀ H'', Same H' H'' → Qt (if p n = true then some (V.int (n : Int)) else none) H'') →
      tt ((wipe σ vs).set j (some (V.int (n : Int)))) H' fun b H3 => if b = true then te ((wipe σ vs).set j (some (V.int (n : Int)))) H3 fun y H4 => Qt (some y) H4 else Qt none H3)
    (hd : ∀ H', Same H1 H' → H' D = some (.lst ((natI (ns.filter p)).map V.int)) → Qd H') :
    ∃ W : Nat → Nat → Hp → Prop, (∃ m, W 0 m (upd H1 D (.lst []))) ∧ ∀ i m H, W i m H →
      ((Itl K a).stop i H ∧ Qd H) ∨ ((Itl K a).go i H ∧ ∃ Nx : Hp → Prop, (∀ H', Nx H' → ∃ m', m' < m ∧ W (i + 1) m' H') ∧ ∀ x H', (Itl K a).yld i H x H' → gName j x (wipe σ vs) H' fun σ2 H2 => wipe σ2 vs = wipe σ vs ∧ tt σ2 H2 fun b H3 =>
        if b = true then te σ2 H3 fun y H4 => ∃ acc, H4 D = some (.lst acc) ∧ acc.length < sizeLine ∧ Nx (upd H4 D (.lst (acc ++ [y]))) else Nx H3) := by
  refine lc_selL (K := K) (a := a) (xs := (natI ns).map V.int) (ns.map fun n => if p n = true then some (V.int (n : Int)) else none) nD hS (by rw [nat_len, List.length_map]) (by rw [nat_len]; exact hz) hw ?_ ?_
  · intro i x o H' hx ho s Qt qt
    obtain ⟨n, hn, rfl⟩ := nat_at hx
    rw [List.getElem?_map, hn] at ho
    cases ho
    exact hs n H' (List.mem_of_getElem? hn) s Qt qt
  · intro H' s hD
    rw [sel_filter] at hD
    exact hd H' s hD
theorem lc_filtR {n : Nat} {j : Nat} {tt : TT} {te : TE} {vs : List Nat} {σ : L2.St} {H1 : Hp} {D : Addr} {Qd : Hp → Prop} (p : Nat → Bool) (nD : H1 D = none) (hz : n < sizeLine)
    (hw : ∀ x, wipe ((wipe σ vs).set j (some x)) vs = wipe σ vs)
    (hs : ∀ (k : Nat) (H' : Hp), k < n → Same H1 H' → ∀ Qt : Option V → Hp → Prop, (∀ H'', Same H' H'' → Qt (if p k = true then some (V.int (k : Int)) else none) H'') →
      tt ((wipe σ vs).set j (some (V.int (k : Int)))) H' fun b H3 => if b = true then te ((wipe σ vs).set j (some (V.int (k : Int)))) H3 fun y H4 => Qt (some y) H4 else Qt none H3)
    (hd : ∀ H', Same H1 H' → H' D = some (.lst ((natI ((List.range n).filter p)).map V.int)) → Qd H') :
    ∃ W : Nat → Nat → Hp → Prop, (∃ m, W 0 m (upd H1 D (.lst []))) ∧ ∀ i m H, W i m H →
      ((Itr 0 n).stop i H ∧ Qd H) ∨ ((Itr 0 n).go i H ∧ ∃ Nx : Hp → Prop, (∀ H', Nx H' → ∃ m', m' < m ∧ W (i + 1) m' H') ∧ ∀ x H', (Itr 0 n).yld i H x H' → gName j x (wipe σ vs) H' fun σ2 H2 => wipe σ2 vs = wipe σ vs ∧ tt σ2 H2 fun b H3 =>
        if b = true then te σ2 H3 fun y H4 => ∃ acc, H4 D = some (.lst acc) ∧ acc.length < sizeLine ∧ Nx (upd H4 D (.lst (acc ++ [y]))) else Nx H3) := by
  refine lc_selR (lo := 0) (n := n) ((List.range n).map fun n => if p n = true then some (V.int (n : Int)) else none) nD (by rw [List.length_map, List.length_range]) hz hw ?_ ?_
  · intro i o H' hi ho s Qt qt
    rw [List.getElem?_map, List.getElem?_range hi] at ho
    cases ho
    rw [show (0 : Int) + (i : Int) = (i : Int) by omega]
    exact hs i H' hi s Qt qt
  · intro H' s hD
    rw [sel_filter] at hD
    exact hd H' s hD
theorem rg_rows : L2.rgV 1 512 = (natI rowsN).map V.int := by
  unfold L2.rgV natI rowsN
  rw [List.range'_eq_map_range, List.map_map, List.map_map]
  refine List.map_congr_left fun i _ => ?_
  show V.int (1 + (i : Int)) = V.int ((1 + i : Nat) : Int)
  congr 1
/-- a list compared with the empty one -/
theorem nil_nat (ts : List Nat) : decide (natI ts = []) = decide (ts = []) := by
  unfold natI
  cases ts <;> simp
theorem dt_bools {K : PySem.W.Frag} {H : Hp} : ∀ bs : List Bool, DpAll K H (bs.map V.bl) (bs.map PyData.bool)
  | [] => .nil
  | b :: r => .cons (.bl b) (dt_bools r)
theorem eqv_bools : ∀ ns : List Bool, PyData.eqvAll (ns.map PyData.bool) (ns.map PyData.bool) = true
  | [] => rfl
  | n :: r => by
    show (PyData.eqv (.bool n) (.bool n) && PyData.eqvAll (r.map PyData.bool) (r.map PyData.bool)) = true
    rw [eqv_bools r]
    cases n <;> rfl
theorem shaped_bools (ns : List Bool) : SeqAt.shaped (.list (ns.map PyData.bool)) = true := by
  have h1 : PyData.canLayAll0 (ns.map PyData.bool) = true := by
    induction ns with
    | nil => rfl
    | cons n r ih =>
      show (PyData.canLay0 (.bool n) && PyData.canLayAll0 (r.map PyData.bool)) = true
      rw [ih]
      rfl
  have h2 : PyData.depthAll (ns.map PyData.bool) = 0 := by
    clear h1
    induction ns with
    | nil => simp [PyData.depthAll]
    | cons n r ih =>
      show PyData.depthAll (.bool n :: r.map PyData.bool) = 0
      rw [PyData.depthAll, ih]
      simp [PyData.depth]
  unfold SeqAt.shaped
  rw [PyData.canLay0, h1, PyData.depth, h2]
  rfl
theorem ne_bools {K : PySem.W.Frag} {H : Hp} {a b : Addr} {ns : List Bool} {Q : V → Hp → Prop} (ha : SqL K H a (ns.map V.bl)) (hb : SqL K H b (ns.map V.bl)) (q : Q (.bl false) H) : rNeD K (.ref a) (.ref b) H Q := by
  refine ⟨.list (ns.map PyData.bool), .list (ns.map PyData.bool), .lst ha (dt_bools ns), .lst hb (dt_bools ns), shaped_bools ns, shaped_bools ns, ?_⟩
  rw [PyData.eqv, eqv_bools]
  exact q
end My

namespace My
open PySem PySem.Spec PyProof.Rows L2 Pre
theorem restB_bits {w W n k : Nat} (h : n < 2 ^ k) : restB w W (bitsB n k) = rem w W n := by
  rw [restB_eq, numB_bits, Nat.mod_eq_of_lt h]
theorem shown_bool (b : Bool) : decide (V.str (PyData.bool b).shown = V.str (PyData.bool b).shown) = true := decide_eq_true rfl
theorem restate {R : L2.St → Hp → Prop} {σ : L2.St} {H : Hp} (σ' : L2.St) (e : σ = σ') (h : R σ' H) : R σ H := by rw [e]; exact h
local macro_rules | `(tactic| walk_at "go") => `(tactic| repeat (first | (with_reducible first | refine iteT ?_ | refine iteF ?_ | refine iteNtt ?_ | refine iteNff ?_ | refine iteET (by omega) ?_ | refine iteEF (by omega) ?_ | refine iteENT (by omega) ?_ | refine iteENF (by omega) ?_ | refine iteDT (by omega) ?_ | refine iteDF (by omega) ?_ | refine iteNT (by omega) ?_ | refine iteNF (by omega) ?_) | refine ⟨_, rfl, ?_⟩ | refine ⟨_, _, rfl, rfl, ?_⟩ | refine ⟨_, _, rfl, ?_⟩ | refine ⟨rfl, ?_⟩ | refine .inl ⟨_, rfl, ?_⟩ | refine .inr ⟨_, rfl, ?_⟩))
local macro_rules | `(tactic| walk_at "b") => `(tactic| try dsimp (config := { proj := false, iota := false, eta := false, zeta := false }) only)
section
variable {P : Program} {w : World} {K : PySem.W.Frag} {mg : Str → Option Value} {base : Heap}
def sp_law_all_right : Sp := fun vs H Q _ => ∃ (g : Addr) (n A B i j : Nat), vs = [.ref g, .int A, .int B] ∧ GenAt H g n ∧ n ≤ 10 ^ 6 ∧ IsSum 4 i A ∧ IsSum 4 j B ∧ ∀ H', But g H H' → GenAt H' g (n + 1000) → Q (.bl true) H'
theorem G_law_all_right (T : Top K mg) : FnG P w K mg base CX0 8 T.f_law_all_right T.fd_law_all_right ["_law_generator_here", "_law_mine", "_law_yours"] sp_law_all_right := by
  refine FnG.body T.F_law_all_right sc_law_all_right (fun vs H Q E h => by obtain ⟨g, n, A, B, i, j, rfl, _⟩ := h; rfl) (fun cdv A outer s H vs Q E gd hr h => ?_)
  obtain ⟨g, n, A, B, i, j, rfl, hg, hn, hA, hB, q⟩ := h
  refine ⟨_, PSs.nox (pss_cons (ps_par (by rfl) sc_law_all_right.nd (i := 11) (j := 12) rfl rfl (by decide) rfl rfl (pa_cons (pe_call (G_law_check_of T) (hr.mono (by decide)) (by rfl) T.g_law_check_of T.F_law_check_of.kp T.b_law_check_of .nil pass0 (pa_cons (pv 1) pa_nil)) (pa_cons (pe_call (G_law_check_of T) (hr.mono (by decide)) (by rfl) T.g_law_check_of T.F_law_check_of.kp T.b_law_check_of .nil pass0 (pa_cons (pv 2) pa_nil)) pa_nil)) (by rfl))
  (pss_cons (ps_set (i := 3) sc_law_all_right.nd rfl (by first | exact Or.inl rfl | exact Or.inr rfl) (pe_listRg rfl (by rfl) T.n_list (prg_2 (by rfl) T.n_range pe_int pe_int)))
  (pss_cons (ps_set (i := 4) sc_law_all_right.nd rfl (Or.inr rfl) (pe_lc (own := [("_law_row", 16)]) (g := gName 16) (by rfl) sc_law_all_right.nd (k_piL K rfl (pv 3)) (blkOk_by (own := [("_law_row", 16)]) (N := N_law_all_right) (sc := defScope s_law_all_right) (by decide +kernel)) (fun _ _ _ _ _ => (pg_name (i := 16) sc_law_all_right.nd rfl (by first | exact Or.inl rfl | exact Or.inr rfl))) (fun _ _ _ _ _ => (pts_one (pt_cmpR op_eq (pe_call (G_law_rest T) (hr.mono (by decide)) (by rfl) T.g_law_rest T.F_law_rest.kp T.b_law_rest .nil pass0 (pa_cons (pv 1) (pa_cons (pv 16) pa_nil))) pe_int (nomark _)))) (fun _ _ _ _ _ => (pv 16))))
  (pss_cons (ps_set (i := 5) sc_law_all_right.nd rfl (Or.inr rfl) (pe_lc (own := [("_law_row", 16)]) (g := gName 16) (by rfl) sc_law_all_right.nd (k_piL K rfl (pv 3)) (blkOk_by (own := [("_law_row", 16)]) (N := N_law_all_right) (sc := defScope s_law_all_right) (by decide +kernel)) (fun _ _ _ _ _ => (pg_name (i := 16) sc_law_all_right.nd rfl (by first | exact Or.inl rfl | exact Or.inr rfl))) (fun _ _ _ _ _ => (pts_one (pt_cmpR op_eq (pe_call (G_law_rest T) (hr.mono (by decide)) (by rfl) T.g_law_rest T.F_law_rest.kp T.b_law_rest .nil pass0 (pa_cons (pv 2) (pa_cons (pv 16) pa_nil))) pe_int (nomark _)))) (fun _ _ _ _ _ => (pv 16))))
  (pss_cons (ps_setLc (i := 6) (own := [("_law_row", 16)]) (g := gName 16) (by rfl) sc_law_all_right.nd rfl rfl (sw_true rfl rfl rfl (by decide +kernel)) (k_piL K rfl (pv 4)) (blkOk_by (own := [("_law_row", 16)]) (N := N_law_all_right) (sc := defScope s_law_all_right) (by decide +kernel)) (fun _ _ _ _ _ => (pg_name (i := 16) sc_law_all_right.nd rfl (by first | exact Or.inl rfl | exact Or.inr rfl))) (fun _ _ _ _ _ => (pts_one (pt_cmpR (k_notIn K rfl) (pv 16) (pv 5) (by rfl)))) (fun _ _ _ _ _ => (pv 16)))
  (pss_cons (ps_if (pt_cmpR op_ne (pe_callB (k_repr K rfl gd (hu65 hr)) (by rfl) T.n_repr (by decide +kernel) (pa_cons (pe_call (G_also_right T) (hr.mono (by decide)) (by rfl) T.g_also_right T.F_also_right.kp T.b_also_right .nil pass0 (pa_cons (pv 11) (pa_cons (pv 12) pa_nil))) pa_nil)) (pe_callB (k_repr K rfl gd (hu65 hr)) (by rfl) T.n_repr (by decide +kernel) (pa_cons (pe_cmpR (k_eqD K rfl hr.units) (pv 6) (pe_lst pa_nil) (nomark _)) pa_nil)) (nomark _))
    (pss_one (ps_ret pe_bl))
    pss_nil)
  (pss_cons (ps_set (i := 7) sc_law_all_right.nd rfl (by first | exact Or.inl rfl | exact Or.inr rfl) (pe_ix (k_ixL K rfl) (pe_lst (pa_cons pe_non (pa_cons (pe_call (G_law_bits T) (hr.mono (by decide)) (by rfl) T.g_law_bits T.F_law_bits.kp T.b_law_bits .nil pass0 (pa_cons (pe_ix (k_ixL K rfl) (pe_op op_cat (pv 6) (pe_lst (pa_cons pe_int pa_nil))) pe_int (fun _ _ => rfl)) (pa_cons (pe_bits (pe_ix (k_ixL K rfl) (pe_op op_cat (pv 6) (pe_lst (pa_cons pe_int pa_nil))) pe_int (fun _ _ => rfl))) pa_nil))) pa_nil))) (pe_callTy call_int1 (by rfl) T.n_int (by decide +kernel) (pa_cons (pe_cmpR (k_neD K rfl hr.units) (pv 6) (pe_lst pa_nil) (nomark _)) pa_nil)) (fun _ _ => rfl)))
  (pss_cons (ps_if (pt_cmpR op_ne (pe_call (G_parted_bits T) (hr.mono (by decide)) (by rfl) T.g_parted_bits T.F_parted_bits.kp T.b_parted_bits .nil pass0 (pa_cons (pv 11) (pa_cons (pv 12) pa_nil))) (pv 7) (nomark _))
    (pss_one (ps_ret pe_bl))
    pss_nil)
  (pss_cons (ps_asg (pe_tup (pa_cons (pe_call (G_together T) (hr.mono (by decide)) (by rfl) T.g_together T.F_together.kp T.b_together .nil pass0 (pa_cons (pv 11) (pa_cons (pv 12) pa_nil))) (pa_cons (pe_call (G_shared T) (hr.mono (by decide)) (by rfl) T.g_shared T.F_shared.kp T.b_shared .nil pass0 (pa_cons (pv 11) (pa_cons (pv 12) pa_nil))) pa_nil))) (k_pgT K rfl (by rfl) (pgs_cons (pg_name (i := 13) sc_law_all_right.nd rfl (by first | exact Or.inl rfl | exact Or.inr rfl)) (pgs_cons (pg_name (i := 14) sc_law_all_right.nd rfl (by first | exact Or.inl rfl | exact Or.inr rfl)) pgs_nil))))
  (pss_cons (ps_if (pt_cmpR (k_neD K rfl hr.units) (pe_lc (own := [("_law_row", 16)]) (g := gName 16) (tt := tYes) (by rfl) sc_law_all_right.nd (k_piL K rfl (pv 3)) (blkOk_by (own := [("_law_row", 16)]) (N := N_law_all_right) (sc := defScope s_law_all_right) (by decide +kernel)) (fun _ _ _ _ _ => (pg_name (i := 16) sc_law_all_right.nd rfl (by first | exact Or.inl rfl | exact Or.inr rfl))) (fun _ _ _ _ _ => pts_nil) (fun _ _ _ _ _ => (pe_call (G_is_right T) (hr.mono (by decide)) (by rfl) T.g_is_right T.F_is_right.kp T.b_is_right .nil pass0 (pa_cons (pv 13) (pa_cons (pe_call (G_law_bits T) (hr.mono (by decide)) (by rfl) T.g_law_bits T.F_law_bits.kp T.b_law_bits .nil pass0 (pa_cons (pv 16) (pa_cons pe_int pa_nil))) pa_nil))))) (pe_lc (own := [("_law_row", 16)]) (g := gName 16) (tt := tYes) (by rfl) sc_law_all_right.nd (k_piL K rfl (pv 3)) (blkOk_by (own := [("_law_row", 16)]) (N := N_law_all_right) (sc := defScope s_law_all_right) (by decide +kernel)) (fun _ _ _ _ _ => (pg_name (i := 16) sc_law_all_right.nd rfl (by first | exact Or.inl rfl | exact Or.inr rfl))) (fun _ _ _ _ _ => pts_nil) (fun _ _ _ _ _ => (pe_and (pe_cmpR (k_in K rfl) (pv 16) (pv 4) (by rfl)) (pe_one (pe_cmpR (k_in K rfl) (pv 16) (pv 5) (by rfl)))))) (nomark _))
    (pss_one (ps_ret pe_bl))
    pss_nil)
  (pss_cons (ps_if (PW.pt (pw_and (pt_cmpR op_notN (pv 14) pe_non (nomark _)) (pw_and1 (pt_cmpR (k_neD K rfl hr.units) (pe_lc (own := [("_law_row", 16)]) (g := gName 16) (by rfl) sc_law_all_right.nd (k_piL K rfl (pe_op op_cat (pv 4) (pv 5))) (blkOk_by (own := [("_law_row", 16)]) (N := N_law_all_right) (sc := defScope s_law_all_right) (by decide +kernel)) (fun _ _ _ _ _ => (pg_name (i := 16) sc_law_all_right.nd rfl (by first | exact Or.inl rfl | exact Or.inr rfl))) (fun _ _ _ _ _ => (pts_one (pt_not (pt_val (pe_call (G_is_right T) (hr.mono (by decide)) (by rfl) T.g_is_right T.F_is_right.kp T.b_is_right .nil pass0 (pa_cons (pv 14) (pa_cons (pe_call (G_law_bits T) (hr.mono (by decide)) (by rfl) T.g_law_bits T.F_law_bits.kp T.b_law_bits .nil pass0 (pa_cons (pv 16) (pa_cons pe_int pa_nil))) pa_nil))))))) (fun _ _ _ _ _ => (pv 16))) (pe_lst pa_nil) (nomark _)))))
    (pss_one (ps_ret pe_bl))
    pss_nil)
  (pss_cons (ps_set (i := 8) sc_law_all_right.nd rfl (by first | exact Or.inl rfl | exact Or.inr rfl) (pe_call (G_law_common T) (hr.mono (by decide)) (by rfl) T.g_law_common T.F_law_common.kp T.b_law_common .nil pass0 (pa_cons (pv 1) (pa_cons (pv 2) pa_nil))))
  (pss_cons (ps_if (PW.pt (pw_or (pt_cmpR op_ne (pe_cmpR op_isN (pv 14) pe_non (nomark _)) (pe_cmpR op_eq (pv 8) pe_int (nomark _)) (nomark _)) (pw_or1 (PW.pt (pw_and (pt_cmpR op_notN (pv 14) pe_non (nomark _)) (pw_and1 (pt_not (pt_cmpR (op_own_eq T.ec_Check (G_Check___eq__ T) (hr.mono (by decide)) T.b_Check___eq__ pass0) (pv 14) (pe_call (G_law_check_of T) (hr.mono (by decide)) (by rfl) T.g_law_check_of T.F_law_check_of.kp T.b_law_check_of .nil pass0 (pa_cons (pv 8) pa_nil)) (nomark _)))))))))
    (pss_one (ps_ret pe_bl))
    pss_nil)
  (pss_cons (ps_set (i := 9) sc_law_all_right.nd rfl (by first | exact Or.inl rfl | exact Or.inr rfl) (pe_prop (pv 13) T.cl_Check T.po_Check_width (G_Check_width T) (hr.mono (by decide)) T.bp_Check_width .nil pass0 rfl))
  (pss_cons (ps_for PassesOwn.never rfl (pi_range1 (by rfl) T.n_range (pa_cons pe_int pa_nil)) (pg_name (i := 10) sc_law_all_right.nd rfl (by first | exact Or.inl rfl | exact Or.inr rfl))
    (pss_cons (ps_asg (pe_tup (pa_cons (pe_call (G_law_random T) (hr.mono (by decide)) (by rfl) T.g_law_random T.F_law_random.kp T.b_law_random .nil pass0 (pa_cons (pv 0) (pa_cons (pe_op op_shl pe_int (pe_prop (pv 11) T.cl_Check T.po_Check_width (G_Check_width T) (hr.mono (by decide)) T.bp_Check_width .nil pass0 rfl)) pa_nil))) (pa_cons (pe_call (G_law_random T) (hr.mono (by decide)) (by rfl) T.g_law_random T.F_law_random.kp T.b_law_random .nil pass0 (pa_cons (pv 0) (pa_cons (pe_op op_shl pe_int (pe_prop (pv 12) T.cl_Check T.po_Check_width (G_Check_width T) (hr.mono (by decide)) T.bp_Check_width .nil pass0 rfl)) pa_nil))) pa_nil))) (k_pgT K rfl (by rfl) (pgs_cons (pg_name (i := 17) sc_law_all_right.nd rfl (by first | exact Or.inl rfl | exact Or.inr rfl)) (pgs_cons (pg_name (i := 18) sc_law_all_right.nd rfl (by first | exact Or.inl rfl | exact Or.inr rfl)) pgs_nil))))
  (pss_cons (ps_setLc (i := 15) (own := [("_law_row", 16)]) (g := gName 16) (by rfl) sc_law_all_right.nd rfl rfl (sw_true rfl rfl rfl (by decide +kernel)) (pi_range1 (by rfl) T.n_range (pa_cons (pe_op op_shl pe_int (pv 9)) pa_nil)) (blkOk_by (own := [("_law_row", 16)]) (N := N_law_all_right) (sc := defScope s_law_all_right) (by decide +kernel)) (fun _ _ _ _ _ => (pg_name (i := 16) sc_law_all_right.nd rfl (by first | exact Or.inl rfl | exact Or.inr rfl))) (fun _ _ _ _ _ => (pts_one (PW.pt (pw_and (pt_cmpR op_eq (pe_call (G_law_rest T) (hr.mono (by decide)) (by rfl) T.g_law_rest T.F_law_rest.kp T.b_law_rest .nil pass0 (pa_cons (pv 1) (pa_cons (pv 16) pa_nil))) (pv 17) (nomark _)) (pw_and1 (pt_cmpR op_eq (pe_call (G_law_rest T) (hr.mono (by decide)) (by rfl) T.g_law_rest T.F_law_rest.kp T.b_law_rest .nil pass0 (pa_cons (pv 2) (pa_cons (pv 16) pa_nil))) (pv 18) (nomark _))))))) (fun _ _ _ _ _ => (pv 16)))
  (pss_one (ps_if (pt_cmpR (k_neD K rfl hr.units) (pe_lst (pa_cons (pe_call (G_bits_with T) (hr.mono (by decide)) (by rfl) T.g_bits_with T.F_bits_with.kp T.b_bits_with .nil pass0 (pa_cons (pv 11) (pa_cons (pv 12) (pa_cons (pv 17) (pa_cons (pv 18) pa_nil))))) pa_nil)) (pe_op op_cat (pe_op op_rep (pe_lst (pa_cons pe_non pa_nil)) (pe_callTy call_int1 (by rfl) T.n_int (by decide +kernel) (pa_cons (pe_cmpR (k_eqD K rfl hr.units) (pv 15) (pe_lst pa_nil) (nomark _)) pa_nil))) (pe_lc (own := [("_law_row", 16)]) (g := gName 16) (tt := tYes) (by rfl) sc_law_all_right.nd (k_piL K rfl (pv 15)) (blkOk_by (own := [("_law_row", 16)]) (N := N_law_all_right) (sc := defScope s_law_all_right) (by decide +kernel)) (fun _ _ _ _ _ => (pg_name (i := 16) sc_law_all_right.nd rfl (by first | exact Or.inl rfl | exact Or.inr rfl))) (fun _ _ _ _ _ => pts_nil) (fun _ _ _ _ _ => (pe_call (G_law_bits T) (hr.mono (by decide)) (by rfl) T.g_law_bits T.F_law_bits.kp T.b_law_bits .nil pass0 (pa_cons (pv 16) (pa_cons (pv 9) pa_nil)))))) (nomark _))
    (pss_one (ps_ret pe_bl))
    pss_nil)))))
  (pss_one (ps_ret pe_bl))))))))))))))))), ?_⟩
  obtain ⟨hA0, hA1, hA2, hA3, hA4⟩ := hA
  obtain ⟨hB0, hB1, hB2, hB3, hB4⟩ := hB
  have A32 : A < 2 ^ 5 := Nat.lt_of_lt_of_le hA3 (Nat.pow_le_pow_right (by decide) (by omega))
  have B32 : B < 2 ^ 5 := Nat.lt_of_lt_of_le hB3 (Nat.pow_le_pow_right (by decide) (by omega))
  have A2 : 1 ≤ A := by omega
  have B2 : 1 ≤ B := by omega
  have t32 : (2 : Nat) ^ 5 = 32 := by decide
  -- the checks
  refine ⟨_, rfl, A, i, rfl, hA2, hA3, hA0, by omega, hA4, fun a H1 s1 na cA => ?_⟩
  refine ⟨_, rfl, B, j, rfl, hB2, hB3, hB0, by omega, hB4, fun b H2 s2 nb cB => ⟨_, _, rfl, ?_⟩⟩
  have cA2 := cA.same s2
  have CA := cA.1
  have CB := cB.1
  have b02 : Same H H2 := s1.trans s2
  -- the rows
  refine ⟨_, _, rfl, rfl, RgOk.of_le (by decide) (by decide) (by decide) (by decide), fun p np => ?_⟩
  rw [rg_rows]
  obtain ⟨H3, e3, s3, h3⟩ := fresh (.lst ((natI rowsN).map V.int)) np
  rw [e3]
  have hlr : rowsN.length < sizeLine := by unfold rowsN; rw [List.length_range']; decide
  -- here
  refine ⟨_, rfl, p, rfl, ⟨_, .inl (.inl h3)⟩, fun D4 nD4 => ?_⟩
  refine lc_filtL rowsN (dvB i A) nD4 (.inl (.inl h3)) hlr ?_ ?_ ?_
  · exact fun x => rfl
  · intro k H' hk s Qt qt
    have hk2 := mem_rowsN.mp hk
    refine ⟨_, rfl, _, rfl, k, A, rfl, by omega, Nat.lt_of_lt_of_le (show k < 2 ^ 9 by omega) (Nat.pow_le_pow_right (by decide) (by decide)), pow40 A32 (by decide), fun f r hP => ⟨rfl, _, rfl, ?_⟩⟩
    rw [parts_rem CA hP]
    have e : decide (V.int ((rem i A k : Nat) : Int) = V.int 0) = dvB i A k := dec_nat _ 0
    rw [e]
    have qt := qt _ (Same.refl _)
    cases c : dvB i A k with
    | true => rw [c] at qt; exact iteT ⟨_, rfl, qt⟩
    | false => rw [c] at qt; exact iteF qt
  intro H4 s4 h4
  -- there
  refine ⟨_, rfl, p, rfl, ⟨_, .inl (.inl (s4 _ _ h3))⟩, fun D5 nD5 => ?_⟩
  refine lc_filtL rowsN (dvB j B) nD5 (.inl (.inl (s4 _ _ h3))) hlr ?_ ?_ ?_
  · exact fun x => rfl
  · intro k H' hk s Qt qt
    have hk2 := mem_rowsN.mp hk
    refine ⟨_, rfl, _, rfl, k, B, rfl, by omega, Nat.lt_of_lt_of_le (show k < 2 ^ 9 by omega) (Nat.pow_le_pow_right (by decide) (by decide)), pow40 B32 (by decide), fun f r hP => ⟨rfl, _, rfl, ?_⟩⟩
    rw [parts_rem CB hP]
    have e : decide (V.int ((rem j B k : Nat) : Int) = V.int 0) = dvB j B k := dec_nat _ 0
    rw [e]
    have qt := qt _ (Same.refl _)
    cases c : dvB j B k with
    | true => rw [c] at qt; exact iteT ⟨_, rfl, qt⟩
    | false => rw [c] at qt; exact iteF qt
  intro H5 s5 h5
  have h4' := s5 _ _ h4
  have lh : (rowsN.filter (dvB i A)).length < sizeLine := Nat.lt_of_le_of_lt (List.length_filter_le _ _) hlr
  have memt : ∀ k ∈ rowsN, (decide (k ∈ rowsN.filter (dvB j B))) = dvB j B k := fun k hk => by
    cases c : dvB j B k with
    | true => exact decide_eq_true (List.mem_filter.mpr ⟨hk, c⟩)
    | false => exact decide_eq_false (fun z => by have := (List.mem_filter.mp z).2; rw [c] at this; cases this)
  have memh : ∀ k ∈ rowsN, (decide (k ∈ rowsN.filter (dvB i A))) = dvB i A k := fun k hk => by
    cases c : dvB i A k with
    | true => exact decide_eq_true (List.mem_filter.mpr ⟨hk, c⟩)
    | false => exact decide_eq_false (fun z => by have := (List.mem_filter.mp z).2; rw [c] at this; cases this)
  -- alone
  refine ⟨_, rfl, D4, rfl, ⟨_, .inl (.inl h4')⟩, fun D6 nD6 => ?_⟩
  refine lc_filtL (rowsN.filter (dvB i A)) (fun k => !dvB j B k) nD6 (.inl (.inl h4')) lh ?_ ?_ ?_
  · exact fun x => rfl
  · intro k H' hk s Qt qt
    have hk2 := (List.mem_filter.mp hk).1
    refine ⟨_, rfl, _, rfl, D5, _, rfl, .inl (.inl (.inl (s _ _ h5))), rfl, flat_nat _, _, rfl, ?_⟩
    rw [if_pos rfl, k_inNat, memt k hk2]
    have qt := qt _ (Same.refl _)
    cases c : dvB j B k with
    | true => rw [c] at qt; exact iteF qt
    | false => rw [c] at qt; exact iteT ⟨_, rfl, qt⟩
  intro H6 s6 h6
  have ealone : (rowsN.filter (dvB i A)).filter (fun k => !dvB j B k) = aloneN i A j B := by
    unfold aloneN
    rw [List.filter_filter]
    refine List.filter_congr fun k _ => ?_
    rw [Bool.and_comm]
  rw [ealone] at h6
  have s26 : Same H2 H6 := s3.trans (s4.trans (s5.trans s6))
  -- repr(also_right(one, other)) != repr(alone == [])
  refine ⟨_, rfl, _, rfl, a, b, i, A, j, B, rfl, cA2.same s26, cB.same s26, fun H7 c s7 hc => ?_⟩
  have hcn : c = decide (aloneN i A j B = []) := by
    have := alone_nil CA CB (by omega : A < 512) A2
    rw [Bool.eq_iff_iff, hc, decide_eq_true_iff, this]
  obtain ⟨b1, b2, b3⟩ := bool_ok c
  refine ⟨_, _, rfl, .bl _, b1, b2, b3, _, rfl, Nat.zero_le _, fun t nt => ?_⟩
  obtain ⟨H8, e8, s8, h8⟩ := fresh (.lst ([] : List V)) nt
  rw [e8]
  have s28 := s26.trans (s7.trans s8)
  have h6' : H8 D6 = some (.lst ((natI (aloneN i A j B)).map V.int)) := s8 _ _ (s7 _ _ h6)
  refine eqD_lst (ns := natI (aloneN i A j B)) (ms := []) (.inl (.inl h6')) (.inl (.inl h8)) ?_
  rw [nil_nat, ← hcn]
  refine ⟨_, _, rfl, .bl _, b1, b2, b3, rfl, _, rfl, iteNF rfl ?_⟩
  -- due
  obtain ⟨fst, hfst, hfl, hfA⟩ : ∃ fst, (aloneN i A j B ++ [1])[0]? = some fst ∧ fst < 2 ^ 10 ∧ (¬ Dv B A → fst = A) := by
    by_cases z : Dv B A
    · rw [(alone_nil CA CB (by omega) A2).mpr z]
      exact ⟨1, rfl, by decide, fun y => absurd z y⟩
    · obtain ⟨r, hr'⟩ := alone_first CA CB (by omega) A2 z
      rw [hr']
      exact ⟨A, rfl, Nat.lt_of_lt_of_le A32 (by decide), fun _ => rfl⟩
  have cat1 : (natI (aloneN i A j B)).map V.int ++ [V.int 1] = (natI (aloneN i A j B ++ [1])).map V.int := by unfold natI; simp
  have lal : (aloneN i A j B).length ≤ 511 := by unfold aloneN; refine Nat.le_trans (List.length_filter_le _ _) ?_; unfold rowsN; rw [List.length_range']; decide
  have lcat : ((natI (aloneN i A j B)).map V.int).length + [V.int 1].length ≤ sizeLine := by rw [nat_len]; exact Nat.le_of_lt (small1000' (show _ ≤ 10000 by simp; omega))
  have atf : atI ((natI (aloneN i A j B ++ [1])).map V.int) 0 = some (V.int (fst : Int)) := by
    have : (0 : Int) = ((0 : Nat) : Int) := rfl
    rw [this]
    refine atI_nat ?_
    unfold natI
    rw [List.getElem?_map, List.getElem?_map, hfst]
    rfl
  refine ⟨_, rfl, (show 1 ≤ sizeLine by decide), fun t9 n9 => ?_⟩
  obtain ⟨H9, e9, s9, h9⟩ := fresh (.lst [V.int 1]) n9
  rw [e9]
  refine ⟨_, _, _, _, rfl, rfl, s9 _ _ h6', h9, lcat, fun t10 n10 => ?_⟩
  rw [cat1]
  obtain ⟨H10, e10, s10, h10⟩ := fresh (.lst ((natI (aloneN i A j B ++ [1])).map V.int)) n10
  rw [e10]
  refine ⟨t10, _, _, _, rfl, rfl, .inl (.inl h10), atf, ?_⟩
  refine ⟨_, rfl, (show 1 ≤ sizeLine by decide), fun t11 n11 => ?_⟩
  obtain ⟨H11, e11, s11, h11⟩ := fresh (.lst [V.int 1]) n11
  rw [e11]
  refine ⟨_, _, _, _, rfl, rfl, s11 _ _ (s10 _ _ (s9 _ _ h6')), h11, lcat, fun t12 n12 => ?_⟩
  rw [cat1]
  obtain ⟨H12, e12, s12, h12⟩ := fresh (.lst ((natI (aloneN i A j B ++ [1])).map V.int)) n12
  rw [e12]
  have hbf : Builtin.Int.intBits (fst : Int) ≤ 10 := bl_iff.mpr hfl
  refine ⟨t12, _, _, _, rfl, rfl, .inl (.inl h12), atf, _, rfl, fst, Builtin.Int.intBits (fst : Int), rfl, by omega, fun H13 s13 => ?_⟩
  refine ⟨(show 2 ≤ sizeLine by decide), fun t14 n14 => ?_⟩
  obtain ⟨H14, e14, s14, h14⟩ := fresh (.lst [V.non, V.str (bS (bitsB fst (Builtin.Int.intBits (fst : Int))))]) n14
  rw [e14]
  have s814 : Same H8 H14 := s9.trans (s10.trans (s11.trans (s12.trans (s13.trans s14))))
  refine ⟨_, rfl, Nat.zero_le _, fun t15 n15 => ?_⟩
  obtain ⟨H15, e15, s15, h15⟩ := fresh (.lst ([] : List V)) n15
  rw [e15]
  have h6'' := s15 _ _ (s814 _ _ h6')
  refine neD_lst (ns := natI (aloneN i A j B)) (ms := []) (.inl (.inl h6'')) (.inl (.inl h15)) ?_
  rw [nil_nat, ← hcn]
  refine .inr ⟨_, rfl, ?_⟩
  obtain ⟨v7, hv7, hv7'⟩ : ∃ v7, atI [V.non, V.str (bS (bitsB fst (Builtin.Int.intBits (fst : Int))))] (if (!c) = true then 1 else 0) = some v7 ∧ ((Dv B A ∧ v7 = .non) ∨ (¬ Dv B A ∧ v7 = .str (bS (bitsB A (i + 1))))) := by
    cases c with
    | true => exact ⟨.non, rfl, .inl ⟨hc.mp rfl, rfl⟩⟩
    | false =>
      have z : ¬ Dv B A := fun y => by have := hc.mpr y; cases this
      refine ⟨_, rfl, .inr ⟨z, ?_⟩⟩
      rw [hfA z, bl_W CA]
  refine ⟨t14, _, _, v7, rfl, rfl, .inl (.inl (s15 _ _ h14)), hv7, ?_⟩
  have s215 : Same H2 H15 := s28.trans (s814.trans s15)
  -- parted_bits(one, other) != due
  refine ⟨_, rfl, _, rfl, a, b, i, A, j, B, rfl, cA2.same s215, cB.same s215, fun H16 v s16 hv => ?_⟩
  have ev : v = v7 := by
    rcases hv with ⟨x1, x2⟩ | ⟨x1, x2⟩ <;> rcases hv7' with ⟨y1, y2⟩ | ⟨y1, y2⟩
    · rw [x2, y2]
    · exact absurd x1 y1
    · exact absurd y1 x1
    · rw [x2, y2]
  subst ev
  have sc : scal v v = true := by rcases hv with ⟨_, x2⟩ | ⟨_, x2⟩ <;> rw [x2] <;> rfl
  refine ⟨_, rfl, sc, _, rfl, iteNF rfl ?_⟩
  have s216 := s215.trans s16
  -- both, some
  refine ⟨_, rfl, _, rfl, a, b, i, A, j, B, rfl, cA2.same s216, cB.same s216, fun gc y ic H17 vc s17 hgc ey c1 c2 hvc => ?_⟩
  have s217 := s216.trans s17
  refine ⟨_, rfl, _, rfl, a, b, i, A, j, B, rfl, cA2.same s217, cB.same s217, fun gs H18 vs s18 hgs hvs => ?_⟩
  have egs := gcd_uniq hgs hgc
  subst egs
  have hy5 : y < 2 ^ 5 := quo_lt (gcd_ne hgs (ck_ne CA)) ey B32
  have ic8 : ic ≤ 8 := by
    have h1 := prod_tight (i := i) (j := 4) hA3 hy5
    have h2 : 2 ^ (i + 4 + 1) ≤ 2 ^ 9 := Nat.pow_le_pow_right (by decide) (by omega)
    have : ic < 9 := (Nat.pow_lt_pow_iff_right (by decide)).mp (Nat.lt_of_le_of_lt c1 (Nat.lt_of_lt_of_le h1 h2))
    omega
  obtain ⟨ca, rfl, nca, cC⟩ : ∃ x, vc = .ref x ∧ H16 x = none ∧ CheckAt T.C_Check H17 x ic (prod A y) := by
    rcases hvc with h | ⟨h, _⟩
    · exact h.2
    · omega
  refine ⟨(show 2 ≤ sizeLine by decide), fun t19 n19 => ?_⟩
  obtain ⟨H19, e19, s19, h19⟩ := fresh (.tup [V.ref ca, vs]) n19
  rw [e19]
  refine ⟨t19, _, rfl, .inl (.inl h19), rfl, _, _, rfl, _, _, rfl, rfl, ?_⟩
  refine restate [some (.ref g), some (.int A), some (.int B), some (.ref p), some (.ref D4), some (.ref D5), some (.ref D6), some v, none, none, none, some (.ref a), some (.ref b), some (.ref ca), some vs, none, none, none, none] rfl ?_
  have s1719 : Same H17 H19 := s18.trans s19
  have s219 : Same H2 H19 := s217.trans s1719
  have s319 : Same H3 H19 := s4.trans (s5.trans (s6.trans (s7.trans (s8.trans (s814.trans (s15.trans (s16.trans (s17.trans s1719))))))))
  have s519 : Same H5 H19 := s6.trans (s7.trans (s8.trans (s814.trans (s15.trans (s16.trans (s17.trans s1719))))))
  have cC19 := cC.same s1719
  have CC := cC.1
  have hjoin : ∀ k, dvB ic (prod A y) k = (dvB i A k && dvB j B k) := fun k => by
    unfold dvB
    rw [Bool.eq_iff_iff, Bool.and_eq_true, decide_eq_true_iff, decide_eq_true_iff, decide_eq_true_iff, ← dv_iff CC, ← dv_iff CA, ← dv_iff CB]
    exact joined_iff (ck_ne CA) (ck_ne CB) hgs ey
  -- [is_right(both, bits(row, 9)) ..] != [row in here and row in there ..]
  refine ⟨_, rfl, p, rfl, ⟨_, .inl (.inl (s319 _ _ h3))⟩, fun D20 nD20 => ?_⟩
  refine lc_mapL (K := K) (xs := (natI rowsN).map V.int) ((rowsN.map fun k => dvB i A k && dvB j B k).map V.bl) nD20 (.inl (.inl (s319 _ _ h3))) (by rw [nat_len, List.length_map, List.length_map]) (by rw [nat_len]; exact hlr) ?_ ?_ ?_
  · exact fun x => rfl
  · intro u x yv H' hx hy s Qt qt
    obtain ⟨k, hk, rfl⟩ := nat_at hx
    rw [List.getElem?_map, List.getElem?_map, hk] at hy
    cases hy
    have hk2 := mem_rowsN.mp (List.mem_of_getElem? hk)
    refine ⟨_, rfl, _, rfl, k, 9, rfl, by decide, fun H'' s2' => ?_⟩
    refine ⟨ca, ic, prod A y, _, rfl, (cC19.same s).same s2', by rw [bitsB_len]; decide, fun H3' s3' => ?_⟩
    rw [restB_bits (show k < 2 ^ 9 by omega)]
    have := qt _ (s2'.trans s3')
    have e : decide (rem ic (prod A y) k = 0) = (dvB i A k && dvB j B k) := hjoin k
    rw [e]
    exact this
  intro H20 s20 h20
  refine ⟨_, rfl, p, rfl, ⟨_, .inl (.inl (s20 _ _ (s319 _ _ h3)))⟩, fun D21 nD21 => ?_⟩
  refine lc_mapL (K := K) (xs := (natI rowsN).map V.int) ((rowsN.map fun k => dvB i A k && dvB j B k).map V.bl) nD21 (.inl (.inl (s20 _ _ (s319 _ _ h3)))) (by rw [nat_len, List.length_map, List.length_map]) (by rw [nat_len]; exact hlr) ?_ ?_ ?_
  · exact fun x => rfl
  · intro u x yv H' hx hy s Qt qt
    obtain ⟨k, hk, rfl⟩ := nat_at hx
    rw [List.getElem?_map, List.getElem?_map, hk] at hy
    cases hy
    have hkm := List.mem_of_getElem? hk
    have qt : Qt (V.bl (dvB i A k && dvB j B k)) H' := qt _ (Same.refl _)
    refine ⟨_, rfl, _, rfl, D4, _, rfl, .inl (.inl (.inl (s _ _ (s20 _ _ (s519 _ _ h4'))))), rfl, flat_nat _, _, rfl, ?_⟩
    rw [in_nat, memh k hkm]
    cases c : dvB i A k with
    | false => rw [c] at qt; exact iteF qt
    | true =>
      rw [c] at qt
      refine iteT ⟨_, rfl, _, rfl, D5, _, rfl, .inl (.inl (.inl (s _ _ (s20 _ _ (s519 _ _ h5))))), rfl, flat_nat _, ?_⟩
      rw [in_nat, memt k hkm]
      exact qt
  intro H21 s21 h21
  refine ne_bools (.inl (.inl (s21 _ _ h20))) (.inl (.inl h21)) ⟨_, rfl, iteF ?_⟩
  have s1921 : Same H19 H21 := s20.trans s21
  -- what both share is right with each of them
  refine ⟨_, rfl, rfl, _, rfl, ?_⟩
  walk_at "b"
  refine join3 (fun H' => Same H21 H') (fun H22 s22 => ?_) (fun cc cont => ?_) (fun cc => Same.refl _)
  rotate_left
  · rcases hvs with ⟨_, rfl⟩ | ⟨ig, xs, g1, rfl, nx, cS⟩
    · cases cc
    have cS21 := cS.same (s19.trans s1921)
    refine ⟨_, rfl, _, rfl, _, _, _, _, rfl, rfl, s1921 _ _ (s519 _ _ h4'), s1921 _ _ (s519 _ _ h5), ?_, fun t30 n30 => ?_⟩
    · rw [nat_len, nat_len]
      have l1 := List.length_filter_le (dvB i A) rowsN
      have l2 := List.length_filter_le (dvB j B) rowsN
      have : rowsN.length = 511 := by unfold rowsN; rw [List.length_range']
      exact Nat.le_of_lt (small1000' (by omega))
    have ecat : (natI (rowsN.filter (dvB i A))).map V.int ++ (natI (rowsN.filter (dvB j B))).map V.int = (natI (rowsN.filter (dvB i A) ++ rowsN.filter (dvB j B))).map V.int := by unfold natI; simp
    rw [ecat]
    obtain ⟨H30, e30, s30, h30⟩ := fresh (.lst ((natI (rowsN.filter (dvB i A) ++ rowsN.filter (dvB j B))).map V.int)) n30
    rw [e30]
    refine ⟨t30, rfl, ⟨_, .inl (.inl h30)⟩, fun D31 nD31 => ?_⟩
    refine lc_filtL (rowsN.filter (dvB i A) ++ rowsN.filter (dvB j B)) (fun _ => false) nD31 (.inl (.inl h30)) ?_ ?_ ?_ ?_
    · have l1 := List.length_filter_le (dvB i A) rowsN
      have l2 := List.length_filter_le (dvB j B) rowsN
      have : rowsN.length = 511 := by unfold rowsN; rw [List.length_range']
      rw [List.length_append]
      exact small1000' (by omega)
    · exact fun x => rfl
    · intro k H' hk s Qt qt
      have hk2 : 1 ≤ k ∧ k < 512 ∧ Dv gs k := by
        rcases List.mem_append.mp hk with z | z
        · obtain ⟨z1, z2⟩ := List.mem_filter.mp z
          have z3 := mem_rowsN.mp z1
          exact ⟨z3.1, z3.2, hgs.l.trans ((dv_iff CA).mpr (of_decide_eq_true z2))⟩
        · obtain ⟨z1, z2⟩ := List.mem_filter.mp z
          have z3 := mem_rowsN.mp z1
          exact ⟨z3.1, z3.2, hgs.r.trans ((dv_iff CB).mpr (of_decide_eq_true z2))⟩
      refine ⟨_, rfl, _, rfl, k, 10, rfl, by decide, fun H'' s2' => ?_⟩
      refine ⟨xs, ig, gs, _, rfl, (((cS21.same s30).same s).same s2'), by rw [bitsB_len]; decide, fun H3' s3' => ?_⟩
      rw [restB_bits (show k < 2 ^ 10 by omega), (dv_iff cS.1).mp hk2.2.2]
      refine ⟨_, rfl, ?_⟩
      rw [decide_eq_true rfl]
      exact iteF (qt _ (s2'.trans s3'))
    · intro H31 s31 h31
      rw [show (rowsN.filter (dvB i A) ++ rowsN.filter (dvB j B)).filter (fun _ => false) = [] from List.filter_eq_nil_iff.mpr (fun _ _ => by simp)] at h31
      refine ⟨Nat.zero_le _, fun t32 n32 => ?_⟩
      obtain ⟨H32, e32, s32, h32⟩ := fresh (.lst ([] : List V)) n32
      rw [e32]
      refine ne_lst (ns := []) (.inl (.inl (s32 _ _ h31))) (.inl (.inl h32)) ⟨_, rfl, iteF ?_⟩
      exact cont _ (s30.trans (s31.trans s32))
  -- the common one
  refine ⟨_, rfl, _, rfl, A, B, rfl, pow40 A32 (by decide), pow40 B32 (by decide), fun gd' H23 s23 hgd _ => ?_⟩
  have egd := gcd_uniq hgs hgd
  subst egd
  have s1823 : Same H18 H23 := s19.trans (s1921.trans (s22.trans s23))
  have enone : decide (vs = V.non) = decide (V.int (gs : Int) = V.int 1) := by
    rcases hvs with ⟨z, rfl⟩ | ⟨ig, xs, g1, rfl, nx, cS⟩
    · rw [z]; rfl
    · rw [decide_eq_false (by intro z; cases z), decide_eq_false]
      intro z
      have := V.int.inj z
      omega
  -- (some is None) != (common == 1) or some is not None and not some == check_of(common)
  refine ⟨_, rfl, rfl, _, rfl, rfl, rfl, _, rfl, iteNF (by rw [enone]) ?_⟩
  refine ⟨_, rfl, rfl, _, rfl, ?_⟩
  walk_at "b"
  refine join3 (fun H' => Same H23 H') (fun H24 s24 => ?_) (fun cc cont => ?_) (fun cc => Same.refl _)
  rotate_left
  · rcases hvs with ⟨_, rfl⟩ | ⟨ig, xs, g1, rfl, nx, cS⟩
    · cases cc
    have CS := cS.1
    refine ⟨_, rfl, _, rfl, gs, ig, rfl, Nat.le_of_lt CS.lo, CS.hi, CS.pos, cS.2.1, CS.odd, fun x H25 s25 nx25 cX => ?_⟩
    have cS25 := cS.same (s1823.trans s25)
    obtain ⟨_, _, dy5, hy5⟩ := id cX
    obtain ⟨_, _, dy6, hy6⟩ := id cS25
    refine ⟨xs, _, _, rfl, hy6, ⟨x, rfl, .inl ⟨_, _, hy5⟩⟩, xs, x, ig, _, _, rfl, cS25, .inl ⟨ig, _, cX, rfl⟩, _, rfl, ?_⟩
    rw [decide_eq_true ⟨rfl, rfl⟩]
    exact ⟨_, rfl, iteF (cont _ s25)⟩
  have s1724 : Same H17 H24 := s18.trans (s1823.trans s24)
  have s024 : Same H H24 := b02.trans (s217.trans s1724)
  have cC24 := cC.same s1724
  obtain ⟨_, _, dc, hc24⟩ := id cC24
  -- many
  refine ⟨_, rfl, ca, dc, _, rfl, hc24, ca, dc, _, _, rfl, hc24, rfl, ?_⟩
  refine ⟨_, rfl, by decide, by decide, ?_⟩
  walk_at "b"
  refine for_range (lo := 0) (n := 4) (fun t σ H1 => ∃ (v10 v15 v17 v18 : Option V), σ = [some (.ref g), some (.int A), some (.int B), some (.ref p), some (.ref D4), some (.ref D5), some (.ref D6), some v, some (.int gs), some (.int ic), v10, some (.ref a), some (.ref b), some (.ref ca), some vs, v15, none, v17, v18] ∧ But g H H1 ∧ CheckAt T.C_Check H1 a i A ∧ CheckAt T.C_Check H1 b j B ∧ GenAt H1 g (n + 200 * t)) ⟨none, none, none, none, rfl, But.of s024, cA2.same (s217.trans s1724), cB.same (s217.trans s1724), (hg.same s024).mono (by omega)⟩ ?_ ?_
  · rintro t σ H30 ht ⟨v10, v15, v17, v18, rfl, b30, cA30, cB30, g30⟩
    have g31 := g30
    obtain ⟨_, _, da, ha⟩ := id cA30
    obtain ⟨_, _, db, hb⟩ := id cB30
    have nag : a ≠ g := by
      obtain ⟨x1, x2, x3, e, _⟩ := id g30
      exact cA30.ne e
    have nbg : b ≠ g := by
      obtain ⟨x1, x2, x3, e, _⟩ := id g30
      exact cB30.ne e
    have pi : 2 ^ i ≤ 2 ^ 4 := Nat.pow_le_pow_right (by decide) hA1
    have pj : 2 ^ j ≤ 2 ^ 4 := Nat.pow_le_pow_right (by decide) hB1
    have pi0 := Nat.two_pow_pos i
    have pj0 := Nat.two_pow_pos j
    refine ⟨_, rfl, _, rfl, a, da, _, rfl, ha, a, da, _, _, rfl, ha, rfl, _, _, rfl, rfl, ⟨by omega, by omega, by decide⟩, ?_⟩
    walk_at "b"
    rw [shl1]
    refine ⟨g, _, _, rfl, g30, by omega, by omega, small_2900 (by omega), fun l' H31 l0 l1 g31 b31 => ?_⟩
    obtain ⟨l, rfl⟩ : ∃ l : Nat, l' = (l : Int) := ⟨l'.toNat, by omega⟩
    have cB31 := cB30.but nbg b31
    obtain ⟨_, _, db1, hb1⟩ := id cB31
    refine ⟨_, rfl, _, rfl, b, db1, _, rfl, hb1, b, db1, _, _, rfl, hb1, rfl, _, _, rfl, rfl, ⟨by omega, by omega, by decide⟩, ?_⟩
    walk_at "b"
    rw [shl1]
    refine ⟨g, _, _, rfl, g31, by omega, by omega, small_2900 (by omega), fun r' H32 r0 r1 g32 b32 => ?_⟩
    obtain ⟨r, rfl⟩ : ∃ r : Nat, r' = (r : Int) := ⟨r'.toNat, by omega⟩
    have cA32 := (cA30.but nag b31).but nag b32
    have cB32 := cB31.but nbg b32
    refine ⟨(show 2 ≤ sizeLine by decide), fun t33 n33 => ?_⟩
    obtain ⟨H33, e33, s33, h33⟩ := fresh (.tup [V.int l, V.int r]) n33
    rw [e33]
    refine ⟨t33, _, rfl, .inl (.inl h33), rfl, _, _, rfl, _, _, rfl, rfl, ?_⟩
    refine restate [some (.ref g), some (.int A), some (.int B), some (.ref p), some (.ref D4), some (.ref D5), some (.ref D6), some v, some (.int gs), some (.int ic), some (.int (0 + (t : Int))), some (.ref a), some (.ref b), some (.ref ca), some vs, v15, none, some (.int l), some (.int r)] rfl ?_
    have hl : l < 2 ^ i := by omega
    have hr2 : r < 2 ^ j := by omega
    have pc : 2 ^ ic ≤ 2 ^ 8 := Nat.pow_le_pow_right (by decide) ic8
    have pc0 := Nat.two_pow_pos ic
    -- fits
    refine ⟨_, rfl, _, _, rfl, rfl, ⟨by omega, by omega, by decide⟩, ?_⟩
    walk_at "b"
    rw [shl1]
    refine ⟨_, rfl, by omega, by omega, fun D34 n34 => ?_⟩
    rw [Int.toNat_natCast]
    refine lc_filtR (fun k => decide (rem i A k = l) && decide (rem j B k = r)) n34 (by rw [sizeLine_eq]; omega) ?_ ?_ ?_
    · exact fun x => rfl
    · intro k H' hk s Qt qt
      have k9 : k < 2 ^ 1000 := Nat.lt_of_lt_of_le (show k < 2 ^ 9 by omega) (Nat.pow_le_pow_right (by decide) (by decide))
      have qt := qt _ (Same.refl _)
      refine ⟨_, rfl, _, rfl, k, A, rfl, by omega, k9, pow40 A32 (by decide), fun f q' hP => ⟨_, rfl, rfl, _, rfl, ?_⟩⟩
      rw [parts_rem CA hP, dec_nat]
      cases c : decide (rem i A k = l) with
      | false => rw [c] at qt; exact iteF (iteF qt)
      | true =>
        rw [c] at qt
        refine iteT ⟨_, rfl, _, rfl, k, B, rfl, by omega, k9, pow40 B32 (by decide), fun f q' hP => ⟨_, rfl, rfl, _, rfl, ?_⟩⟩
        rw [parts_rem CB hP, dec_nat]
        cases c : decide (rem j B k = r) with
        | false => rw [c] at qt; exact iteF qt
        | true => rw [c] at qt; exact iteT ⟨_, rfl, qt⟩
    intro H34 s34 h34
    change H34 D34 = some (HO.lst ((natI (fitsN i A j B l r ic)).map V.int)) at h34
    have cA34 := (cA32.same s33).same s34
    have cB34 := (cB32.same s33).same s34
    refine ⟨_, rfl, _, rfl, _, rfl, _, rfl, a, b, i, A, j, B, l, r, rfl, cA34, cB34, hl, hr2, fun g3 y3 i3 H35 v3 s35 hg3 ey3 c13 c23 hv3 => ?_⟩
    have eg3 := gcd_uniq hgs hg3
    subst eg3
    have ey3' : y = y3 := prod_cancel (gcd_ne hgs (ck_ne CA)) (by rw [← ey3, ← ey])
    subst ey3'
    have ei3 : ic = i3 := by
      have z1 : i3 < ic + 1 := (Nat.pow_lt_pow_iff_right (by decide)).mp (Nat.lt_of_le_of_lt c13 c2)
      have z2 : ic < i3 + 1 := (Nat.pow_lt_pow_iff_right (by decide)).mp (Nat.lt_of_le_of_lt c1 c23)
      omega
    subst ei3
    obtain ⟨d3, hd3, hsh, hfits⟩ : ∃ d3 : PyData, (∀ Hx, Dp K Hx v3 d3) ∧ SeqAt.shaped (.list [d3]) = true ∧ ((fitsN i A j B l r ic = [] ∧ v3 = .non) ∨ ∃ m, fitsN i A j B l r ic = [m] ∧ v3 = .str (bS (bitsB m ic))) := by
      rcases hv3 with ⟨z, rfl⟩ | ⟨z, m, m1, m2, m3, rfl⟩
      · exact ⟨.none, fun _ => .non, rfl, .inl ⟨fits_none CA CB hgs hl hr2 z, rfl⟩⟩
      · exact ⟨.str (bS (bitsB m ic)), fun _ => .str _, by simp [SeqAt.shaped, PyData.canLay0, PyData.canLayAll0, PyData.depth, PyData.depthAll, bS_ok], .inr ⟨m, fits_one CA CB hgs ey hl hr2 c1 m1 m2 m3, rfl⟩⟩
    have lf : (fitsN i A j B l r ic).length ≤ 1 := by
      rcases hfits with ⟨z, _⟩ | ⟨m, z, _⟩ <;> rw [z] <;> simp
    refine ⟨(show 1 ≤ sizeLine by decide), fun t36 n36 => ?_⟩
    obtain ⟨H36, e36, s36, h36⟩ := fresh (.lst [v3]) n36
    rw [e36]
    refine ⟨(show 1 ≤ sizeLine by decide), fun t37 n37 => ?_⟩
    obtain ⟨H37, e37, s37, h37⟩ := fresh (.lst [V.non]) n37
    rw [e37]
    refine ⟨_, rfl, Nat.zero_le _, fun t38 n38 => ?_⟩
    obtain ⟨H38, e38, s38, h38⟩ := fresh (.lst ([] : List V)) n38
    rw [e38]
    refine eqD_lst (ns := natI (fitsN i A j B l r ic)) (ms := []) (.inl (.inl (s38 _ _ (s37 _ _ (s36 _ _ (s35 _ _ h34)))))) (.inl (.inl h38)) ?_
    rw [nil_nat]
    refine .inr ⟨_, rfl, ?_⟩
    refine ⟨t37, _, _, rfl, rfl, s38 _ _ h37, by split <;> decide, by split <;> decide, by split <;> decide, fun t39 n39 => ?_⟩
    obtain ⟨H39, e39, s39, h39⟩ := fresh (.lst ((List.replicate ((if decide (fitsN i A j B l r ic = []) = true then (1 : Int) else 0)).toNat [V.non]).flatten)) n39
    rw [e39]
    have s3439 : Same H34 H39 := s35.trans (s36.trans (s37.trans (s38.trans s39)))
    refine ⟨_, rfl, D34, rfl, ⟨_, .inl (.inl (s3439 _ _ h34))⟩, fun D40 n40 => ?_⟩
    refine lc_mapL (K := K) (xs := (natI (fitsN i A j B l r ic)).map V.int) ((fitsN i A j B l r ic).map fun k => V.str (bS (bitsB k ic))) n40 (.inl (.inl (s3439 _ _ h34))) (by rw [nat_len, List.length_map]) (by rw [nat_len]; exact small1000' (by omega)) ?_ ?_ ?_
    · exact fun x => rfl
    · intro u x yv H' hx hy s Qt qt
      obtain ⟨k, hk, rfl⟩ := nat_at hx
      rw [List.getElem?_map, hk] at hy
      cases hy
      exact ⟨_, rfl, _, rfl, k, ic, rfl, by omega, fun H'' s2' => qt _ s2'⟩
    intro H40 s40 h40
    have ev3 : (List.replicate ((if decide (fitsN i A j B l r ic = []) = true then (1 : Int) else 0)).toNat [V.non]).flatten ++ (fitsN i A j B l r ic).map (fun k => V.str (bS (bitsB k ic))) = [v3] := by
      rcases hfits with ⟨z, rfl⟩ | ⟨m, z, rfl⟩ <;> rw [z] <;> rfl
    refine ⟨_, _, _, _, rfl, rfl, s40 _ _ h39, h40, ?_, fun t41 n41 => ?_⟩
    · rw [← List.length_append, ev3]
      exact (show 1 ≤ sizeLine by decide)
    rw [ev3]
    obtain ⟨H41, e41, s41, h41⟩ := fresh (.lst [v3]) n41
    rw [e41]
    refine ⟨.list [d3], .list [d3], .lst (.inl (.inl (s41 _ _ (s40 _ _ (s39 _ _ (s38 _ _ (s37 _ _ h36))))))) (.cons (hd3 _) .nil), .lst (.inl (.inl h41)) (.cons (hd3 _) .nil), hsh, hsh, ?_⟩
    rw [SeqAt.eqv_refl _ (Bool.and_eq_true_iff.mp hsh).1]
    refine ⟨_, rfl, iteF ?_⟩
    have s3241 : Same H32 H41 := s33.trans (s34.trans (s3439.trans (s40.trans s41)))
    exact ⟨_, _, _, _, rfl, ((b30.trans b31).trans b32).same s3241, cA32.same s3241, cB32.same s3241, (g32.same s3241).mono (by omega)⟩
  · rintro σ H30 ⟨v10, v15, v17, v18, rfl, b30, cA30, cB30, g30⟩
    exact q _ b30 (g30.mono (by omega))
end
end My

namespace My
open PySem PySem.Spec PyProof.Rows L2 Pre
local macro_rules | `(tactic| walk_at "go") => `(tactic| repeat (first | (with_reducible first | refine iteT ?_ | refine iteF ?_ | refine iteNtt ?_ | refine iteNff ?_ | refine iteET (by omega) ?_ | refine iteEF (by omega) ?_ | refine iteENT (by omega) ?_ | refine iteENF (by omega) ?_ | refine iteDT (by omega) ?_ | refine iteDF (by omega) ?_ | refine iteNT (by omega) ?_ | refine iteNF (by omega) ?_) | refine ⟨_, rfl, ?_⟩ | refine ⟨_, _, rfl, rfl, ?_⟩ | refine ⟨_, _, rfl, ?_⟩ | refine ⟨rfl, ?_⟩ | refine .inl ⟨_, rfl, ?_⟩ | refine .inr ⟨_, rfl, ?_⟩))
local macro_rules | `(tactic| walk_at "b") => `(tactic| try dsimp (config := { proj := false, iota := false, eta := false, zeta := false }) only)
section
variable {P : Program} {w : World} {K : PySem.W.Frag} {mg : Str → Option Value} {base : Heap}
def sp_law_great_right : Sp := fun vs H Q _ => ∃ (g : Addr) (n A B i j : Nat), vs = [.ref g, .int A, .int B] ∧ GenAt H g n ∧ n ≤ 10 ^ 6 ∧ IsSum 16 i A ∧ IsSum 16 j B ∧ ∀ H', But g H H' → GenAt H' g (n + 1000) → Q (.bl true) H'
theorem G_law_great_right (T : Top K mg) : FnG P w K mg base CX0 8 T.f_law_great_right T.fd_law_great_right ["_law_generator_here", "_law_mine", "_law_yours"] sp_law_great_right := by
  refine FnG.body T.F_law_great_right sc_law_great_right (fun vs H Q E h => by obtain ⟨g, n, A, B, i, j, rfl, _⟩ := h; rfl) (fun cdv A outer s H vs Q E gd hr h => ?_)
  obtain ⟨g, n, A, B, i, j, rfl, hg, hn, hA, hB, q⟩ := h
  refine ⟨_, PSs.nox (pss_cons (ps_par3 (by rfl) sc_law_great_right.nd (i := 6) (j := 7) (l := 8) rfl rfl rfl (by decide) (by decide) (by decide) rfl rfl rfl (pa_cons (pe_call (G_law_check_of T) (hr.mono (by decide)) (by rfl) T.g_law_check_of T.F_law_check_of.kp T.b_law_check_of .nil pass0 (pa_cons (pv 1) pa_nil)) (pa_cons (pe_call (G_law_check_of T) (hr.mono (by decide)) (by rfl) T.g_law_check_of T.F_law_check_of.kp T.b_law_check_of .nil pass0 (pa_cons (pv 2) pa_nil)) (pa_cons (pe_call (G_law_common T) (hr.mono (by decide)) (by rfl) T.g_law_common T.F_law_common.kp T.b_law_common .nil pass0 (pa_cons (pv 1) (pa_cons (pv 2) pa_nil))) pa_nil))) (by rfl))
  (pss_cons (ps_set (i := 3) sc_law_great_right.nd rfl (by first | exact Or.inl rfl | exact Or.inr rfl) (pe_ix (k_ixT K rfl) (pe_call (G_law_parts T) (hr.mono (by decide)) (by rfl) T.g_law_parts T.F_law_parts.kp T.b_law_parts .nil pass0 (pa_cons (pe_call (G_law_product T) (hr.mono (by decide)) (by rfl) T.g_law_product T.F_law_product.kp T.b_law_product .nil pass0 (pa_cons (pv 1) (pa_cons (pv 2) pa_nil))) (pa_cons (pv 8) pa_nil))) pe_int (fun _ _ => rfl)))
  (pss_cons (ps_par3 (by rfl) sc_law_great_right.nd (i := 9) (j := 10) (l := 11) rfl rfl rfl (by decide) (by decide) (by decide) rfl rfl rfl (pa_cons (pe_call (G_together T) (hr.mono (by decide)) (by rfl) T.g_together T.F_together.kp T.b_together .nil pass0 (pa_cons (pv 6) (pa_cons (pv 7) pa_nil))) (pa_cons (pe_call (G_shared T) (hr.mono (by decide)) (by rfl) T.g_shared T.F_shared.kp T.b_shared .nil pass0 (pa_cons (pv 6) (pa_cons (pv 7) pa_nil))) (pa_cons (pe_call (G_parted_bits T) (hr.mono (by decide)) (by rfl) T.g_parted_bits T.F_parted_bits.kp T.b_parted_bits .nil pass0 (pa_cons (pv 6) (pa_cons (pv 7) pa_nil))) pa_nil))) (by rfl))
  (pss_cons (ps_if (PW.pt (pw_or (pt_cmpR op_ne (pe_cmpR op_isN (pv 9) pe_non (nomark _)) (pe_cmpR op_gt (pe_bits (pv 3)) pe_int (nomark _)) (nomark _)) (pw_or1 (PW.pt (pw_and (pt_cmpR op_notN (pv 9) pe_non (nomark _)) (pw_and1 (pt_not (pt_cmpR (op_own_eq T.ec_Check (G_Check___eq__ T) (hr.mono (by decide)) T.b_Check___eq__ pass0) (pv 9) (pe_call (G_law_check_of T) (hr.mono (by decide)) (by rfl) T.g_law_check_of T.F_law_check_of.kp T.b_law_check_of .nil pass0 (pa_cons (pv 3) pa_nil)) (nomark _)))))))))
    (pss_one (ps_ret pe_bl))
    pss_nil)
  (pss_cons (ps_if (PW.pt (pw_or (pt_cmpR op_ne (pe_cmpR op_isN (pv 10) pe_non (nomark _)) (pe_cmpR op_eq (pv 8) pe_int (nomark _)) (nomark _)) (pw_or1 (PW.pt (pw_and (pt_cmpR op_notN (pv 10) pe_non (nomark _)) (pw_and1 (pt_not (pt_cmpR (op_own_eq T.ec_Check (G_Check___eq__ T) (hr.mono (by decide)) T.b_Check___eq__ pass0) (pv 10) (pe_call (G_law_check_of T) (hr.mono (by decide)) (by rfl) T.g_law_check_of T.F_law_check_of.kp T.b_law_check_of .nil pass0 (pa_cons (pv 8) pa_nil)) (nomark _)))))))))
    (pss_one (ps_ret pe_bl))
    pss_nil)
  (pss_cons (ps_set (i := 4) sc_law_great_right.nd rfl (by first | exact Or.inl rfl | exact Or.inr rfl) (pe_cmpR op_eq (pe_call (G_law_rest T) (hr.mono (by decide)) (by rfl) T.g_law_rest T.F_law_rest.kp T.b_law_rest .nil pass0 (pa_cons (pv 2) (pa_cons (pv 1) pa_nil))) pe_int (nomark _)))
  (pss_cons (ps_if (PW.pt (pw_or (pt_cmpR op_ne (pe_callB (k_repr K rfl gd (hu65 hr)) (by rfl) T.n_repr (by decide +kernel) (pa_cons (pe_call (G_also_right T) (hr.mono (by decide)) (by rfl) T.g_also_right T.F_also_right.kp T.b_also_right .nil pass0 (pa_cons (pv 6) (pa_cons (pv 7) pa_nil))) pa_nil)) (pe_callB (k_repr K rfl gd (hu65 hr)) (by rfl) T.n_repr (by decide +kernel) (pa_cons (pv 4) pa_nil)) (nomark _)) (pw_or1 (pt_cmpR op_ne (pv 11) (pe_ix (k_ixL K rfl) (pe_lst (pa_cons (pe_call (G_law_bits T) (hr.mono (by decide)) (by rfl) T.g_law_bits T.F_law_bits.kp T.b_law_bits .nil pass0 (pa_cons (pv 1) (pa_cons (pe_bits (pv 1)) pa_nil))) (pa_cons pe_non pa_nil))) (pe_callTy call_int1 (by rfl) T.n_int (by decide +kernel) (pa_cons (pv 4) pa_nil)) (fun _ _ => rfl)) (nomark _)))))
    (pss_one (ps_ret pe_bl))
    pss_nil)
  (pss_cons (ps_for PassesOwn.never rfl (pi_range1 (by rfl) T.n_range (pa_cons pe_int pa_nil)) (pg_name (i := 5) sc_law_great_right.nd rfl (by first | exact Or.inl rfl | exact Or.inr rfl))
    (pss_cons (ps_set (i := 12) sc_law_great_right.nd rfl (by first | exact Or.inl rfl | exact Or.inr rfl) (pe_call (G_law_random T) (hr.mono (by decide)) (by rfl) T.g_law_random T.F_law_random.kp T.b_law_random .nil pass0 (pa_cons (pv 0) (pa_cons (pe_op op_powW pe_int pe_int) pa_nil))))
  (pss_cons (ps_par (by rfl) sc_law_great_right.nd (i := 14) (j := 15) rfl rfl (by decide) rfl rfl (pa_cons (pe_call (G_law_rest T) (hr.mono (by decide)) (by rfl) T.g_law_rest T.F_law_rest.kp T.b_law_rest .nil pass0 (pa_cons (pv 1) (pa_cons (pv 12) pa_nil))) (pa_cons (pe_call (G_law_rest T) (hr.mono (by decide)) (by rfl) T.g_law_rest T.F_law_rest.kp T.b_law_rest .nil pass0 (pa_cons (pv 2) (pa_cons (pv 12) pa_nil))) pa_nil)) (by rfl))
  (pss_cons (ps_set (i := 11) sc_law_great_right.nd rfl (by first | exact Or.inl rfl | exact Or.inr rfl) (pe_call (G_bits_with T) (hr.mono (by decide)) (by rfl) T.g_bits_with T.F_bits_with.kp T.b_bits_with .nil pass0 (pa_cons (pv 6) (pa_cons (pv 7) (pa_cons (pv 14) (pa_cons (pv 15) pa_nil))))))
  (pss_cons (ps_if (PW.pt (pw_or (pt_not (pt_val (pe_callB (k_isi K rfl) (by rfl) T.n_isinstance (by decide +kernel) (pa_cons (pv 11) (pa_cons (pe_bltn (v := .ty "str") (by rfl) T.n_str (by decide +kernel) rfl) pa_nil))))) (pw_or1 (pt_cmpR op_ne (pe_callB call_len_str (by rfl) T.n_len (by decide +kernel) (pa_cons (pv 11) pa_nil)) (pe_op op_sub (pe_bits (pv 3)) pe_int) (nomark _)))))
    (pss_one (ps_ret pe_bl))
    pss_nil)
  (pss_cons (ps_if (PW.pt (pw_or (pt_cmpR (k_neD K rfl hr.units) (pe_lst (pa_cons (pe_call (G_rest T) (hr.mono (by decide)) (by rfl) T.g_rest T.F_rest.kp T.b_rest .nil pass0 (pa_cons (pv 6) (pa_cons (pv 11) pa_nil))) (pa_cons (pe_call (G_rest T) (hr.mono (by decide)) (by rfl) T.g_rest T.F_rest.kp T.b_rest .nil pass0 (pa_cons (pv 7) (pa_cons (pv 11) pa_nil))) pa_nil))) (pe_lst (pa_cons (pv 14) (pa_cons (pv 15) pa_nil))) (nomark _)) (pw_or1 (pt_cmpR op_ne (pe_call (G_law_rest T) (hr.mono (by decide)) (by rfl) T.g_law_rest T.F_law_rest.kp T.b_law_rest .nil pass0 (pa_cons (pv 1) (pa_cons (pe_call (G_law_number T) (hr.mono (by decide)) (by rfl) T.g_law_number T.F_law_number.kp T.b_law_number .nil pass0 (pa_cons (pv 11) pa_nil)) pa_nil))) (pv 14) (nomark _)))))
    (pss_one (ps_ret pe_bl))
    pss_nil)
  (pss_cons (ps_set (i := 13) sc_law_great_right.nd rfl (by first | exact Or.inl rfl | exact Or.inr rfl) (pe_call (G_law_random T) (hr.mono (by decide)) (by rfl) T.g_law_random T.F_law_random.kp T.b_law_random .nil pass0 (pa_cons (pv 0) (pa_cons (pe_op op_shl pe_int (pe_prop (pv 7) T.cl_Check T.po_Check_width (G_Check_width T) (hr.mono (by decide)) T.bp_Check_width .nil pass0 rfl)) pa_nil))))
  (pss_cons (ps_set (i := 11) sc_law_great_right.nd rfl (by first | exact Or.inl rfl | exact Or.inr rfl) (pe_call (G_bits_with T) (hr.mono (by decide)) (by rfl) T.g_bits_with T.F_bits_with.kp T.b_bits_with .nil pass0 (pa_cons (pv 6) (pa_cons (pv 7) (pa_cons (pv 14) (pa_cons (pv 13) pa_nil))))))
  (pss_cons (ps_if (pt_cmpR op_ne (pe_cmpR op_isN (pv 11) pe_non (nomark _)) (pe_cmpR op_ne (pe_call (G_law_rest T) (hr.mono (by decide)) (by rfl) T.g_law_rest T.F_law_rest.kp T.b_law_rest .nil pass0 (pa_cons (pv 8) (pa_cons (pe_op op_xor (pv 14) (pv 13)) pa_nil))) pe_int (nomark _)) (nomark _))
    (pss_one (ps_ret pe_bl))
    pss_nil)
  (pss_one (ps_if (PW.pt (pw_and (pt_cmpR op_notN (pv 11) pe_non (nomark _)) (pw_and1 (pt_cmpR (k_neD K rfl hr.units) (pe_lst (pa_cons (pe_call (G_rest T) (hr.mono (by decide)) (by rfl) T.g_rest T.F_rest.kp T.b_rest .nil pass0 (pa_cons (pv 6) (pa_cons (pv 11) pa_nil))) (pa_cons (pe_call (G_rest T) (hr.mono (by decide)) (by rfl) T.g_rest T.F_rest.kp T.b_rest .nil pass0 (pa_cons (pv 7) (pa_cons (pv 11) pa_nil))) pa_nil))) (pe_lst (pa_cons (pv 14) (pa_cons (pv 13) pa_nil))) (nomark _)))))
    (pss_one (ps_ret pe_bl))
    pss_nil)))))))))))
  (pss_one (ps_ret pe_bl)))))))))), ?_⟩
  obtain ⟨hA0, hA1, hA2, hA3, hA4⟩ := hA
  obtain ⟨hB0, hB1, hB2, hB3, hB4⟩ := hB
  have A17 : A < 2 ^ 17 := Nat.lt_of_lt_of_le hA3 (Nat.pow_le_pow_right (by decide) (by omega))
  have B17 : B < 2 ^ 17 := Nat.lt_of_lt_of_le hB3 (Nat.pow_le_pow_right (by decide) (by omega))
  -- the checks
  refine ⟨_, rfl, A, i, rfl, hA2, hA3, hA0, by omega, hA4, fun a H1 s1 na cA => ?_⟩
  refine ⟨_, rfl, B, j, rfl, hB2, hB3, hB0, by omega, hB4, fun b H2 s2 nb cB => ?_⟩
  refine ⟨_, rfl, _, rfl, A, B, rfl, pow40 A17 (by decide), pow40 B17 (by decide), fun gs H3 s3 hgs hgl => ⟨_, _, _, rfl, ?_⟩⟩
  have CA := cA.1
  have CB := cB.1
  have g0 := gcd_ne hgs (ck_ne CA)
  obtain ⟨y, ey⟩ := hgs.r
  -- whole
  have hAB : prod A B < 2 ^ (17 + 17) := prod_lt A17 B17
  refine ⟨_, rfl, _, rfl, A, B, rfl, Nat.lt_of_lt_of_le A17 (Nat.pow_le_pow_right (by decide) (by decide)), Nat.lt_of_lt_of_le B17 (Nat.pow_le_pow_right (by decide) (by decide)), ?_⟩
  refine ⟨_, rfl, prod A B, gs, rfl, g0, pow40 hAB (by decide), hgl, fun wh r4 H4 t4 s4 nt4 hP4 ht4 => ?_⟩
  have eAB : prod A B = prod gs (prod A y) := by rw [ey, ← prod_assoc, prod_comm A gs, prod_assoc]
  obtain ⟨rfl, ewh⟩ := parts_zero g0 hP4 ⟨_, eAB⟩
  have ewh2 : wh = prod A y := prod_cancel g0 (by rw [← ewh, ← eAB])
  subst ewh2
  refine ⟨t4, _, _, .int ((prod A y : Nat) : Int), rfl, rfl, .inl (.inl ht4), rfl, ?_⟩
  have s24 : Same H2 H4 := s3.trans s4
  have s04 : Same H H4 := s1.trans (s2.trans s24)
  have cA4 := cA.same (s2.trans s24)
  have cB4 := cB.same s24
  -- both, some, told
  refine ⟨_, rfl, _, rfl, a, b, i, A, j, B, rfl, cA4, cB4, fun gc y' ic H5 vc s5 hgc ey' c1 c2 hvc => ?_⟩
  have egc := gcd_uniq hgs hgc
  subst egc
  have eyy : y = y' := prod_cancel g0 (by rw [← ey', ← ey])
  subst eyy
  refine ⟨_, rfl, _, rfl, a, b, i, A, j, B, rfl, cA4.same s5, cB4.same s5, fun gd H6 vs s6 hgd hvs => ?_⟩
  have egd := gcd_uniq hgs hgd
  subst egd
  refine ⟨_, rfl, _, rfl, a, b, i, A, j, B, rfl, (cA4.same s5).same s6, (cB4.same s5).same s6, fun H7 v s7 hv => ⟨_, _, _, rfl, ?_⟩⟩
  refine restate [some (.ref g), some (.int A), some (.int B), some (.int (prod A y : Nat)), none, none, some (.ref a), some (.ref b), some (.int gs), some vc, some vs, some v, none, none, none, none] rfl ?_
  have s47 : Same H4 H7 := s5.trans (s6.trans s7)
  have eb := by_bits c1 c2
  -- both
  have en1 : decide (vc = V.non) = decide (((Builtin.Int.intBits ((prod A y : Nat) : Int) : Nat) : Int) > 17) := by
    rcases hvc with ⟨z, x, rfl, _⟩ | ⟨z, rfl⟩
    · rw [decide_eq_false (by intro z; cases z), decide_eq_false]
      omega
    · rw [decide_eq_true rfl, decide_eq_true]
      omega
  refine ⟨_, rfl, rfl, _, rfl, _, rfl, _, _, rfl, rfl, rfl, _, rfl, iteNF (by rw [en1]) ?_⟩
  refine ⟨_, rfl, rfl, _, rfl, ?_⟩
  walk_at "b"
  refine join3 (fun H' => Same H7 H') (fun H8 s8 => ?_) (fun cc cont => ?_) (fun cc => Same.refl _)
  rotate_left
  · rcases hvc with ⟨z, x, rfl, nx, cX⟩ | ⟨z, rfl⟩
    case inr => cases cc
    have CX := cX.1
    refine ⟨_, rfl, _, rfl, prod A y, ic, rfl, Nat.le_of_lt CX.lo, CX.hi, CX.pos, z, CX.odd, fun x' H25 s25 nx25 cX' => ?_⟩
    have cS25 := cX.same (s6.trans (s7.trans s25))
    obtain ⟨_, _, dy5, hy5⟩ := id cX'
    obtain ⟨_, _, dy6, hy6⟩ := id cS25
    refine ⟨x, _, _, rfl, hy6, ⟨x', rfl, .inl ⟨_, _, hy5⟩⟩, x, x', ic, _, _, rfl, cS25, .inl ⟨ic, _, cX', rfl⟩, _, rfl, ?_⟩
    rw [decide_eq_true ⟨rfl, rfl⟩]
    exact ⟨_, rfl, iteF (cont _ s25)⟩
  -- some
  have en2 : decide (vs = V.non) = decide (V.int (gs : Int) = V.int 1) := by
    rcases hvs with ⟨z, rfl⟩ | ⟨ig, xs, g1, rfl, nx, cS⟩
    · rw [z]; rfl
    · rw [decide_eq_false (by intro z; cases z), decide_eq_false]
      intro z
      have := V.int.inj z
      omega
  refine ⟨_, rfl, rfl, _, rfl, rfl, rfl, _, rfl, iteNF (by rw [en2]) ?_⟩
  refine ⟨_, rfl, rfl, _, rfl, ?_⟩
  walk_at "b"
  refine join3 (fun H' => Same H8 H') (fun H9 s9 => ?_) (fun cc cont => ?_) (fun cc => Same.refl _)
  rotate_left
  · rcases hvs with ⟨_, rfl⟩ | ⟨ig, xs, g1, rfl, nx, cS⟩
    · cases cc
    have CS := cS.1
    refine ⟨_, rfl, _, rfl, gs, ig, rfl, Nat.le_of_lt CS.lo, CS.hi, CS.pos, cS.2.1, CS.odd, fun x H25 s25 nx25 cX => ?_⟩
    have cS25 := cS.same (s7.trans (s8.trans s25))
    obtain ⟨_, _, dy5, hy5⟩ := id cX
    obtain ⟨_, _, dy6, hy6⟩ := id cS25
    refine ⟨xs, _, _, rfl, hy6, ⟨x, rfl, .inl ⟨_, _, hy5⟩⟩, xs, x, ig, _, _, rfl, cS25, .inl ⟨ig, _, cX, rfl⟩, _, rfl, ?_⟩
    rw [decide_eq_true ⟨rfl, rfl⟩]
    exact ⟨_, rfl, iteF (cont _ s25)⟩
  have s49 : Same H4 H9 := s47.trans (s8.trans s9)
  have A1000 : A < 2 ^ 1000 := Nat.lt_of_lt_of_le A17 (Nat.pow_le_pow_right (by decide) (by decide))
  -- also
  refine ⟨_, rfl, _, rfl, A, B, rfl, ck_ne CB, A1000, pow40 B17 (by decide), fun f10 r10 hP10 => ⟨rfl, ?_⟩⟩
  obtain ⟨al, eal, hal⟩ : ∃ al : Bool, decide (V.int (r10 : Int) = V.int 0) = al ∧ (al = true ↔ Dv B A) := by
    refine ⟨_, rfl, ?_⟩
    have : decide (V.int (r10 : Int) = V.int 0) = decide (r10 = 0) := dec_nat r10 0
    rw [this, decide_eq_true_iff]
    refine ⟨fun z => ?_, fun z => dv_parts (ck_ne CB) hP10 z⟩
    subst z
    exact parts_dv hP10
  rw [eal]
  -- also_right
  refine ⟨_, rfl, _, rfl, a, b, i, A, j, B, rfl, cA4.same s49, cB4.same s49, fun H11 c s11 hc => ?_⟩
  have ec : c = al := by rw [Bool.eq_iff_iff, hc, hal]
  subst ec
  obtain ⟨b1, b2, b3⟩ := bool_ok c
  refine ⟨_, _, rfl, .bl _, b1, b2, b3, _, rfl, _, _, rfl, .bl _, b1, b2, b3, rfl, _, rfl, iteNF rfl ?_⟩
  have hbA : Builtin.Int.intBits (A : Int) = i + 1 := bl_W CA
  refine ⟨_, rfl, _, rfl, _, rfl, _, rfl, A, i + 1, by rw [hbA]; rfl, by omega, fun H12 s12 => ?_⟩
  refine ⟨(show 2 ≤ sizeLine by decide), fun t13 n13 => ?_⟩
  obtain ⟨H13, e13, s13, h13⟩ := fresh (.lst [V.str (bS (bitsB A (i + 1))), V.non]) n13
  rw [e13]
  obtain ⟨hv7, sc⟩ : atI [V.str (bS (bitsB A (i + 1))), V.non] (if c = true then 1 else 0) = some v ∧ scal v v = true := by
    rcases hv with ⟨x1, rfl⟩ | ⟨x1, rfl⟩
    · rw [hc.mpr x1]; exact ⟨rfl, rfl⟩
    · cases c with
      | true => exact absurd (hc.mp rfl) x1
      | false => exact ⟨rfl, rfl⟩
  refine ⟨_, rfl, .inr ⟨_, rfl, ?_⟩⟩
  refine ⟨t13, _, _, v, rfl, rfl, .inl (.inl h13), hv7, sc, _, rfl, iteNF rfl ?_⟩
  have s413 : Same H4 H13 := s49.trans (s11.trans (s12.trans s13))
  have s013 := s04.trans s413
  refine ⟨_, rfl, by decide, by decide, ?_⟩
  walk_at "b"
  refine for_range (lo := 0) (n := 3) (fun t σ H1 => ∃ (v5 v11 v12 v13 v14 v15 : Option V), σ = [some (.ref g), some (.int A), some (.int B), some (.int (prod A y : Nat)), some (.bl c), v5, some (.ref a), some (.ref b), some (.int gs), some vc, some vs, v11, v12, v13, v14, v15] ∧ But g H H1 ∧ CheckAt T.C_Check H1 a i A ∧ CheckAt T.C_Check H1 b j B ∧ GenAt H1 g (n + 200 * t)) ⟨none, some v, none, none, none, none, rfl, But.of s013, cA4.same s413, cB4.same s413, (hg.same s013).mono (by omega)⟩ ?_ ?_
  · rintro t σ H30 ht ⟨v5, v11, v12, v13, v14, v15, rfl, b30, cA30, cB30, g30⟩
    have nag : a ≠ g := by
      obtain ⟨x1, x2, x3, e, _⟩ := id g30
      exact cA30.ne e
    have nbg : b ≠ g := by
      obtain ⟨x1, x2, x3, e, _⟩ := id g30
      exact cB30.ne e
    have p50 : (2 : Int) ^ ((50 : Int)).toNat = 1125899906842624 := by decide
    have q50 : (2 : Nat) ^ 50 = 1125899906842624 := by decide
    -- row
    refine ⟨_, rfl, _, _, rfl, rfl, ⟨by decide, by decide +kernel⟩, ?_⟩
    walk_at "b"
    rw [p50]
    refine ⟨g, _, _, rfl, g30, by omega, by decide, small_2900 (by decide), fun row' H31 l0 l1 g31 b31 => ?_⟩
    obtain ⟨row, rfl⟩ : ∃ row : Nat, row' = (row : Int) := ⟨row'.toNat, by omega⟩
    have row1000 : row < 2 ^ 1000 := Nat.lt_of_lt_of_le (show row < 2 ^ 50 by omega) (Nat.pow_le_pow_right (by decide) (by decide))
    have cA31 := cA30.but nag b31
    have cB31 := cB30.but nbg b31
    refine ⟨_, rfl, _, rfl, row, A, rfl, ck_ne CA, row1000, pow40 A17 (by decide), fun f l hPl => ?_⟩
    refine ⟨_, rfl, _, rfl, row, B, rfl, ck_ne CB, row1000, pow40 B17 (by decide), fun f' r hPr => ⟨_, _, rfl, ?_⟩⟩
    have el := parts_rem CA hPl
    have er := parts_rem CB hPr
    have hl : l < 2 ^ i := by rw [el]; exact rem_lt CA _
    have hr2 : r < 2 ^ j := by rw [er]; exact rem_lt CB _
    have dl : Dv A (row ^^^ l) := (rem_eq_iff CA hl).mp el.symm
    have dr : Dv B (row ^^^ r) := (rem_eq_iff CB hr2).mp er.symm
    have ic32 : ic ≤ 40 := by
      have h1 : prod A y < 2 ^ (17 + 17) := prod_lt A17 (quo_lt g0 ey B17)
      have : ic < 34 := (Nat.pow_lt_pow_iff_right (by decide)).mp (Nat.lt_of_le_of_lt c1 h1)
      omega
    have same_i : ∀ i3, 2 ^ i3 ≤ prod A y → prod A y < 2 ^ (i3 + 1) → ic = i3 := fun i3 c13 c23 => by
      have z1 : i3 < ic + 1 := (Nat.pow_lt_pow_iff_right (by decide)).mp (Nat.lt_of_le_of_lt c13 c2)
      have z2 : ic < i3 + 1 := (Nat.pow_lt_pow_iff_right (by decide)).mp (Nat.lt_of_le_of_lt c1 c23)
      omega
    -- told
    refine ⟨_, rfl, _, rfl, _, rfl, _, rfl, a, b, i, A, j, B, l, r, rfl, cA31, cB31, hl, hr2, fun g3 y3 i3 H32 v3 s32 hg3 ey3 c13 c23 hv3 => ?_⟩
    have eg3 := gcd_uniq hgs hg3
    subst eg3
    have ey3' : y = y3 := prod_cancel g0 (by rw [← ey3, ← ey])
    subst ey3'
    have ei3 := same_i i3 c13 c23
    subst ei3
    obtain ⟨m, hm, m1, m2, rfl⟩ : ∃ m, m < 2 ^ ic ∧ Dv A (m ^^^ l) ∧ Dv B (m ^^^ r) ∧ v3 = .str (bS (bitsB m ic)) := by
      rcases hv3 with ⟨z, _⟩ | ⟨_, z⟩
      · refine absurd ?_ z
        have := (hgs.l.trans dl).xor (hgs.r.trans dr)
        rw [show (row ^^^ l) ^^^ (row ^^^ r) = (row ^^^ row) ^^^ (l ^^^ r) by ac_rfl, Nat.xor_self, Nat.zero_xor] at this
        exact this
      · exact z
    have rests : ∀ (m l r : Nat), m < 2 ^ ic → l < 2 ^ i → r < 2 ^ j → Dv A (m ^^^ l) → Dv B (m ^^^ r) → restB i A (bitsB m ic) = l ∧ restB j B (bitsB m ic) = r := fun m l r hm hl hr k1 k2 => ⟨by rw [restB_bits hm]; exact (rem_eq_iff CA hl).mpr k1, by rw [restB_bits hm]; exact (rem_eq_iff CB hr).mpr k2⟩
    refine ⟨_, rfl, _, _, _, _, true, rfl, .ty _, .base (.str _), kit_ty (by decide +kernel), true, rfl, iteF ?_⟩
    refine ⟨_, rfl, _, rfl, by rw [bS_len, bitsB_len]; exact Nat.le_of_lt (small1000' (by omega)), _, rfl, _, rfl, _, _, rfl, rfl, rfl, _, rfl, iteNF ?_ ?_⟩
    · show V.int (((bS (bitsB m ic)).length : Nat) : Int) = V.int _
      rw [bS_len, bitsB_len, eb]
    refine ⟨_, rfl, _, rfl, a, i, A, _, rfl, cA31.same s32, by rw [bitsB_len]; omega, fun H33 s33 => ?_⟩
    refine ⟨_, rfl, _, rfl, b, j, B, _, rfl, (cB31.same s32).same s33, by rw [bitsB_len]; omega, fun H34 s34 => ?_⟩
    obtain ⟨x1, x2⟩ := rests m l r hm hl hr2 m1 m2
    rw [x1, x2]
    refine ⟨(show 2 ≤ sizeLine by decide), fun t35 n35 => ?_⟩
    obtain ⟨H35, e35, s35, h35⟩ := fresh (.lst [V.int l, V.int r]) n35
    rw [e35]
    refine ⟨_, rfl, _, rfl, (show 2 ≤ sizeLine by decide), fun t36 n36 => ?_⟩
    obtain ⟨H36, e36, s36, h36⟩ := fresh (.lst [V.int l, V.int r]) n36
    rw [e36]
    refine ne_lst (ns := [(l : Int), (r : Int)]) (.inl (.inl (s36 _ _ h35))) (.inl (.inl h36)) ⟨_, rfl, iteF ?_⟩
    have m1000 : m < 2 ^ 1000 := Nat.lt_of_lt_of_le hm (Nat.pow_le_pow_right (by decide) (by omega))
    have em : numB (bitsB m ic) = m := by rw [numB_bits, Nat.mod_eq_of_lt hm]
    refine ⟨_, rfl, _, rfl, bitsB m ic, rfl, numB (bitsB m ic), A, rfl, ck_ne CA, by rw [em]; exact m1000, pow40 A17 (by decide), fun f2 l2 hP2 => ⟨_, rfl, rfl, _, rfl, iteNF ?_ ?_⟩⟩
    · rw [parts_rem CA hP2, em, (rem_eq_iff CA hl).mpr m1]
    have s3136 : Same H31 H36 := s32.trans (s33.trans (s34.trans (s35.trans s36)))
    have cB36 := cB31.same s3136
    obtain ⟨_, _, db, hb⟩ := id cB36
    have pj : 2 ^ j ≤ 2 ^ 16 := Nat.pow_le_pow_right (by decide) hB1
    have pj0 := Nat.two_pow_pos j
    -- near
    refine ⟨_, rfl, _, rfl, b, db, _, rfl, hb, b, db, _, _, rfl, hb, rfl, _, _, rfl, rfl, ⟨by omega, by omega, by decide⟩, ?_⟩
    walk_at "b"
    rw [shl1]
    refine ⟨g, _, _, rfl, g31.same s3136, by omega, by omega, small_2900 (by omega), fun e' H37 r0 r1 g37 b37 => ?_⟩
    obtain ⟨e, rfl⟩ : ∃ e : Nat, e' = (e : Int) := ⟨e'.toNat, by omega⟩
    have he : e < 2 ^ j := by omega
    have cA37 := (cA31.same s3136).but nag b37
    have cB37 := cB36.but nbg b37
    refine ⟨_, rfl, _, rfl, _, rfl, _, rfl, a, b, i, A, j, B, l, e, rfl, cA37, cB37, hl, he, fun g4 y4 i4 H38 v4 s38 hg4 ey4 c14 c24 hv4 => ?_⟩
    have eg4 := gcd_uniq hgs hg4
    subst eg4
    have ey4' : y = y4 := prod_cancel g0 (by rw [← ey4, ← ey])
    subst ey4'
    have ei4 := same_i i4 c14 c24
    subst ei4
    have hle : l ^^^ e < 2 ^ 1000 := by
      have h16 : 2 ^ i ≤ 2 ^ 16 := Nat.pow_le_pow_right (by decide) hA1
      exact Nat.lt_of_lt_of_le (Nat.xor_lt_two_pow (n := 16) (by omega) (by omega)) (Nat.pow_le_pow_right (by decide) (by decide))
    refine ⟨_, rfl, rfl, _, rfl, _, rfl, _, rfl, _, _, rfl, rfl, ?_⟩
    walk_at "b"
    rw [bx]
    refine ⟨l ^^^ e, gs, rfl, g0, hle, hgl, fun f5 r5 hP5 => ⟨rfl, rfl, _, rfl, ?_⟩⟩
    have e5 : decide (v4 = V.non) = !decide (V.int (r5 : Int) = V.int 0) := by
      have e6 : decide (V.int (r5 : Int) = V.int 0) = decide (r5 = 0) := dec_nat r5 0
      rw [e6]
      rcases hv4 with ⟨z, rfl⟩ | ⟨z, m4, _, _, _, rfl⟩
      · rw [decide_eq_true rfl, decide_eq_false]
        · rfl
        · intro y0
          subst y0
          exact z (parts_dv hP5)
      · rw [decide_eq_false (by intro z; cases z), decide_eq_true (dv_parts g0 hP5 z)]
        rfl
    refine iteNF (by rw [e5]) ?_
    have s31_38 : But g H31 H38 := ((But.of s3136).trans b37).same s38
    refine ⟨_, rfl, rfl, _, rfl, ?_⟩
    walk_at "b"
    refine join3 (fun H' => Same H38 H') (fun H9 s9 => ?_) (fun cc cont => ?_) (fun cc => Same.refl _)
    · exact ⟨_, _, _, _, _, _, rfl, ((b30.trans b31).trans s31_38).same s9, (cA37.same s38).same s9, (cB37.same s38).same s9, ((g37.same s38).same s9).mono (by omega)⟩
    · rcases hv4 with ⟨z, rfl⟩ | ⟨z, m4, hm4, k1, k2, rfl⟩
      · cases cc
      refine ⟨_, rfl, _, rfl, a, i, A, _, rfl, cA37.same s38, by rw [bitsB_len]; omega, fun H43 s43 => ?_⟩
      refine ⟨_, rfl, _, rfl, b, j, B, _, rfl, (cB37.same s38).same s43, by rw [bitsB_len]; omega, fun H44 s44 => ?_⟩
      obtain ⟨x1, x2⟩ := rests m4 l e hm4 hl he k1 k2
      rw [x1, x2]
      refine ⟨(show 2 ≤ sizeLine by decide), fun t45 n45 => ?_⟩
      obtain ⟨H45, e45, s45, h45⟩ := fresh (.lst [V.int l, V.int e]) n45
      rw [e45]
      refine ⟨_, rfl, _, rfl, (show 2 ≤ sizeLine by decide), fun t46 n46 => ?_⟩
      obtain ⟨H46, e46, s46, h46⟩ := fresh (.lst [V.int l, V.int e]) n46
      rw [e46]
      refine ne_lst (ns := [(l : Int), (e : Int)]) (.inl (.inl (s46 _ _ h45))) (.inl (.inl h46)) ⟨_, rfl, iteF ?_⟩
      exact cont _ (s43.trans (s44.trans (s45.trans s46)))
  · rintro σ H30 ⟨v5, v11, v12, v13, v14, v15, rfl, b30, cA30, cB30, g30⟩
    exact q _ b30 (g30.mono (by omega))
end
end My

namespace My
open PySem PySem.Spec PyProof.Rows L2 Pre
theorem gcd_3_11 : Gcd 3 11 1 :=
  gcd_step (parts_end (a := 3) (b := 11) (found := 0) (left := 3) (B := 3) (by decide +kernel) (by decide) (by decide))
    (gcd_step (parts_end (a := 11) (b := 3) (found := 6) (left := 1) (B := 1) (by decide +kernel) (by decide) (by decide))
      (gcd_step (parts_end (a := 3) (b := 1) (found := 3) (left := 0) (B := 0) (by decide +kernel) (by decide) (by decide)) (gcd_zero 1)))
theorem gcd_29_11 : Gcd 29 11 11 := gcd_step (parts_end (a := 29) (b := 11) (found := 3) (left := 0) (B := 3) (by decide +kernel) (by decide) (by decide)) (gcd_zero 11)
theorem dv_11_29 : Dv 11 29 := ⟨3, by decide +kernel⟩
theorem prod_3_11 : prod 3 11 = 29 := by decide +kernel
theorem only_11 : ∀ n : Fin 16, rem 1 3 n.val = 1 → rem 3 11 n.val = 0 → n.val = 11 := by decide +kernel
theorem i_of {i n k : Nat} (h1 : 2 ^ i ≤ n) (h2 : n < 2 ^ (i + 1)) (h3 : 2 ^ k ≤ n) (h4 : n < 2 ^ (k + 1)) : i = k := by
  have a : i < k + 1 := (Nat.pow_lt_pow_iff_right (by decide)).mp (Nat.lt_of_le_of_lt h1 h4)
  have b : k < i + 1 := (Nat.pow_lt_pow_iff_right (by decide)).mp (Nat.lt_of_le_of_lt h3 h2)
  omega
theorem b_1011 : (("1011" : String) : Str) = bS (bitsB 11 4) := by decide +kernel
local macro_rules | `(tactic| walk_at "go") => `(tactic| repeat (first | (with_reducible first | refine iteT ?_ | refine iteF ?_ | refine iteNtt ?_ | refine iteNff ?_ | refine iteET (by omega) ?_ | refine iteEF (by omega) ?_ | refine iteENT (by omega) ?_ | refine iteENF (by omega) ?_ | refine iteDT (by omega) ?_ | refine iteDF (by omega) ?_ | refine iteNT (by omega) ?_ | refine iteNF (by omega) ?_) | refine ⟨_, rfl, ?_⟩ | refine ⟨_, _, rfl, rfl, ?_⟩ | refine ⟨_, _, rfl, ?_⟩ | refine ⟨rfl, ?_⟩ | refine .inl ⟨_, rfl, ?_⟩ | refine .inr ⟨_, rfl, ?_⟩))
local macro_rules | `(tactic| walk_at "b") => `(tactic| try dsimp (config := { proj := false, iota := false, eta := false, zeta := false }) only)
section
variable {P : Program} {w : World} {K : PySem.W.Frag} {mg : Str → Option Value} {base : Heap}
def sp_law (K : PySem.W.Frag) : Sp := fun vs H Q _ => ∃ (a : Addr) (ns : List Int), vs = [.ref a] ∧ SqL K H a (ns.map V.int) ∧ ns.length ≤ 63 ∧ ∀ H', Q (.bl true) H'
theorem G_law (T : Top K mg) : FnG P w K mg base CX0 9 T.f_law T.fd_law ["_law_script"] (sp_law K) := by
  refine FnG.body T.F_law sc_law (fun vs H Q E h => by obtain ⟨a, ns, rfl, _⟩ := h; rfl) (fun cdv A outer s H vs Q E gd hr h => ?_)
  obtain ⟨a, ns, rfl, hS, hn, q⟩ := h
  refine ⟨_, PSs.nox (pss_cons (ps_for PassesOwn.never rfl (pi_range1 (by rfl) T.n_range (pa_cons pe_int pa_nil)) (pg_name (i := 1) sc_law.nd rfl (by first | exact Or.inl rfl | exact Or.inr rfl))
    (pss_cons (ps_set (i := 2) sc_law.nd rfl (by first | exact Or.inl rfl | exact Or.inr rfl) (pe_call (G_law_generator T) (hr.mono (by decide)) (by rfl) T.g_law_generator T.F_law_generator.kp T.b_law_generator .nil pass0 (pa_cons (pv 0) (pa_cons (pv 1) pa_nil))))
  (pss_cons (ps_asg (pe_call (G_law_drawn_pair T) (hr.mono (by decide)) (by rfl) T.g_law_drawn_pair T.F_law_drawn_pair.kp T.b_law_drawn_pair .nil pass0 (pa_cons (pv 2) (pa_cons pe_int pa_nil))) (k_pgL K rfl (by rfl) (pgs_cons (pg_name (i := 5) sc_law.nd rfl (by first | exact Or.inl rfl | exact Or.inr rfl)) (pgs_cons (pg_name (i := 6) sc_law.nd rfl (by first | exact Or.inl rfl | exact Or.inr rfl)) pgs_nil))))
  (pss_cons (ps_if (PW.pt (pw_or (pt_not (pt_val (pe_callG (G_law_all_right T) gd (hr.mono (by decide)) (by rfl) T.g_law_all_right T.F_law_all_right.kp T.b_law_all_right .nil pass0 (pa_cons (pv 2) (pa_cons (pv 5) (pa_cons (pv 6) pa_nil)))))) (pw_or1 (pt_not (pt_val (pe_callG (G_law_all_right T) gd (hr.mono (by decide)) (by rfl) T.g_law_all_right T.F_law_all_right.kp T.b_law_all_right .nil pass0 (pa_cons (pv 2) (pa_cons (pv 6) (pa_cons (pv 5) pa_nil)))))))))
    (pss_one (ps_ret pe_bl))
    pss_nil)
  (pss_cons (ps_asg (pe_call (G_law_drawn_pair T) (hr.mono (by decide)) (by rfl) T.g_law_drawn_pair T.F_law_drawn_pair.kp T.b_law_drawn_pair .nil pass0 (pa_cons (pv 2) (pa_cons pe_int pa_nil))) (k_pgL K rfl (by rfl) (pgs_cons (pg_name (i := 5) sc_law.nd rfl (by first | exact Or.inl rfl | exact Or.inr rfl)) (pgs_cons (pg_name (i := 6) sc_law.nd rfl (by first | exact Or.inl rfl | exact Or.inr rfl)) pgs_nil))))
  (pss_one (ps_if (PW.pt (pw_or (pt_not (pt_val (pe_callG (G_law_great_right T) gd (hr.mono (by decide)) (by rfl) T.g_law_great_right T.F_law_great_right.kp T.b_law_great_right .nil pass0 (pa_cons (pv 2) (pa_cons (pv 5) (pa_cons (pv 6) pa_nil)))))) (pw_or1 (pt_not (pt_val (pe_callG (G_law_great_right T) gd (hr.mono (by decide)) (by rfl) T.g_law_great_right T.F_law_great_right.kp T.b_law_great_right .nil pass0 (pa_cons (pv 2) (pa_cons (pv 6) (pa_cons (pv 5) pa_nil)))))))))
    (pss_one (ps_ret pe_bl))
    pss_nil)))))))
  (pss_cons (ps_par (by rfl) sc_law.nd (i := 3) (j := 4) rfl rfl (by decide) rfl rfl (pa_cons (pe_make T.mk_Check (G_Check___init__ T) (hr.mono (by decide)) (by rfl) T.gc_Check T.b_Check___init__ .nil pass0 (pa_cons pe_int (pa_cons pe_int pa_nil))) (pa_cons (pe_make T.mk_Check (G_Check___init__ T) (hr.mono (by decide)) (by rfl) T.gc_Check T.b_Check___init__ .nil pass0 (pa_cons pe_int (pa_cons pe_int pa_nil))) pa_nil)) (by rfl))
  (pss_cons (ps_if (PW.pt (pw_or (pt_not (pt_val (pe_call (G_also_right T) (hr.mono (by decide)) (by rfl) T.g_also_right T.F_also_right.kp T.b_also_right .nil pass0 (pa_cons (pv 3) (pa_cons (pv 4) pa_nil))))) (pw_or (pt_val (pe_call (G_also_right T) (hr.mono (by decide)) (by rfl) T.g_also_right T.F_also_right.kp T.b_also_right .nil pass0 (pa_cons (pv 4) (pa_cons (pv 3) pa_nil)))) (pw_or1 (pt_cmpR op_ne (pe_call (G_parted_bits T) (hr.mono (by decide)) (by rfl) T.g_parted_bits T.F_parted_bits.kp T.b_parted_bits .nil pass0 (pa_cons (pv 4) (pa_cons (pv 3) pa_nil))) pe_str (nomark _))))))
    (pss_one (ps_ret pe_bl))
    pss_nil)
  (pss_cons (ps_if (PW.pt (pw_or (pt_not (pt_cmpR (op_own_eq T.ec_Check (G_Check___eq__ T) (hr.mono (by decide)) T.b_Check___eq__ pass0) (pe_call (G_together T) (hr.mono (by decide)) (by rfl) T.g_together T.F_together.kp T.b_together .nil pass0 (pa_cons (pe_make T.mk_Check (G_Check___init__ T) (hr.mono (by decide)) (by rfl) T.gc_Check T.b_Check___init__ .nil pass0 (pa_cons pe_int (pa_cons pe_int pa_nil))) (pa_cons (pv 4) pa_nil))) (pv 3) (nomark _))) (pw_or1 (pt_not (pt_cmpR (op_own_eq T.ec_Check (G_Check___eq__ T) (hr.mono (by decide)) T.b_Check___eq__ pass0) (pe_call (G_shared T) (hr.mono (by decide)) (by rfl) T.g_shared T.F_shared.kp T.b_shared .nil pass0 (pa_cons (pv 3) (pa_cons (pv 4) pa_nil))) (pv 4) (nomark _))))))
    (pss_one (ps_ret pe_bl))
    pss_nil)
  (pss_one (ps_ret (pe_and (pe_cmpR op_eq (pe_call (G_bits_with T) (hr.mono (by decide)) (by rfl) T.g_bits_with T.F_bits_with.kp T.b_bits_with .nil pass0 (pa_cons (pe_make T.mk_Check (G_Check___init__ T) (hr.mono (by decide)) (by rfl) T.gc_Check T.b_Check___init__ .nil pass0 (pa_cons pe_int (pa_cons pe_int pa_nil))) (pa_cons (pv 4) (pa_cons pe_int (pa_cons pe_int pa_nil))))) pe_str (nomark _)) (pe_one (pe_cmpR op_isN (pe_call (G_bits_with T) (hr.mono (by decide)) (by rfl) T.g_bits_with T.F_bits_with.kp T.b_bits_with .nil pass0 (pa_cons (pv 3) (pa_cons (pv 4) (pa_cons pe_int (pa_cons pe_int pa_nil))))) pe_non (nomark _)))))))))), ?_⟩
  refine ⟨_, rfl, by decide, by decide, ?_⟩
  walk_at "b"
  refine for_range (lo := 0) (n := 2) (fun i σ H1 => ∃ v1 v2 v5 v6, σ = [some (.ref a), v1, v2, none, none, v5, v6] ∧ Same H H1) ⟨none, none, none, none, rfl, Same.refl _⟩ ?_ ?_
  · rintro i σ H1 hi ⟨v1, v2, v5, v6, rfl, s1⟩
    rw [show (0 : Int) + (i : Int) = i by omega]
    refine ⟨_, rfl, _, rfl, a, ns, i, rfl, s1.seq hS, fun H2 g s2 ng g2 => ?_⟩
    have s02 := s1.trans s2
    have nHg : H g = none := s1.free ng
    refine ⟨_, rfl, g, _, 4, rfl, g2, by omega, by decide, by decide, fun l A B ia ib H3 b3 g3 hl hA hB => ?_⟩
    refine ⟨l, _, rfl, .inl (.inl hl), rfl, _, _, rfl, _, _, rfl, rfl, ?_⟩
    refine ⟨_, rfl, _, rfl, _, rfl, g, _, A, B, ia, ib, rfl, g3, by omega, hA, hB, fun H4 b4 g4 => ⟨_, rfl, iteF ?_⟩⟩
    refine ⟨_, rfl, _, rfl, _, rfl, g, _, B, A, ib, ia, rfl, g4, by omega, hB, hA, fun H5 b5 g5 => ⟨_, rfl, iteF ?_⟩⟩
    refine ⟨_, rfl, g, _, 16, rfl, g5, by omega, by decide, by decide, fun l2 A2 B2 ia2 ib2 H6 b6 g6 hl2 hA2 hB2 => ?_⟩
    refine ⟨l2, _, rfl, .inl (.inl hl2), rfl, _, _, rfl, _, _, rfl, rfl, ?_⟩
    refine ⟨_, rfl, _, rfl, _, rfl, g, _, A2, B2, ia2, ib2, rfl, g6, by omega, hA2, hB2, fun H7 b7 g7 => ⟨_, rfl, iteF ?_⟩⟩
    refine ⟨_, rfl, _, rfl, _, rfl, g, _, B2, A2, ib2, ia2, rfl, g7, by omega, hB2, hA2, fun H8 b8 g8 => ⟨_, rfl, iteF ?_⟩⟩
    exact ⟨_, _, _, _, rfl, But.fresh s02 nHg (((((b3.trans b4).trans b5).trans b6).trans b7).trans b8)⟩
  · rintro σ H1 ⟨v1, v2, v5, v6, rfl, s1⟩
    intro ev dx1 nx1 ndx1 nex1
    refine ⟨ev, dx1, 4, 13, rfl, upd_same, by decide, by decide, by decide, by decide, fun H2 kp2 cE => ⟨rfl, ?_⟩⟩
    intro th dx2 nx2 ndx2 nex2
    refine ⟨th, dx2, 3, 3, rfl, upd_same, by decide, by decide, by decide, by decide, fun H3 kp3 cT => ⟨rfl, _, _, rfl, ?_⟩⟩
    have cE3 := cE.same (new_same nx2 ndx2 kp3)
    change CheckAt T.C_Check H3 ev 4 29 at cE3
    change CheckAt T.C_Check H3 th 3 11 at cT
    refine ⟨_, rfl, _, rfl, ev, th, 4, 29, 3, 11, rfl, cE3, cT, fun H4 c s4 hc => ⟨_, rfl, ?_⟩⟩
    rw [hc.mpr dv_11_29]
    refine iteF ?_
    refine ⟨_, rfl, _, rfl, th, ev, 3, 11, 4, 29, rfl, cT.same s4, cE3.same s4, fun H5 c2 s5 hc2 => ⟨_, rfl, ?_⟩⟩
    have nd : ¬ Dv 29 11 := fun z => by have := dv_least z (by decide); omega
    have ec2 : c2 = false := by
      cases c2 with
      | true => exact absurd (hc2.mp rfl) nd
      | false => rfl
    subst ec2
    refine iteF ?_
    have s35 := s4.trans s5
    refine ⟨_, rfl, _, rfl, th, ev, 3, 11, 4, 29, rfl, cT.same s35, cE3.same s35, fun H6 v s6 hv => ?_⟩
    obtain ⟨_, rfl⟩ : ¬ Dv 29 11 ∧ v = .str (bS (bitsB 11 4)) := by
      rcases hv with ⟨z, _⟩ | z
      · exact absurd z nd
      · exact z
    refine ⟨rfl, _, rfl, iteNF (by rw [b_1011]) ?_⟩
    have s36 := s35.trans s6
    -- together, shared
    intro on dx3 nx3 ndx3 nex3
    refine ⟨on, dx3, 1, 1, rfl, upd_same, by decide, by decide, by decide, by decide, fun H7 kp7 cO => ⟨rfl, ?_⟩⟩
    change CheckAt T.C_Check H7 on 1 3 at cO
    have s37 := s36.trans (new_same nx3 ndx3 kp7)
    refine ⟨_, rfl, on, th, 1, 3, 3, 11, rfl, cO, cT.same s37, fun g y i H8 v8 s8 hg ey c1 c2 hv8 => ?_⟩
    have eg := gcd_uniq gcd_3_11 hg
    subst eg
    rw [prod_one] at ey
    subst ey
    rw [prod_3_11] at c1 c2 hv8
    have ei := i_of c1 c2 (k := 4) (by decide) (by decide)
    subst ei
    obtain ⟨x8, rfl, _, cX⟩ : ∃ x, v8 = .ref x ∧ H7 x = none ∧ CheckAt T.C_Check H8 x 4 29 := by
      rcases hv8 with ⟨_, z⟩ | ⟨z, _⟩
      · exact z
      · omega
    have s38 := s37.trans s8
    obtain ⟨_, _, dy5, hy5⟩ := id (cE3.same s38)
    obtain ⟨_, _, dy6, hy6⟩ := id cX
    refine ⟨_, rfl, x8, _, _, rfl, hy6, ⟨ev, rfl, .inl ⟨_, _, hy5⟩⟩, x8, ev, 4, 29, _, rfl, cX, .inl ⟨4, 29, cE3.same s38, rfl⟩, _, rfl, ?_⟩
    rw [decide_eq_true ⟨rfl, rfl⟩]
    refine ⟨_, rfl, iteF ?_⟩
    refine ⟨_, rfl, _, rfl, ev, th, 4, 29, 3, 11, rfl, cE3.same s38, cT.same s38, fun g H9 v9 s9 hg9 hv9 => ?_⟩
    have eg9 := gcd_uniq gcd_29_11 hg9
    subst eg9
    obtain ⟨i9, x9, _, rfl, _, cY⟩ : ∃ i x, (11 : Nat) ≠ 1 ∧ v9 = .ref x ∧ H8 x = none ∧ CheckAt T.C_Check H9 x i 11 := by
      rcases hv9 with ⟨z, _⟩ | z
      · omega
      · exact z
    have ei9 := i_of (Nat.le_of_lt cY.1.lo) cY.1.hi (k := 3) (by decide) (by decide)
    subst ei9
    have s39 := s38.trans s9
    obtain ⟨_, _, dy7, hy7⟩ := id (cT.same s39)
    obtain ⟨_, _, dy8, hy8⟩ := id cY
    refine ⟨_, rfl, x9, _, _, rfl, hy8, ⟨th, rfl, .inl ⟨_, _, hy7⟩⟩, x9, th, 3, 11, _, rfl, cY, .inl ⟨3, 11, cT.same s39, rfl⟩, _, rfl, ?_⟩
    rw [decide_eq_true ⟨rfl, rfl⟩]
    refine ⟨_, rfl, iteF ?_⟩
    -- bits_with
    intro on2 dx4 nx4 ndx4 nex4
    refine ⟨on2, dx4, 1, 1, rfl, upd_same, by decide, by decide, by decide, by decide, fun H10 kp10 cO2 => ⟨rfl, ?_⟩⟩
    change CheckAt T.C_Check H10 on2 1 3 at cO2
    have s310 := s39.trans (new_same nx4 ndx4 kp10)
    refine ⟨_, rfl, on2, th, 1, 3, 3, 11, 1, 0, rfl, cO2, cT.same s310, by decide, by decide, fun g y i H11 v11 s11 hg11 ey11 c1 c2 hv11 => ?_⟩
    have eg11 := gcd_uniq gcd_3_11 hg11
    subst eg11
    rw [prod_one] at ey11
    subst ey11
    rw [prod_3_11] at c1 c2
    have ei11 := i_of c1 c2 (k := 4) (by decide) (by decide)
    subst ei11
    obtain ⟨m, hm, m1, m2, rfl⟩ : ∃ m, m < 2 ^ 4 ∧ Dv 3 (m ^^^ 1) ∧ Dv 11 (m ^^^ 0) ∧ v11 = .str (bS (bitsB m 4)) := by
      rcases hv11 with ⟨z, _⟩ | ⟨_, z⟩
      · exact absurd ⟨1, by decide +kernel⟩ z
      · exact z
    have em := only_11 ⟨m, by omega⟩ ((rem_eq_iff cO2.1 (by decide)).mpr m1) ((rem_eq_iff cT.1 (by decide)).mpr m2)
    change m = 11 at em
    subst em
    refine ⟨rfl, _, rfl, ?_⟩
    rw [b_1011, decide_eq_true rfl]
    refine iteT ?_
    have s311 := s310.trans s11
    refine ⟨_, rfl, _, rfl, ev, th, 4, 29, 3, 11, 1, 0, rfl, cE3.same s311, cT.same s311, by decide, by decide, fun g y i H12 v12 s12 hg12 ey12 c1 c2 hv12 => ?_⟩
    have eg12 := gcd_uniq gcd_29_11 hg12
    subst eg12
    have nd2 : ¬ Dv 11 (1 ^^^ 0) := fun z => by
      have := dv_least z (by decide)
      have e : (1 : Nat) ^^^ 0 = 1 := by decide
      omega
    have ev12 : v12 = .non := by
      rcases hv12 with ⟨_, z⟩ | ⟨z, _⟩
      · exact z
      · exact absurd z nd2
    subst ev12
    exact ⟨rfl, q _⟩
end
end My

open PySem PySem.W PySem.Calls PyProof.Rows
set_option maxRecDepth 100000 in
set_option maxHeartbeats 0 in
theorem PySem.Challenge.cw_wholesound_k67_whole_pairs_of_checks_holds : PySem.Challenge.rw_wholesound_k67_whole_pairs_of_checks.Holds := by
  w_on; o_law
  refine HandSHeadRun.head_any (r := OpenLaw.row PySem.Challenge.rw_wholesound_k67_whole_pairs_of_checks) (q := view (OpenLaw.row PySem.Challenge.rw_wholesound_k67_whole_pairs_of_checks).prog [50]) (H := My.hk) (ob := My.ob) (M := 8000) (loose := My.loose) (d := HandSHeadRun.topDef (OpenLaw.row PySem.Challenge.rw_wholesound_k67_whole_pairs_of_checks).prog 50) (kwd := []) My.ob_eq
    (by kernel_rfl) (fun s => by kernel_rfl) My.run (by kernel_rfl) (by kernel_rfl) (by kernel_rfl) (by rfl) (by first | assumption | decide +kernel) (by decide +kernel) ⟨rfl, rfl, rfl, rfl, rfl, by decide +kernel⟩ ?hw ?hc
  case hw => w_witness2
  case hc =>
    refine My.end_g (l := PySem.Challenge.rw_wholesound_k67_whole_pairs_of_checks) (n := 63) (k := 9) (x := "_law_script") rfl (by decide) (by kernel_rfl) ⟨rfl, by decide, by decide⟩ ?F
    intro w mg fa h Y G hmg0
    obtain ⟨K, KX, c⟩ := Y
    have hmg : mg ("law" : PySem.Str) = some (.ref fa) := by
      have e : (HandSHeadRun.topDef (OpenLaw.row PySem.Challenge.rw_wholesound_k67_whole_pairs_of_checks).prog 50).name = ("law" : PySem.Str) := by kernel_rfl
      rw [← e]
      exact hmg0
    have T : My.Top K mg := My.top_mk KX G c
    have e := hmg.symm.trans T.g_law
    cases e
    have b := L2.FunD.bindsA (ps := ["_law_script"]) T.F_law fun _ _ _ _ _ _ us hl => match us, hl with | [_], _ => rfl
    exact ⟨K, T.fd_law, My.sp_law K, KX, fun s v => b s [v] rfl, fun H a ns hl hS => ⟨a, ns, rfl, hS, hl, fun _ => rfl⟩, fun base _ _ => My.G_law T⟩


