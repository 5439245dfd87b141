import PyProof.Rows.All
import Wide.All
import OpenK.AllK
import Wide.FinOn
import KE.KStateDown
import Lean
import HandS.ForMost
import HandS.Exc
import HandS.Flow
import HandS.DictComp
import HandS.Style
import HandS.Wide
import HandS.WideBits
import HandS.IsInst
import HandS.Codes
import HandS.Walk
import HandS.Words
import HandS.WordsExc
import HandS.Defaults
import HandS.Head0
import HandS.Head1
import HandS.Head2
import HandS.HeadEnd
import HandS.HeadHook1
import HandS.HeadHook2
import HandS.SortInts
import PyProof.Rows.SortShellAny
import PyProof.InstNe
import KE.DataMinMax
import KE.SortData
import KE.IntBitsLaws
import KE.BitLaws
import HandS.Deep
import PySem.Challenge.RW_wholesound_k40_prices_by_bits
set_option Elab.async false
set_option linter.all false
set_option maxRecDepth 100000
set_option maxHeartbeats 4000000
set_option exponentiation.threshold 100000
namespace Pre
open PySem PySem.Spec PyProof.Rows L2
/-! ### heaps -/
theorem same_upd {H : Hp} {p : Addr} {o : HO} (h : H p = none) : Same H (upd H p o) := fun b x e => by
  rw [upd_ne (ne_of_none e h)]
  exact e
/-- a fresh thing that is then changed is no change of what was -/
theorem same_over {H H' : Hp} {p : Addr} {o : HO} (n : H p = none) (s : Same H H') : Same H (upd H' p o) := fun b x e => by
  rw [upd_ne (ne_of_none e n)]
  exact s b x e
theorem Same.tup {K : PySem.W.Frag} {H H' : Hp} {a : Addr} {xs : List V} (e : Same H H') (h : SqT K H a xs) : SqT K H' a xs := by
  rcases h with (h | ⟨o, h⟩) | h
  · exact .inl (.inl (e _ _ h))
  · exact .inl (.inr ⟨o, e _ _ h⟩)
  · exact .inr h
mutual
theorem dp_same {K : PySem.W.Frag} {H H' : Hp} (s : Same H H') : ∀ (d : PyData) (v : V), Dp K H v d → Dp K H' v d
  | .none, _, h => by cases h; exact .non
  | .bool _, _, h => by cases h; exact .bl _
  | .int _, _, h => by cases h; exact .int _
  | .str _, _, h => by cases h; exact .str _
  | .list ds, _, h => by cases h with | lst a b => exact .lst (s.seq a) (dps_same s ds _ b)
  | .tuple ds, _, h => by cases h with | tup a b => exact .tup (Same.tup s a) (dps_same s ds _ b)
  | .dict _, _, h => nomatch h
theorem dps_same {K : PySem.W.Frag} {H H' : Hp} (s : Same H H') : ∀ (ds : List PyData) (vs : List V), DpAll K H vs ds → DpAll K H' vs ds
  | [], _, h => by cases h; exact .nil
  | d :: ds, _, h => by cases h with | cons a b => exact .cons (dp_same s d _ a) (dps_same s ds _ b)
end
theorem dp_ints {K : PySem.W.Frag} {H : Hp} : ∀ ns : List Int, DpAll K H (ns.map V.int) (ns.map PyData.int)
  | [] => .nil
  | n :: r => .cons (.int n) (dp_ints r)
theorem eqv_ints : ∀ ns ms : List Int, PyData.eqvAll (ns.map PyData.int) (ms.map PyData.int) = decide (ns = ms)
  | [], [] => rfl
  | [], _ :: _ => rfl
  | _ :: _, [] => rfl
  | n :: r, m :: q => by
    show (PyData.eqv (.int n) (.int m) && PyData.eqvAll (r.map PyData.int) (q.map PyData.int)) = decide (n :: r = m :: q)
    rw [eqv_ints r q]
    show ((n == m) && decide (r = q)) = decide (n :: r = m :: q)
    by_cases h : n = m
    · subst h; simp
    · simp [h]
theorem lay_ints : ∀ ns : List Int, PyData.canLayAll0 (ns.map PyData.int) = true
  | [] => rfl
  | n :: r => by
    show (PyData.canLay0 (.int n) && PyData.canLayAll0 (r.map PyData.int)) = true
    rw [lay_ints r]
    rfl
theorem depth_ints : ∀ ns : List Int, PyData.depthAll (ns.map PyData.int) = 0
  | [] => by simp [PyData.depthAll]
  | n :: r => by
    show PyData.depthAll (.int n :: r.map PyData.int) = 0
    rw [PyData.depthAll, depth_ints r]
    simp [PyData.depth]
theorem shaped_ints (ns : List Int) : SeqAt.shaped (.list (ns.map PyData.int)) = true := by
  unfold SeqAt.shaped
  rw [PyData.canLay0, lay_ints, PyData.depth, depth_ints]
  rfl
theorem shaped_tup (ns : List Int) : SeqAt.shaped (.tuple (ns.map PyData.int)) = true := by
  unfold SeqAt.shaped
  rw [PyData.canLay0, lay_ints, PyData.depth, depth_ints]
  rfl
/-! ### comparisons of lists and tuples of whole numbers that are told alike -/
theorem ne_tup {K : PySem.W.Frag} {H : Hp} {a b : Addr} {ns : List Int} {Q : V → Hp → Prop} (ha : SqT K H a (ns.map V.int)) (hb : SqT K H b (ns.map V.int)) (q : Q (.bl false) H) : rNeD K (.ref a) (.ref b) H Q := by
  refine ⟨.tuple (ns.map PyData.int), .tuple (ns.map PyData.int), .tup ha (dp_ints ns), .tup hb (dp_ints ns), shaped_tup ns, shaped_tup ns, ?_⟩
  rw [PyData.eqv, eqv_ints, decide_eq_true rfl]
  exact q
theorem eq_tup {K : PySem.W.Frag} {H : Hp} {a b : Addr} {ns : List Int} {Q : V → Hp → Prop} (ha : SqT K H a (ns.map V.int)) (hb : SqT K H b (ns.map V.int)) (q : Q (.bl true) H) : rEqD K (.ref a) (.ref b) H Q := by
  refine ⟨.tuple (ns.map PyData.int), .tuple (ns.map PyData.int), .tup ha (dp_ints ns), .tup hb (dp_ints ns), shaped_tup ns, shaped_tup ns, ?_⟩
  rw [PyData.eqv, eqv_ints, decide_eq_true rfl]
  exact q
/-- lists of whole numbers, compared -/
theorem eqD_lst {K : PySem.W.Frag} {H : Hp} {a b : Addr} {ns ms : List Int} {Q : V → Hp → Prop} (ha : SqL K H a (ns.map V.int)) (hb : SqL K H b (ms.map V.int)) (q : Q (.bl (decide (ns = ms))) H) : rEqD K (.ref a) (.ref b) H Q := by
  refine ⟨.list (ns.map PyData.int), .list (ms.map PyData.int), .lst ha (dp_ints ns), .lst hb (dp_ints ms), shaped_ints ns, shaped_ints ms, ?_⟩
  rw [PyData.eqv, eqv_ints]
  exact q
theorem neD_lst {K : PySem.W.Frag} {H : Hp} {a b : Addr} {ns ms : List Int} {Q : V → Hp → Prop} (ha : SqL K H a (ns.map V.int)) (hb : SqL K H b (ms.map V.int)) (q : Q (.bl (!decide (ns = ms))) H) : rNeD K (.ref a) (.ref b) H Q := by
  refine ⟨.list (ns.map PyData.int), .list (ms.map PyData.int), .lst ha (dp_ints ns), .lst hb (dp_ints ms), shaped_ints ns, shaped_ints ms, ?_⟩
  rw [PyData.eqv, eqv_ints]
  exact q
theorem ne_lst {K : PySem.W.Frag} {H : Hp} {a b : Addr} {ns : List Int} {Q : V → Hp → Prop} (ha : SqL K H a (ns.map V.int)) (hb : SqL K H b (ns.map V.int)) (q : Q (.bl false) H) : rNeD K (.ref a) (.ref b) H Q :=
  neD_lst ha hb (by rw [decide_eq_true rfl]; exact q)
theorem eq_lst {K : PySem.W.Frag} {H : Hp} {a b : Addr} {ns : List Int} {Q : V → Hp → Prop} (ha : SqL K H a (ns.map V.int)) (hb : SqL K H b (ns.map V.int)) (q : Q (.bl true) H) : rEqD K (.ref a) (.ref b) H Q :=
  eqD_lst ha hb (by rw [decide_eq_true rfl]; exact q)
/-! ### powers -/
def CPowW (i j : Int) : Prop := 0 ≤ j ∧ (Builtin.Int.intBits i : Int) * j ≤ 2 ^ 27
theorem op_powW {X : Cx} : OpR X (binaryOp .Pow) (rI CPowW fun i j => .int (i ^ j.toNat)) := opI fun _ _ _ _ _ _ _ hc q => pow_int hc.1 hc.2 q
/-! ### comprehensions whose parts leave what is tracked as it is: sel tells of each item what comes of it -/
theorem take_fm {α : Type} {l : List (Option α)} {i : Nat} {o : Option α} (h : l[i]? = some o) : (l.take (i + 1)).filterMap id = (l.take i).filterMap id ++ o.toList := by
  rw [List.take_add_one, h, List.filterMap_append]
  cases o <;> rfl
theorem fm_len {α : Type} (l : List (Option α)) (i : Nat) : ((l.take i).filterMap id).length ≤ l.length :=
  Nat.le_trans (List.length_filterMap_le _ _) (by rw [List.length_take]; omega)
theorem lc_selL {K : PySem.W.Frag} {a : Addr} {xs : List V} {j : Nat} {tt : TT} {te : TE} {vs : List Nat} {σ : L2.St} {H1 : Hp} {D : Addr} {Qd : Hp → Prop} (sel : List (Option V)) (nD : H1 D = none) (hS : SqL K H1 a xs) (hlen : sel.length = xs.length) (hz : xs.length < sizeLine)
    (hw : ∀ x, wipe ((wipe σ vs).set j (some x)) vs = wipe σ vs)
    (hs : ∀ (i : Nat) (x : V) (o : Option V) (H' : Hp), xs[i]? = some x → sel[i]? = some o → Same H1 H' → ∀ Qt : Option V → Hp → Prop, (∀ H'', Same H' H'' → Qt o H'') →
      tt ((wipe σ vs).set j (some x)) H' fun b H3 => if b = true then te ((wipe σ vs).set j (some x)) H3 fun y H4 => Qt (some y) H4 else Qt none H3)
    (hd : ∀ H', Same H1 H' → H' D = some (.lst (sel.filterMap id)) → Qd H') :
    ∃ W : Nat → Nat → Hp → Prop, (∃ m, W 0 m (upd H1 D (.lst []))) ∧ ∀ i m H, W i m H →
      ((Itl K a).stop i H ∧ Qd H) ∨ ((Itl K a).go i H ∧ ∃ Nx : Hp → Prop, (∀ H', Nx H' → ∃ m', m' < m ∧ W (i + 1) m' H') ∧ ∀ x H', (Itl K a).yld i H x H' → gName j x (wipe σ vs) H' fun σ2 H2 => wipe σ2 vs = wipe σ vs ∧ tt σ2 H2 fun b H3 =>
        if b = true then te σ2 H3 fun y H4 => ∃ acc, H4 D = some (.lst acc) ∧ acc.length < sizeLine ∧ Nx (upd H4 D (.lst (acc ++ [y]))) else Nx H3) := by
  refine lc_list (K := K) (a := a) (xs := xs) (fun i H => Same H1 H ∧ H D = some (.lst ((sel.take i).filterMap id))) ⟨same_upd nD, upd_same⟩ (fun i H _ p => p.1.seq hS) ?_ ?_
  · rintro i x H hx ⟨s, hD⟩
    refine ⟨hw x, ?_⟩
    have hi : i < sel.length := by rw [hlen]; exact (List.getElem?_eq_some_iff.mp hx).1
    have ho : sel[i]? = some sel[i] := List.getElem?_eq_getElem hi
    have hl : ((sel.take i).filterMap id).length < sizeLine := Nat.lt_of_le_of_lt (fm_len sel i) (by omega)
    refine hs i x sel[i] H hx ho s (fun o H4 => match o with
      | some y => ∃ acc, H4 D = some (.lst acc) ∧ acc.length < sizeLine ∧ (Same H1 (upd H4 D (.lst (acc ++ [y]))) ∧ (upd H4 D (.lst (acc ++ [y]))) D = some (.lst ((sel.take (i + 1)).filterMap id)))
      | none => Same H1 H4 ∧ H4 D = some (.lst ((sel.take (i + 1)).filterMap id))) fun H4 s4 => ?_
    generalize sel[i] = o at ho ⊢
    cases o with
    | some y =>
      refine ⟨_, s4 _ _ hD, hl, same_over nD (s.trans s4), ?_⟩
      rw [upd_same, take_fm ho]
      rfl
    | none =>
      refine ⟨s.trans s4, ?_⟩
      rw [take_fm ho, s4 _ _ hD]
      simp
  · rintro H ⟨s, hD⟩
    refine hd H s ?_
    rw [hD, ← hlen, List.take_length]
/-- the items of a range -/
def rgV (lo : Int) (n : Nat) : List V := (List.range n).map fun (i : Nat) => V.int (lo + (i : Int))
theorem lc_selR {lo : Int} {n : Nat} {j : Nat} {tt : TT} {te : TE} {vs : List Nat} {σ : L2.St} {H1 : Hp} {D : Addr} {Qd : Hp → Prop} (sel : List (Option V)) (nD : H1 D = none) (hlen : sel.length = n) (hz : n < sizeLine)
    (hw : ∀ x, wipe ((wipe σ vs).set j (some x)) vs = wipe σ vs)
    (hs : ∀ (i : Nat) (o : Option V) (H' : Hp), i < n → sel[i]? = some o → Same H1 H' → ∀ Qt : Option V → Hp → Prop, (∀ H'', Same H' H'' → Qt o H'') →
      tt ((wipe σ vs).set j (some (.int (lo + (i : Int))))) H' fun b H3 => if b = true then te ((wipe σ vs).set j (some (.int (lo + (i : Int))))) H3 fun y H4 => Qt (some y) H4 else Qt none H3)
    (hd : ∀ H', Same H1 H' → H' D = some (.lst (sel.filterMap id)) → Qd H') :
    ∃ W : Nat → Nat → Hp → Prop, (∃ m, W 0 m (upd H1 D (.lst []))) ∧ ∀ i m H, W i m H →
      ((Itr lo n).stop i H ∧ Qd H) ∨ ((Itr lo n).go i H ∧ ∃ Nx : Hp → Prop, (∀ H', Nx H' → ∃ m', m' < m ∧ W (i + 1) m' H') ∧ ∀ x H', (Itr lo n).yld i H x H' → gName j x (wipe σ vs) H' fun σ2 H2 => wipe σ2 vs = wipe σ vs ∧ tt σ2 H2 fun b H3 =>
        if b = true then te σ2 H3 fun y H4 => ∃ acc, H4 D = some (.lst acc) ∧ acc.length < sizeLine ∧ Nx (upd H4 D (.lst (acc ++ [y]))) else Nx H3) := by
  refine lc_range (lo := lo) (n := n) (fun i H => Same H1 H ∧ H D = some (.lst ((sel.take i).filterMap id))) ⟨same_upd nD, upd_same⟩ ?_ ?_
  · rintro i H hi' ⟨s, hD⟩
    refine ⟨hw _, ?_⟩
    have hi : i < sel.length := by rw [hlen]; exact hi'
    have ho : sel[i]? = some sel[i] := List.getElem?_eq_getElem hi
    have hl : ((sel.take i).filterMap id).length < sizeLine := Nat.lt_of_le_of_lt (fm_len sel i) (by omega)
    refine hs i sel[i] H hi' ho s (fun o H4 => match o with
      | some y => ∃ acc, H4 D = some (.lst acc) ∧ acc.length < sizeLine ∧ (Same H1 (upd H4 D (.lst (acc ++ [y]))) ∧ (upd H4 D (.lst (acc ++ [y]))) D = some (.lst ((sel.take (i + 1)).filterMap id)))
      | none => Same H1 H4 ∧ H4 D = some (.lst ((sel.take (i + 1)).filterMap id))) fun H4 s4 => ?_
    generalize sel[i] = o at ho ⊢
    cases o with
    | some y =>
      refine ⟨_, s4 _ _ hD, hl, same_over nD (s.trans s4), ?_⟩
      rw [upd_same, take_fm ho]
      rfl
    | none =>
      refine ⟨s.trans s4, ?_⟩
      rw [take_fm ho, s4 _ _ hD]
      simp
  · rintro H ⟨s, hD⟩
    refine hd H s ?_
    rw [hD, ← hlen, List.take_length]
theorem fm_some {α : Type} (ys : List α) : (ys.map some).filterMap id = ys := by
  rw [List.filterMap_map]
  show List.filterMap (fun y => some y) ys = ys
  exact List.filterMap_some
/-- no test: ys tells what comes of each item -/
theorem lc_mapL {K : PySem.W.Frag} {a : Addr} {xs : List V} {j : Nat} {te : TE} {vs : List Nat} {σ : L2.St} {H1 : Hp} {D : Addr} {Qd : Hp → Prop} (ys : List V) (nD : H1 D = none) (hS : SqL K H1 a xs) (hlen : ys.length = xs.length) (hz : xs.length < sizeLine)
    (hw : ∀ x, wipe ((wipe σ vs).set j (some x)) vs = wipe σ vs)
    (hs : ∀ (i : Nat) (x y : V) (H' : Hp), xs[i]? = some x → ys[i]? = some y → Same H1 H' → ∀ Qt : V → Hp → Prop, (∀ H'', Same H' H'' → Qt y H'') → te ((wipe σ vs).set j (some x)) H' Qt)
    (hd : ∀ H', Same H1 H' → H' D = some (.lst ys) → Qd H') :
    ∃ W : Nat → Nat → Hp → Prop, (∃ m, W 0 m (upd H1 D (.lst []))) ∧ ∀ i m H, W i m H →
      ((Itl K a).stop i H ∧ Qd H) ∨ ((Itl K a).go i H ∧ ∃ Nx : Hp → Prop, (∀ H', Nx H' → ∃ m', m' < m ∧ W (i + 1) m' H') ∧ ∀ x H', (Itl K a).yld i H x H' → gName j x (wipe σ vs) H' fun σ2 H2 => wipe σ2 vs = wipe σ vs ∧ tYes σ2 H2 fun b H3 =>
        if b = true then te σ2 H3 fun y H4 => ∃ acc, H4 D = some (.lst acc) ∧ acc.length < sizeLine ∧ Nx (upd H4 D (.lst (acc ++ [y]))) else Nx H3) := by
  refine lc_selL (K := K) (a := a) (xs := xs) (tt := tYes) (ys.map some) nD hS (by rw [List.length_map]; exact hlen) hz hw ?_ ?_
  · intro i x o H' hx ho s Qt qt
    rw [List.getElem?_map] at ho
    obtain ⟨y, hy, rfl⟩ := Option.map_eq_some_iff.mp ho
    show if true = true then te ((wipe σ vs).set j (some x)) H' (fun y H4 => Qt (some y) H4) else Qt none H'
    exact iteT (hs i x y H' hx hy s (fun y H4 => Qt (some y) H4) qt)
  · intro H' s hD
    rw [fm_some] at hD
    exact hd H' s hD
theorem lc_mapR {lo : Int} {n : Nat} {j : Nat} {te : TE} {vs : List Nat} {σ : L2.St} {H1 : Hp} {D : Addr} {Qd : Hp → Prop} (ys : List V) (nD : H1 D = none) (hlen : ys.length = n) (hz : n < sizeLine)
    (hw : ∀ x, wipe ((wipe σ vs).set j (some x)) vs = wipe σ vs)
    (hs : ∀ (i : Nat) (y : V) (H' : Hp), i < n → ys[i]? = some y → Same H1 H' → ∀ Qt : V → Hp → Prop, (∀ H'', Same H' H'' → Qt y H'') → te ((wipe σ vs).set j (some (.int (lo + (i : Int))))) H' Qt)
    (hd : ∀ H', Same H1 H' → H' D = some (.lst ys) → Qd H') :
    ∃ W : Nat → Nat → Hp → Prop, (∃ m, W 0 m (upd H1 D (.lst []))) ∧ ∀ i m H, W i m H →
      ((Itr lo n).stop i H ∧ Qd H) ∨ ((Itr lo n).go i H ∧ ∃ Nx : Hp → Prop, (∀ H', Nx H' → ∃ m', m' < m ∧ W (i + 1) m' H') ∧ ∀ x H', (Itr lo n).yld i H x H' → gName j x (wipe σ vs) H' fun σ2 H2 => wipe σ2 vs = wipe σ vs ∧ tYes σ2 H2 fun b H3 =>
        if b = true then te σ2 H3 fun y H4 => ∃ acc, H4 D = some (.lst acc) ∧ acc.length < sizeLine ∧ Nx (upd H4 D (.lst (acc ++ [y]))) else Nx H3) := by
  refine lc_selR (lo := lo) (n := n) (tt := tYes) (ys.map some) nD (by rw [List.length_map]; exact hlen) hz hw ?_ ?_
  · intro i o H' hi ho s Qt qt
    rw [List.getElem?_map] at ho
    obtain ⟨y, hy, rfl⟩ := Option.map_eq_some_iff.mp ho
    show if true = true then te ((wipe σ vs).set j (some (.int (lo + (i : Int))))) H' (fun y H4 => Qt (some y) H4) else Qt none H'
    exact iteT (hs i y H' hi hy s (fun y H4 => Qt (some y) H4) qt)
  · intro H' s hD
    rw [fm_some] at hD
    exact hd H' s hD
/-- an item of a list of whole numbers -/
theorem int_at {ns : List Int} {i : Nat} {x : V} (h : (ns.map V.int)[i]? = some x) : ∃ n, ns[i]? = some n ∧ x = .int n := by
  rw [List.getElem?_map] at h
  obtain ⟨n, hn, e⟩ := Option.map_eq_some_iff.mp h
  exact ⟨n, hn, e.symm⟩
/-! ### rules with the written part named (within a comprehension Lean doesn't find it) -/
section
variable {X : Cx}
theorem k_len (K : PySem.W.Frag) (h : X.K = K) : CallR X (.builtin "len") (fun xs H Q => ∃ p ys, xs = [.ref p] ∧ (SqL K H p ys ∨ SqT K H p ys) ∧ Q (.int ys.length) H) := by subst h; exact call_len_seq
theorem k_sum (K : PySem.W.Frag) (h : X.K = K) (hc : X.calm = true) : CallR X (.builtin "sum") (rSum K) := by subst h; exact cr_sum hc
theorem k_max (K : PySem.W.Frag) (h : X.K = K) (hc : X.calm = true) : CallR X (.builtin "max") (rMax K) := by subst h; exact cr_max hc
theorem k_min (K : PySem.W.Frag) (h : X.K = K) (hc : X.calm = true) : CallR X (.builtin "min") (rMin K) := by subst h; exact cr_min hc
theorem k_isi (K : PySem.W.Frag) (h : X.K = K) : CallR X (.builtin "isinstance") (rIsi K) := by subst h; exact call_isi
theorem k_listOf (K : PySem.W.Frag) (h : X.K = K) : CallR X (.type "list") (fun xs H Q => ∃ p ys, xs = [.ref p] ∧ (SqL K H p ys ∨ SqT K H p ys) ∧ ∀ l, H l = none → Q (.ref l) (upd H l (.lst ys))) := by subst h; exact call_list_of
theorem k_tupleOf (K : PySem.W.Frag) (h : X.K = K) : CallR X (.type "tuple") (fun xs H Q => ∃ p ys, xs = [.ref p] ∧ ((SqL K H p ys ∧ ∀ l, H l = none → Q (.ref l) (upd H l (.tup ys))) ∨ (SqT K H p ys ∧ Q (.ref p) H))) := by subst h; exact call_tuple_of
theorem k_ixL (K : PySem.W.Frag) (h : X.K = K) : IxR X (rIxL K) := by subst h; exact ix_list
theorem k_ixT (K : PySem.W.Frag) (h : X.K = K) : IxR X (rIxT K) := by subst h; exact ix_tup
theorem k_slL (K : PySem.W.Frag) (h : X.K = K) : SlR X (rSlL K) := by subst h; exact sl_list
theorem k_slT (K : PySem.W.Frag) (h : X.K = K) : SlR X (rSlT K) := by subst h; exact sl_tup
theorem k_eqD (K : PySem.W.Frag) (h : X.K = K) (hu : X.A.units + 64 < cLine) : OpR X (compareOp .Eq) (rEqD K) := by subst h; exact op_eqD hu
theorem k_neD (K : PySem.W.Frag) (h : X.K = K) (hu : X.A.units + 64 < cLine) : OpR X (compareOp .NotEq) (rNeD K) := by subst h; exact op_neD hu
theorem k_in (K : PySem.W.Frag) (h : X.K = K) : OpR X (compareOp .In) (rIn K false) := by subst h; exact op_in_seq
theorem k_notIn (K : PySem.W.Frag) (h : X.K = K) : OpR X (compareOp .NotIn) (rIn K true) := by subst h; exact op_notIn_seq
theorem k_piL (K : PySem.W.Frag) (h : X.K = K) {tg l : Expr} {tl : TE} (hl : PE X l tl) : PI X tg l (iList K tl) := by subst h; exact pi_list hl
theorem k_piT (K : PySem.W.Frag) (h : X.K = K) {tg l : Expr} {tl : TE} (hl : PE X l tl) : PI X tg l (iTup K tl) := by subst h; exact pi_tup hl
theorem k_piE (K : PySem.W.Frag) (h : X.K = K) {e : Expr} {ta : TA} {p pos tpos : Pos} {elts : List Expr} {kk : Nat} (hg : Gl X "enumerate") (hm : X.mg "enumerate" = none) (ha : PA X [e] ta) (hs : starEach [e] X.env = [(false, eval e X.env)] := by rfl) : PI X (.Tuple elts kk tpos) (.Call (.Name "enumerate" p) [e] [] pos) (iEnum K ta) := by subst h; exact pi_enum hg hm ha hs
theorem k_pgT (K : PySem.W.Frag) (h : X.K = K) {es : List Expr} {k : Nat} {t : TGs} {n : Nat} {pos : Pos} (hc : X.calm = true) (hp : PGs X es t) (hn : (assignEach es X.env).length = n := by rfl) (hst : (assignEach es X.env).findIdx? (·.1) = none := by rfl) : PG X (.Tuple es k pos) (gTup K n t) := by subst h; exact pg_tup hc hp hn hst
theorem k_index (K : PySem.W.Frag) (h : X.K = K) : MtR X "list.index" (rIndex K) := by subst h; exact mt_index
end
/-! ### small things -/
theorem fresh {H : Hp} {p : Addr} (o : HO) (np : H p = none) : ∃ H', upd H p o = H' ∧ Same H H' ∧ H' p = some o := ⟨_, rfl, same_upd np, upd_same⟩
theorem cut_take (xs : List V) (k : Nat) : cutV xs none (some (k : Int)) = xs.take k := by
  unfold cutV
  rw [HT.sIx_nat, HT.sIx_none, List.drop_zero, Nat.sub_zero]
  rcases Nat.le_total k xs.length with h | h
  · rw [Nat.min_eq_left h]
  · rw [Nat.min_eq_right h, List.take_of_length_le h, List.take_length]
theorem cut_drop (xs : List V) (k : Nat) : cutV xs (some (k : Int)) none = xs.drop k := by
  unfold cutV
  rw [HT.sIx_nat, HT.sIx_none]
  rcases Nat.le_total k xs.length with h | h
  · rw [Nat.min_eq_left h, List.take_of_length_le (by rw [List.length_drop]; exact Nat.le_refl _)]
  · rw [Nat.min_eq_right h, List.drop_length, List.drop_of_length_le h, List.take_nil]
theorem rep_ints (k : Nat) (ks : List Int) : (List.replicate k (ks.map V.int)).flatten = ((List.replicate k ks).flatten).map V.int := by
  rw [List.map_flatten, List.map_replicate]
theorem rep_len {α : Type} (k : Nat) (ks : List α) : ((List.replicate k ks).flatten).length = k * ks.length := by
  induction k with
  | zero => simp
  | succ k ih => rw [List.replicate_succ, List.flatten_cons, List.length_append, ih, Nat.succ_mul]; omega
theorem rep_mem {α : Type} {k : Nat} {ks : List α} {x : α} (h : x ∈ (List.replicate k ks).flatten) : x ∈ ks := by
  obtain ⟨l, hl, hx⟩ := List.mem_flatten.mp h
  rw [(List.mem_replicate.mp hl).2] at hx
  exact hx
/-! ### comprehensions that make new things: R tells what is known of the i-th; D is no part of it -/
def Off (D : Addr) (H H' : Hp) : Prop := ∀ b o, b ≠ D → H b = some o → H' b = some o
def RelPv (R : Nat → V → Hp → Prop) (H1 : Hp) (D : Addr) (i : Nat) (H : Hp) : Prop := ∃ ys : List V, Same H1 H ∧ H D = some (.lst ys) ∧ ys.length = i ∧ ∀ (k : Nat) (y : V), ys[k]? = some y → R k y H
theorem lc_relR {lo : Int} {n : Nat} {j : Nat} {te : TE} {vs : List Nat} {σ : L2.St} {H1 : Hp} {D : Addr} {Qd : Hp → Prop} (R : Nat → V → Hp → Prop) (nD : H1 D = none) (hz : n < sizeLine)
    (mono : ∀ i y H H', Off D H H' → R i y H → R i y H')
    (hw : ∀ x, wipe ((wipe σ vs).set j (some x)) vs = wipe σ vs)
    (hs : ∀ (i : Nat) (H' : Hp) (xs : List V), i < n → Same H1 H' → H' D = some (.lst xs) → ∀ Qt : V → Hp → Prop, (∀ y H'', Same H' H'' → R i y H'' → Qt y H'') → te ((wipe σ vs).set j (some (.int (lo + (i : Int))))) H' Qt)
    (hd : ∀ H' ys, Same H1 H' → H' D = some (.lst ys) → ys.length = n → (∀ (i : Nat) (y : V), ys[i]? = some y → R i y H') → Qd H') :
    ∃ W : Nat → Nat → Hp → Prop, (∃ m, W 0 m (upd H1 D (.lst []))) ∧ ∀ i m H, W i m H →
      ((Itr lo n).stop i H ∧ Qd H) ∨ ((Itr lo n).go i H ∧ ∃ Nx : Hp → Prop, (∀ H', Nx H' → ∃ m', m' < m ∧ W (i + 1) m' H') ∧ ∀ x H', (Itr lo n).yld i H x H' → gName j x (wipe σ vs) H' fun σ2 H2 => wipe σ2 vs = wipe σ vs ∧ tYes σ2 H2 fun b H3 =>
        if b = true then te σ2 H3 fun y H4 => ∃ acc, H4 D = some (.lst acc) ∧ acc.length < sizeLine ∧ Nx (upd H4 D (.lst (acc ++ [y]))) else Nx H3) := by
  refine lc_range (lo := lo) (n := n) (RelPv R H1 D) ⟨[], same_upd nD, upd_same, rfl, fun k y h => by simp at h⟩ ?_ ?_
  · rintro i H hi ⟨ys, s, hD, hl, hR⟩
    refine ⟨hw _, ?_⟩
    show if true = true then te ((wipe σ vs).set j (some (.int (lo + (i : Int))))) H (fun y H4 => ∃ acc, H4 D = some (.lst acc) ∧ acc.length < sizeLine ∧ RelPv R H1 D (i + 1) (upd H4 D (.lst (acc ++ [y])))) else RelPv R H1 D (i + 1) H
    refine iteT (hs i H ys hi s hD _ fun y H4 s4 r4 => ?_)
    refine ⟨ys, s4 _ _ hD, by omega, ys ++ [y], same_over nD (s.trans s4), upd_same, by rw [List.length_append, hl]; rfl, fun k z hz => ?_⟩
    have off : Off D H4 (upd H4 D (.lst (ys ++ [y]))) := fun b o nb h => by rw [upd_ne nb]; exact h
    by_cases hk : k < ys.length
    · rw [List.getElem?_append_left hk] at hz
      exact mono k z H _ (fun b o nb h => off b o nb (s4 b o h)) (hR k z hz)
    · rw [List.getElem?_append_right (by omega)] at hz
      have hk2 : k - ys.length = 0 := by
        have h2 := (List.getElem?_eq_some_iff.mp hz).1
        rw [List.length_singleton] at h2
        omega
      rw [hk2] at hz
      cases hz
      have ek : k = i := by omega
      rw [ek]
      exact mono i y H4 _ off r4
  · rintro H ⟨ys, s, hD, hl, hR⟩
    exact hd H ys s hD hl hR
/-! ### ways that are told by whole numbers -/
theorem iteDT {p A B : Prop} [Decidable p] (hp : p) (h : A) : if decide p = true then A else B := by rw [decide_eq_true hp]; exact iteT h
theorem iteDF {p A B : Prop} [Decidable p] (hp : ¬ p) (h : B) : if decide p = true then A else B := by rw [decide_eq_false hp]; exact iteF h
theorem iteNT {p A B : Prop} [Decidable p] (hp : ¬ p) (h : A) : if (!decide p) = true then A else B := by rw [decide_eq_false hp]; exact iteT h
theorem iteNF {p A B : Prop} [Decidable p] (hp : p) (h : B) : if (!decide p) = true then A else B := by rw [decide_eq_true hp]; exact iteF h
theorem iteET {a b : Int} {A B : Prop} [Decidable (V.int a = V.int b)] (hp : a = b) (h : A) : if decide (V.int a = V.int b) = true then A else B := iteDT (congrArg V.int hp) h
theorem iteEF {a b : Int} {A B : Prop} [Decidable (V.int a = V.int b)] (hp : ¬ a = b) (h : B) : if decide (V.int a = V.int b) = true then A else B := iteDF (fun z => hp (V.int.inj z)) h
theorem iteENT {a b : Int} {A B : Prop} [Decidable (V.int a = V.int b)] (hp : ¬ a = b) (h : A) : if (!decide (V.int a = V.int b)) = true then A else B := iteNT (fun z => hp (V.int.inj z)) h
theorem iteENF {a b : Int} {A B : Prop} [Decidable (V.int a = V.int b)] (hp : a = b) (h : B) : if (!decide (V.int a = V.int b)) = true then A else B := iteNF (congrArg V.int hp) h
theorem iteNtt {A B : Prop} (h : B) : if (!true) = true then A else B := h
theorem iteNff {A B : Prop} (h : A) : if (!false) = true then A else B := h
/-- 1 or 0 of a comparison -/
theorem int_if {p : Prop} [Decidable p] : (if decide p = true then (1 : Int) else 0) = if p then 1 else 0 := by by_cases h : p <;> simp [h]
end Pre

namespace My
open PySem PySem.Spec PyProof.Rows L2
theorem nil_binds {K : PySem.W.Frag} {fd : FuncData} {ps : List Str} (h : ∃ ds, Vals [] ds ∧ Binds K fd ps ds) : Binds K fd ps [] := by
  obtain ⟨ds, v, b⟩ := h
  cases v
  exact b
def top (i : Nat) : Stmt := PySem.Challenge.pw_wholesound_k40_prices_by_bits.main.body.getD i (.Pass ⟨0, 0, 0, 0⟩)
abbrev s_is_whole : Stmt := top 7
abbrev N_is_whole : List Str := ["value"]
theorem sc_is_whole : FnScope N_is_whole ["value"] (defScope s_is_whole) := ⟨rfl, rfl, rfl, by decide +kernel, rfl, by decide +kernel, by decide +kernel⟩
abbrev s_is_between : Stmt := top 8
abbrev N_is_between : List Str := ["value", "low", "high"]
theorem sc_is_between : FnScope N_is_between ["value", "low", "high"] (defScope s_is_between) := ⟨rfl, rfl, rfl, by decide +kernel, rfl, by decide +kernel, by decide +kernel⟩
abbrev s_check_number : Stmt := top 9
abbrev N_check_number : List Str := ["number", "low", "high"]
theorem sc_check_number : FnScope N_check_number ["number", "low", "high"] (defScope s_check_number) := ⟨rfl, rfl, rfl, by decide +kernel, rfl, by decide +kernel, by decide +kernel⟩
abbrev s_check_folds : Stmt := top 12
abbrev N_check_folds : List Str := ["folds", "unit"]
theorem sc_check_folds : FnScope N_check_folds ["folds"] (defScope s_check_folds) := ⟨rfl, rfl, rfl, by decide +kernel, rfl, by decide +kernel, by decide +kernel⟩
abbrev s_check_width : Stmt := top 13
abbrev N_check_width : List Str := ["width"]
theorem sc_check_width : FnScope N_check_width ["width"] (defScope s_check_width) := ⟨rfl, rfl, rfl, by decide +kernel, rfl, by decide +kernel, by decide +kernel⟩
abbrev s_raw_price : Stmt := top 14
abbrev N_raw_price : List Str := ["folds", "width", "unit"]
theorem sc_raw_price : FnScope N_raw_price ["folds", "width"] (defScope s_raw_price) := ⟨rfl, rfl, rfl, by decide +kernel, rfl, by decide +kernel, by decide +kernel⟩
abbrev s_price : Stmt := top 15
abbrev N_price : List Str := ["folds", "width"]
theorem sc_price : FnScope N_price ["folds", "width"] (defScope s_price) := ⟨rfl, rfl, rfl, by decide +kernel, rfl, by decide +kernel, by decide +kernel⟩
abbrev s_high_bits : Stmt := top 16
abbrev N_high_bits : List Str := ["folds", "unit"]
theorem sc_high_bits : FnScope N_high_bits ["folds"] (defScope s_high_bits) := ⟨rfl, rfl, rfl, by decide +kernel, rfl, by decide +kernel, by decide +kernel⟩
abbrev s_counts_of : Stmt := top 17
abbrev N_counts_of : List Str := ["folds", "place", "unit"]
theorem sc_counts_of : FnScope N_counts_of ["folds"] (defScope s_counts_of) := ⟨rfl, rfl, rfl, by decide +kernel, rfl, by decide +kernel, by decide +kernel⟩
abbrev s_bit_counts : Stmt := top 18
abbrev N_bit_counts : List Str := ["folds"]
theorem sc_bit_counts : FnScope N_bit_counts ["folds"] (defScope s_bit_counts) := ⟨rfl, rfl, rfl, by decide +kernel, rfl, by decide +kernel, by decide +kernel⟩
abbrev s_same_prices : Stmt := top 19
abbrev N_same_prices : List Str := ["one", "other"]
theorem sc_same_prices : FnScope N_same_prices ["one", "other"] (defScope s_same_prices) := ⟨rfl, rfl, rfl, by decide +kernel, rfl, by decide +kernel, by decide +kernel⟩
abbrev s_parting_width : Stmt := top 20
abbrev N_parting_width : List Str := ["one", "other", "width"]
theorem sc_parting_width : FnScope N_parting_width ["one", "other"] (defScope s_parting_width) := ⟨rfl, rfl, rfl, by decide +kernel, rfl, by decide +kernel, by decide +kernel⟩
abbrev s_row_of_counts : Stmt := top 21
abbrev N_row_of_counts : List Str := ["many", "counts", "at", "one", "place"]
theorem sc_row_of_counts : FnScope N_row_of_counts ["many", "counts"] (defScope s_row_of_counts) := ⟨rfl, rfl, rfl, by decide +kernel, rfl, by decide +kernel, by decide +kernel⟩
abbrev s_choices : Stmt := top 22
abbrev N_choices : List Str := ["many", "few", "number", "at"]
theorem sc_choices : FnScope N_choices ["many", "few"] (defScope s_choices) := ⟨rfl, rfl, rfl, by decide +kernel, rfl, by decide +kernel, by decide +kernel⟩
abbrev s_how_many_like : Stmt := top 23
abbrev N_how_many_like : List Str := ["folds", "number", "one"]
theorem sc_how_many_like : FnScope N_how_many_like ["folds"] (defScope s_how_many_like) := ⟨rfl, rfl, rfl, by decide +kernel, rfl, by decide +kernel, by decide +kernel⟩
abbrev s_law_cell : Stmt := top 25
abbrev N_law_cell : List Str := ["_law_script", "_law_index"]
theorem sc_law_cell : FnScope N_law_cell ["_law_script", "_law_index"] (defScope s_law_cell) := ⟨rfl, rfl, rfl, by decide +kernel, rfl, by decide +kernel, by decide +kernel⟩
abbrev s_law_hash : Stmt := top 26
abbrev N_law_hash : List Str := ["_law_seed", "_law_index", "_law_mixed"]
theorem sc_law_hash : FnScope N_law_hash ["_law_seed", "_law_index"] (defScope s_law_hash) := ⟨rfl, rfl, rfl, by decide +kernel, rfl, by decide +kernel, by decide +kernel⟩
abbrev s_law_generator : Stmt := top 27
abbrev N_law_generator : List Str := ["_law_script", "_law_index", "_law_seed"]
theorem sc_law_generator : FnScope N_law_generator ["_law_script", "_law_index"] (defScope s_law_generator) := ⟨rfl, rfl, rfl, by decide +kernel, rfl, by decide +kernel, by decide +kernel⟩
abbrev s_law_random : Stmt := top 28
abbrev N_law_random : List Str := ["_law_generator_here", "_law_bound", "_law_drawn", "_law_turn"]
theorem sc_law_random : FnScope N_law_random ["_law_generator_here", "_law_bound"] (defScope s_law_random) := ⟨rfl, rfl, rfl, by decide +kernel, rfl, by decide +kernel, by decide +kernel⟩
abbrev s_law_price : Stmt := top 29
abbrev N_law_price : List Str := ["_law_folds_here", "_law_width", "_law_total", "_law_fold"]
theorem sc_law_price : FnScope N_law_price ["_law_folds_here", "_law_width"] (defScope s_law_price) := ⟨rfl, rfl, rfl, by decide +kernel, rfl, by decide +kernel, by decide +kernel⟩
abbrev s_law_folds : Stmt := top 30
abbrev N_law_folds : List Str := ["_law_generator_here", "_law_most", "_law_turn", "_law_found", "_law_kind", "_law_far", "_law_small", "_law_deep"]
theorem sc_law_folds : FnScope N_law_folds ["_law_generator_here", "_law_most"] (defScope s_law_folds) := ⟨rfl, rfl, rfl, by decide +kernel, rfl, by decide +kernel, by decide +kernel⟩
abbrev s_law_below : Stmt := top 31
abbrev N_law_below : List Str := ["_law_many", "_law_top", "_law_found", "_law_turn", "_law_longer", "_law_row", "_law_one"]
theorem sc_law_below : FnScope N_law_below ["_law_many", "_law_top"] (defScope s_law_below) := ⟨rfl, rfl, rfl, by decide +kernel, rfl, by decide +kernel, by decide +kernel⟩
abbrev s_law_bits : Stmt := top 32
abbrev N_law_bits : List Str := ["_law_folds_here", "_law_found", "_law_left", "_law_one"]
theorem sc_law_bits : FnScope N_law_bits ["_law_folds_here"] (defScope s_law_bits) := ⟨rfl, rfl, rfl, by decide +kernel, rfl, by decide +kernel, by decide +kernel⟩
abbrev s_law_prices : Stmt := top 33
abbrev N_law_prices : List Str := ["_law_folds_here", "_law_width"]
theorem sc_law_prices : FnScope N_law_prices ["_law_folds_here"] (defScope s_law_prices) := ⟨rfl, rfl, rfl, by decide +kernel, rfl, by decide +kernel, by decide +kernel⟩
abbrev s_law_other : Stmt := top 34
abbrev N_law_other : List Str := ["_law_generator_here", "_law_folds_here", "_law_bit", "_law_other_here", "_law_way", "_law_at", "_law_far"]
theorem sc_law_other : FnScope N_law_other ["_law_generator_here", "_law_folds_here"] (defScope s_law_other) := ⟨rfl, rfl, rfl, by decide +kernel, rfl, by decide +kernel, by decide +kernel⟩
abbrev s_law_pair_right : Stmt := top 35
abbrev N_law_pair_right : List Str := ["_law_one", "_law_other_here", "_law_unlike", "_law_same", "_law_due", "_law_mine", "_law_yours", "_law_width"]
theorem sc_law_pair_right : FnScope N_law_pair_right ["_law_one", "_law_other_here"] (defScope s_law_pair_right) := ⟨rfl, rfl, rfl, by decide +kernel, rfl, by decide +kernel, by decide +kernel⟩
abbrev s_law_counts_right : Stmt := top 36
abbrev N_law_counts_right : List Str := ["_law_generator_here", "_law_many", "_law_counts", "_law_due", "_law_told", "_law_place", "_law_one", "_law_at", "_law_turn"]
theorem sc_law_counts_right : FnScope N_law_counts_right ["_law_generator_here"] (defScope s_law_counts_right) := ⟨rfl, rfl, rfl, by decide +kernel, rfl, by decide +kernel, by decide +kernel⟩
abbrev s_law_like_right : Stmt := top 37
abbrev N_law_like_right : List Str := ["_law_generator_here", "_law_small", "_law_mine", "_law_found", "_law_row", "_law_turn", "_law_width"]
theorem sc_law_like_right : FnScope N_law_like_right ["_law_generator_here"] (defScope s_law_like_right) := ⟨rfl, rfl, rfl, by decide +kernel, rfl, by decide +kernel, by decide +kernel⟩
abbrev s_law : Stmt := top 38
abbrev N_law : List Str := ["_law_script", "_law_generator_here", "_law_folds_here", "_law_kept", "_law_width", "_law_told", "_law_turn", "_law_one", "_law_other_here"]
theorem sc_law : FnScope N_law ["_law_script"] (defScope s_law) := ⟨rfl, rfl, rfl, by decide +kernel, rfl, by decide +kernel, by decide +kernel⟩
/-- what the top has left -/
structure Top (K : PySem.W.Frag) (mg : Str → Option Value) where
  f_is_whole : Addr
  fd_is_whole : FuncData
  F_is_whole : FunD K "is_whole" "is_whole" (defArgs s_is_whole) (defBody s_is_whole) (defScope s_is_whole) [] [] f_is_whole fd_is_whole
  b_is_whole : Binds K fd_is_whole ["value"] []
  g_is_whole : mg "is_whole" = some (.ref f_is_whole)
  f_is_between : Addr
  fd_is_between : FuncData
  F_is_between : FunD K "is_between" "is_between" (defArgs s_is_between) (defBody s_is_between) (defScope s_is_between) [] [] f_is_between fd_is_between
  b_is_between : Binds K fd_is_between ["value", "low", "high"] []
  g_is_between : mg "is_between" = some (.ref f_is_between)
  f_check_number : Addr
  fd_check_number : FuncData
  F_check_number : FunD K "check_number" "check_number" (defArgs s_check_number) (defBody s_check_number) (defScope s_check_number) [] [] f_check_number fd_check_number
  b_check_number : Binds K fd_check_number ["number", "low", "high"] []
  g_check_number : mg "check_number" = some (.ref f_check_number)
  f_check_folds : Addr
  fd_check_folds : FuncData
  F_check_folds : FunD K "check_folds" "check_folds" (defArgs s_check_folds) (defBody s_check_folds) (defScope s_check_folds) [] [] f_check_folds fd_check_folds
  b_check_folds : Binds K fd_check_folds ["folds"] []
  g_check_folds : mg "check_folds" = some (.ref f_check_folds)
  f_check_width : Addr
  fd_check_width : FuncData
  F_check_width : FunD K "check_width" "check_width" (defArgs s_check_width) (defBody s_check_width) (defScope s_check_width) [] [] f_check_width fd_check_width
  b_check_width : Binds K fd_check_width ["width"] []
  g_check_width : mg "check_width" = some (.ref f_check_width)
  f_raw_price : Addr
  fd_raw_price : FuncData
  F_raw_price : FunD K "raw_price" "raw_price" (defArgs s_raw_price) (defBody s_raw_price) (defScope s_raw_price) [] [] f_raw_price fd_raw_price
  b_raw_price : Binds K fd_raw_price ["folds", "width"] []
  g_raw_price : mg "raw_price" = some (.ref f_raw_price)
  f_price : Addr
  fd_price : FuncData
  F_price : FunD K "price" "price" (defArgs s_price) (defBody s_price) (defScope s_price) [] [] f_price fd_price
  b_price : Binds K fd_price ["folds", "width"] []
  g_price : mg "price" = some (.ref f_price)
  f_high_bits : Addr
  fd_high_bits : FuncData
  F_high_bits : FunD K "high_bits" "high_bits" (defArgs s_high_bits) (defBody s_high_bits) (defScope s_high_bits) [] [] f_high_bits fd_high_bits
  b_high_bits : Binds K fd_high_bits ["folds"] []
  g_high_bits : mg "high_bits" = some (.ref f_high_bits)
  f_counts_of : Addr
  fd_counts_of : FuncData
  F_counts_of : FunD K "counts_of" "counts_of" (defArgs s_counts_of) (defBody s_counts_of) (defScope s_counts_of) [] [] f_counts_of fd_counts_of
  b_counts_of : Binds K fd_counts_of ["folds"] []
  g_counts_of : mg "counts_of" = some (.ref f_counts_of)
  f_bit_counts : Addr
  fd_bit_counts : FuncData
  F_bit_counts : FunD K "bit_counts" "bit_counts" (defArgs s_bit_counts) (defBody s_bit_counts) (defScope s_bit_counts) [] [] f_bit_counts fd_bit_counts
  b_bit_counts : Binds K fd_bit_counts ["folds"] []
  g_bit_counts : mg "bit_counts" = some (.ref f_bit_counts)
  f_same_prices : Addr
  fd_same_prices : FuncData
  F_same_prices : FunD K "same_prices" "same_prices" (defArgs s_same_prices) (defBody s_same_prices) (defScope s_same_prices) [] [] f_same_prices fd_same_prices
  b_same_prices : Binds K fd_same_prices ["one", "other"] []
  g_same_prices : mg "same_prices" = some (.ref f_same_prices)
  f_parting_width : Addr
  fd_parting_width : FuncData
  F_parting_width : FunD K "parting_width" "parting_width" (defArgs s_parting_width) (defBody s_parting_width) (defScope s_parting_width) [] [] f_parting_width fd_parting_width
  b_parting_width : Binds K fd_parting_width ["one", "other"] []
  g_parting_width : mg "parting_width" = some (.ref f_parting_width)
  f_row_of_counts : Addr
  fd_row_of_counts : FuncData
  F_row_of_counts : FunD K "row_of_counts" "row_of_counts" (defArgs s_row_of_counts) (defBody s_row_of_counts) (defScope s_row_of_counts) [] [] f_row_of_counts fd_row_of_counts
  b_row_of_counts : Binds K fd_row_of_counts ["many", "counts"] []
  g_row_of_counts : mg "row_of_counts" = some (.ref f_row_of_counts)
  f_choices : Addr
  fd_choices : FuncData
  F_choices : FunD K "choices" "choices" (defArgs s_choices) (defBody s_choices) (defScope s_choices) [] [] f_choices fd_choices
  b_choices : Binds K fd_choices ["many", "few"] []
  g_choices : mg "choices" = some (.ref f_choices)
  f_how_many_like : Addr
  fd_how_many_like : FuncData
  F_how_many_like : FunD K "how_many_like" "how_many_like" (defArgs s_how_many_like) (defBody s_how_many_like) (defScope s_how_many_like) [] [] f_how_many_like fd_how_many_like
  b_how_many_like : Binds K fd_how_many_like ["folds"] []
  g_how_many_like : mg "how_many_like" = some (.ref f_how_many_like)
  f_law_cell : Addr
  fd_law_cell : FuncData
  F_law_cell : FunD K "_law_cell" "_law_cell" (defArgs s_law_cell) (defBody s_law_cell) (defScope s_law_cell) [] [] f_law_cell fd_law_cell
  b_law_cell : Binds K fd_law_cell ["_law_script", "_law_index"] []
  g_law_cell : mg "_law_cell" = some (.ref f_law_cell)
  f_law_hash : Addr
  fd_law_hash : FuncData
  F_law_hash : FunD K "_law_hash" "_law_hash" (defArgs s_law_hash) (defBody s_law_hash) (defScope s_law_hash) [] [] f_law_hash fd_law_hash
  b_law_hash : Binds K fd_law_hash ["_law_seed", "_law_index"] []
  g_law_hash : mg "_law_hash" = some (.ref f_law_hash)
  f_law_generator : Addr
  fd_law_generator : FuncData
  F_law_generator : FunD K "_law_generator" "_law_generator" (defArgs s_law_generator) (defBody s_law_generator) (defScope s_law_generator) [] [] f_law_generator fd_law_generator
  b_law_generator : Binds K fd_law_generator ["_law_script", "_law_index"] []
  g_law_generator : mg "_law_generator" = some (.ref f_law_generator)
  f_law_random : Addr
  fd_law_random : FuncData
  F_law_random : FunD K "_law_random" "_law_random" (defArgs s_law_random) (defBody s_law_random) (defScope s_law_random) [] [] f_law_random fd_law_random
  b_law_random : Binds K fd_law_random ["_law_generator_here", "_law_bound"] []
  g_law_random : mg "_law_random" = some (.ref f_law_random)
  f_law_price : Addr
  fd_law_price : FuncData
  F_law_price : FunD K "_law_price" "_law_price" (defArgs s_law_price) (defBody s_law_price) (defScope s_law_price) [] [] f_law_price fd_law_price
  b_law_price : Binds K fd_law_price ["_law_folds_here", "_law_width"] []
  g_law_price : mg "_law_price" = some (.ref f_law_price)
  f_law_folds : Addr
  fd_law_folds : FuncData
  F_law_folds : FunD K "_law_folds" "_law_folds" (defArgs s_law_folds) (defBody s_law_folds) (defScope s_law_folds) [] [] f_law_folds fd_law_folds
  b_law_folds : Binds K fd_law_folds ["_law_generator_here", "_law_most"] []
  g_law_folds : mg "_law_folds" = some (.ref f_law_folds)
  f_law_below : Addr
  fd_law_below : FuncData
  F_law_below : FunD K "_law_below" "_law_below" (defArgs s_law_below) (defBody s_law_below) (defScope s_law_below) [] [] f_law_below fd_law_below
  b_law_below : Binds K fd_law_below ["_law_many", "_law_top"] []
  g_law_below : mg "_law_below" = some (.ref f_law_below)
  f_law_bits : Addr
  fd_law_bits : FuncData
  F_law_bits : FunD K "_law_bits" "_law_bits" (defArgs s_law_bits) (defBody s_law_bits) (defScope s_law_bits) [] [] f_law_bits fd_law_bits
  b_law_bits : Binds K fd_law_bits ["_law_folds_here"] []
  g_law_bits : mg "_law_bits" = some (.ref f_law_bits)
  f_law_prices : Addr
  fd_law_prices : FuncData
  F_law_prices : FunD K "_law_prices" "_law_prices" (defArgs s_law_prices) (defBody s_law_prices) (defScope s_law_prices) [] [] f_law_prices fd_law_prices
  b_law_prices : Binds K fd_law_prices ["_law_folds_here"] []
  g_law_prices : mg "_law_prices" = some (.ref f_law_prices)
  f_law_other : Addr
  fd_law_other : FuncData
  F_law_other : FunD K "_law_other" "_law_other" (defArgs s_law_other) (defBody s_law_other) (defScope s_law_other) [] [] f_law_other fd_law_other
  b_law_other : Binds K fd_law_other ["_law_generator_here", "_law_folds_here"] []
  g_law_other : mg "_law_other" = some (.ref f_law_other)
  f_law_pair_right : Addr
  fd_law_pair_right : FuncData
  F_law_pair_right : FunD K "_law_pair_right" "_law_pair_right" (defArgs s_law_pair_right) (defBody s_law_pair_right) (defScope s_law_pair_right) [] [] f_law_pair_right fd_law_pair_right
  b_law_pair_right : Binds K fd_law_pair_right ["_law_one", "_law_other_here"] []
  g_law_pair_right : mg "_law_pair_right" = some (.ref f_law_pair_right)
  f_law_counts_right : Addr
  fd_law_counts_right : FuncData
  F_law_counts_right : FunD K "_law_counts_right" "_law_counts_right" (defArgs s_law_counts_right) (defBody s_law_counts_right) (defScope s_law_counts_right) [] [] f_law_counts_right fd_law_counts_right
  b_law_counts_right : Binds K fd_law_counts_right ["_law_generator_here"] []
  g_law_counts_right : mg "_law_counts_right" = some (.ref f_law_counts_right)
  f_law_like_right : Addr
  fd_law_like_right : FuncData
  F_law_like_right : FunD K "_law_like_right" "_law_like_right" (defArgs s_law_like_right) (defBody s_law_like_right) (defScope s_law_like_right) [] [] f_law_like_right fd_law_like_right
  b_law_like_right : Binds K fd_law_like_right ["_law_generator_here"] []
  g_law_like_right : mg "_law_like_right" = some (.ref f_law_like_right)
  f_law : Addr
  fd_law : FuncData
  F_law : FunD K "law" "law" (defArgs s_law) (defBody s_law) (defScope s_law) [] [] f_law fd_law
  b_law : Binds K fd_law ["_law_script"] []
  g_law : mg "law" = some (.ref f_law)
  n_len : mg "len" = none
  n_sum : mg "sum" = none
  n_max : mg "max" = none
  n_int : mg "int" = none
  n_bool : mg "bool" = none
  n_list : mg "list" = none
  n_range : mg "range" = none
  n_isinstance : mg "isinstance" = none
  n_enumerate : mg "enumerate" = none
  n_repr : mg "repr" = none
  t_MOST_WIDTH : Tok
  m_MOST_WIDTH : mg "MOST_WIDTH" = some (.int 120 t_MOST_WIDTH)
def d_is_whole : He.DefD := ⟨("is_whole", none), "is_whole", "is_whole", defArgs s_is_whole, defBody s_is_whole, defScope s_is_whole, [], []⟩
def d_is_between : He.DefD := ⟨("is_between", none), "is_between", "is_between", defArgs s_is_between, defBody s_is_between, defScope s_is_between, [], []⟩
def d_check_number : He.DefD := ⟨("check_number", none), "check_number", "check_number", defArgs s_check_number, defBody s_check_number, defScope s_check_number, [], []⟩
def d_check_folds : He.DefD := ⟨("check_folds", none), "check_folds", "check_folds", defArgs s_check_folds, defBody s_check_folds, defScope s_check_folds, [], []⟩
def d_check_width : He.DefD := ⟨("check_width", none), "check_width", "check_width", defArgs s_check_width, defBody s_check_width, defScope s_check_width, [], []⟩
def d_raw_price : He.DefD := ⟨("raw_price", none), "raw_price", "raw_price", defArgs s_raw_price, defBody s_raw_price, defScope s_raw_price, [], []⟩
def d_price : He.DefD := ⟨("price", none), "price", "price", defArgs s_price, defBody s_price, defScope s_price, [], []⟩
def d_high_bits : He.DefD := ⟨("high_bits", none), "high_bits", "high_bits", defArgs s_high_bits, defBody s_high_bits, defScope s_high_bits, [], []⟩
def d_counts_of : He.DefD := ⟨("counts_of", none), "counts_of", "counts_of", defArgs s_counts_of, defBody s_counts_of, defScope s_counts_of, [], []⟩
def d_bit_counts : He.DefD := ⟨("bit_counts", none), "bit_counts", "bit_counts", defArgs s_bit_counts, defBody s_bit_counts, defScope s_bit_counts, [], []⟩
def d_same_prices : He.DefD := ⟨("same_prices", none), "same_prices", "same_prices", defArgs s_same_prices, defBody s_same_prices, defScope s_same_prices, [], []⟩
def d_parting_width : He.DefD := ⟨("parting_width", none), "parting_width", "parting_width", defArgs s_parting_width, defBody s_parting_width, defScope s_parting_width, [], []⟩
def d_row_of_counts : He.DefD := ⟨("row_of_counts", none), "row_of_counts", "row_of_counts", defArgs s_row_of_counts, defBody s_row_of_counts, defScope s_row_of_counts, [], []⟩
def d_choices : He.DefD := ⟨("choices", none), "choices", "choices", defArgs s_choices, defBody s_choices, defScope s_choices, [], []⟩
def d_how_many_like : He.DefD := ⟨("how_many_like", none), "how_many_like", "how_many_like", defArgs s_how_many_like, defBody s_how_many_like, defScope s_how_many_like, [], []⟩
def d_law_cell : He.DefD := ⟨("_law_cell", none), "_law_cell", "_law_cell", defArgs s_law_cell, defBody s_law_cell, defScope s_law_cell, [], []⟩
def d_law_hash : He.DefD := ⟨("_law_hash", none), "_law_hash", "_law_hash", defArgs s_law_hash, defBody s_law_hash, defScope s_law_hash, [], []⟩
def d_law_generator : He.DefD := ⟨("_law_generator", none), "_law_generator", "_law_generator", defArgs s_law_generator, defBody s_law_generator, defScope s_law_generator, [], []⟩
def d_law_random : He.DefD := ⟨("_law_random", none), "_law_random", "_law_random", defArgs s_law_random, defBody s_law_random, defScope s_law_random, [], []⟩
def d_law_price : He.DefD := ⟨("_law_price", none), "_law_price", "_law_price", defArgs s_law_price, defBody s_law_price, defScope s_law_price, [], []⟩
def d_law_folds : He.DefD := ⟨("_law_folds", none), "_law_folds", "_law_folds", defArgs s_law_folds, defBody s_law_folds, defScope s_law_folds, [], []⟩
def d_law_below : He.DefD := ⟨("_law_below", none), "_law_below", "_law_below", defArgs s_law_below, defBody s_law_below, defScope s_law_below, [], []⟩
def d_law_bits : He.DefD := ⟨("_law_bits", none), "_law_bits", "_law_bits", defArgs s_law_bits, defBody s_law_bits, defScope s_law_bits, [], []⟩
def d_law_prices : He.DefD := ⟨("_law_prices", none), "_law_prices", "_law_prices", defArgs s_law_prices, defBody s_law_prices, defScope s_law_prices, [], []⟩
def d_law_other : He.DefD := ⟨("_law_other", none), "_law_other", "_law_other", defArgs s_law_other, defBody s_law_other, defScope s_law_other, [], []⟩
def d_law_pair_right : He.DefD := ⟨("_law_pair_right", none), "_law_pair_right", "_law_pair_right", defArgs s_law_pair_right, defBody s_law_pair_right, defScope s_law_pair_right, [], []⟩
def d_law_counts_right : He.DefD := ⟨("_law_counts_right", none), "_law_counts_right", "_law_counts_right", defArgs s_law_counts_right, defBody s_law_counts_right, defScope s_law_counts_right, [], []⟩
def d_law_like_right : He.DefD := ⟨("_law_like_right", none), "_law_like_right", "_law_like_right", defArgs s_law_like_right, defBody s_law_like_right, defScope s_law_like_right, [], []⟩
def d_law : He.DefD := ⟨("law", none), "law", "law", defArgs s_law, defBody s_law, defScope s_law, [], []⟩
def fn : List He.DefD := [d_is_whole, d_is_between, d_check_number, d_check_folds, d_check_width, d_raw_price, d_price, d_high_bits, d_counts_of, d_bit_counts, d_same_prices, d_parting_width, d_row_of_counts, d_choices, d_how_many_like, d_law_cell, d_law_hash, d_law_generator, d_law_random, d_law_price, d_law_folds, d_law_below, d_law_bits, d_law_prices, d_law_other, d_law_pair_right, d_law_counts_right, d_law_like_right, d_law]
def fa0 : List He.Fa := [.glo "is_whole", .glo "is_between", .glo "check_number", .glo "check_folds", .glo "check_width", .glo "raw_price", .glo "price", .glo "high_bits", .glo "counts_of", .glo "bit_counts", .glo "same_prices", .glo "parting_width", .glo "row_of_counts", .glo "choices", .glo "how_many_like", .glo "_law_cell", .glo "_law_hash", .glo "_law_generator", .glo "_law_random", .glo "_law_price", .glo "_law_folds", .glo "_law_below", .glo "_law_bits", .glo "_law_prices", .glo "_law_other", .glo "_law_pair_right", .glo "_law_counts_right", .glo "_law_like_right", .glo "law", .free "len"]
def fa1 : List He.Fa := [.free "sum", .free "max", .free "int", .free "bool", .free "list", .free "range", .free "isinstance", .free "enumerate", .free "repr", .int "MOST_WIDTH" 120]
def fa : List He.Fa := fa0 ++ fa1
/-- isinstance of an own class -/
def insB (K : PySem.W.Frag) (x : Str) : Bool := decide (PySem.W.findIn K (.ref (He.ga K x)) "__class__" = some (some (.builtin "object.__class__"))) && (decide (PySem.W.specialIn K (.builtin "object.__class__") "__get__" = some (some (.builtin "getset_descriptor.__get__"))) && (decide (PySem.W.takesIn K (.builtin "object.__class__") = some true) && (decide (PySem.W.mroIn K (He.ga K x) (.type "object") = some true) && decide (PySem.W.kitOne K (.ref (He.ga K x)) (.ref (He.ga K x)) = some true))))
theorem insB_ok {K : PySem.W.Frag} {x : Str} (cl : Cls K (He.ga K x)) (h : insB K x = true) : C8.InsC K (He.ga K x) := by
  unfold insB at h
  simp only [Bool.and_eq_true, decide_eq_true_eq] at h
  exact ⟨cl, h.1, h.2.1, h.2.2.1, h.2.2.2.1, h.2.2.2.2⟩
def eqB (K : PySem.W.Frag) (x : Str) : Bool := decide (PySem.W.findIn K (.ref (He.ga K x)) "__ne__" = some (some (.builtin "object.__ne__"))) && (decide (PySem.W.subIn K (.ref (He.ga K x)) (.type "object") = some true) && (decide (PySem.W.subIn K (.type "list") (.ref (He.ga K x)) = some false) && decide (PySem.W.kitOne K (.type "list") (.ref (He.ga K x)) = some false)))
def eqs : List Str := []
def own : List Str := []
def ex (K : PySem.W.Frag) : Bool := (own.all fun x => insB K x) && eqs.all fun x => eqB K x
abbrev R : PySem.W.OpenRow := PySem.W.OpenLaw.row PySem.Challenge.rw_wholesound_k40_prices_by_bits
abbrev Al : Type := He.AlD × Bool
def obsG (g : Addr → Option Obj) : Al := (He.obsDG 5 fa fn g, ex (He.frG g (He.asD g 5)))
def Says (K : PySem.W.Frag) : Prop := He.SaysD fa fn K ∧ ex K = true
def hk : PySem.W.Hook where
  α := Al
  obs := fun s => obsG s.heap.get?
  val := fun _ => (He.valD fn, true)
  says := fun _ h => ∃ K : PySem.W.Frag, K.In h ∧ Says K
  of := fun _ _ e => ⟨_, He.frG_in, congrArg Prod.fst e, congrArg Prod.snd e⟩
  keeps := fun _ _ _ ⟨K, hK, c⟩ k => ⟨K, PySem.W.Frag.In.keeps hK k, c⟩
def ob (s : PySem.W.SharedT) : Al := obsG (HandSHeadRun.getT s)
theorem ob_eq (s : PySem.W.SharedT) : ob s = hk.obs s.abs := by
  have e : HandSHeadRun.getT s = s.abs.heap.get? := funext (HandSHeadRun.getT_eq s)
  show obsG (HandSHeadRun.getT s) = obsG s.abs.heap.get?
  rw [e]
def loose0 : List PySem.Str := ["SoundError", "InvalidNumber", "InvalidFolds", "InvalidWidth", "InvalidCounts", "is_whole", "is_between", "check_number", "MOST_WIDTH", "check_folds", "check_width", "raw_price", "price", "high_bits", "counts_of", "bit_counts", "same_prices", "parting_width", "row_of_counts", "choices", "how_many_like", "_law_cell", "_law_hash", "_law_generator", "_law_random", "_law_price", "_law_folds", "_law_below", "_law_bits", "_law_prices"]
def loose1 : List PySem.Str := ["_law_other", "_law_pair_right", "_law_counts_right", "_law_like_right"]
abbrev loose : List PySem.Str := loose0 ++ loose1
theorem run (w : World) : HandSHeadRun.RunEq R (PySem.W.view R.prog [38]) hk ob 8000 loose w := by
  intro os
  kernel_rfl
noncomputable def top_mk {K : PySem.W.Frag} {h : Heap} {mg : Str → Option Value} (X : K.In h) (G : h.Ns mainGlobals mg) (c : Says K) : Top K mg :=
  let p0 := c.1.def_ 0 (d := d_is_whole) rfl
  let p1 := c.1.def_ 1 (d := d_is_between) rfl
  let p2 := c.1.def_ 2 (d := d_check_number) rfl
  let p3 := c.1.def_ 3 (d := d_check_folds) rfl
  let p4 := c.1.def_ 4 (d := d_check_width) rfl
  let p5 := c.1.def_ 5 (d := d_raw_price) rfl
  let p6 := c.1.def_ 6 (d := d_price) rfl
  let p7 := c.1.def_ 7 (d := d_high_bits) rfl
  let p8 := c.1.def_ 8 (d := d_counts_of) rfl
  let p9 := c.1.def_ 9 (d := d_bit_counts) rfl
  let p10 := c.1.def_ 10 (d := d_same_prices) rfl
  let p11 := c.1.def_ 11 (d := d_parting_width) rfl
  let p12 := c.1.def_ 12 (d := d_row_of_counts) rfl
  let p13 := c.1.def_ 13 (d := d_choices) rfl
  let p14 := c.1.def_ 14 (d := d_how_many_like) rfl
  let p15 := c.1.def_ 15 (d := d_law_cell) rfl
  let p16 := c.1.def_ 16 (d := d_law_hash) rfl
  let p17 := c.1.def_ 17 (d := d_law_generator) rfl
  let p18 := c.1.def_ 18 (d := d_law_random) rfl
  let p19 := c.1.def_ 19 (d := d_law_price) rfl
  let p20 := c.1.def_ 20 (d := d_law_folds) rfl
  let p21 := c.1.def_ 21 (d := d_law_below) rfl
  let p22 := c.1.def_ 22 (d := d_law_bits) rfl
  let p23 := c.1.def_ 23 (d := d_law_prices) rfl
  let p24 := c.1.def_ 24 (d := d_law_other) rfl
  let p25 := c.1.def_ 25 (d := d_law_pair_right) rfl
  let p26 := c.1.def_ 26 (d := d_law_counts_right) rfl
  let p27 := c.1.def_ 27 (d := d_law_like_right) rfl
  let p28 := c.1.def_ 28 (d := d_law) rfl
  let q0 := He.int_ok X G (c.1.fact 39 (f := .int "MOST_WIDTH" 120) rfl)
  { f_is_whole := _, fd_is_whole := p0.choose, F_is_whole := p0.choose_spec, b_is_whole := p0.choose_spec.bindsN fun _ _ _ _ _ _ us hl => match us, hl with | [_], _ => rfl, g_is_whole := He.glo_ok X G (c.1.fact 0 (f := .glo "is_whole") rfl),
    f_is_between := _, fd_is_between := p1.choose, F_is_between := p1.choose_spec, b_is_between := p1.choose_spec.bindsN fun _ _ _ _ _ _ us hl => match us, hl with | [_, _, _], _ => rfl, g_is_between := He.glo_ok X G (c.1.fact 1 (f := .glo "is_between") rfl),
    f_check_number := _, fd_check_number := p2.choose, F_check_number := p2.choose_spec, b_check_number := p2.choose_spec.bindsN fun _ _ _ _ _ _ us hl => match us, hl with | [_, _, _], _ => rfl, g_check_number := He.glo_ok X G (c.1.fact 2 (f := .glo "check_number") rfl),
    f_check_folds := _, fd_check_folds := p3.choose, F_check_folds := p3.choose_spec, b_check_folds := p3.choose_spec.bindsN fun _ _ _ _ _ _ us hl => match us, hl with | [_], _ => rfl, g_check_folds := He.glo_ok X G (c.1.fact 3 (f := .glo "check_folds") rfl),
    f_check_width := _, fd_check_width := p4.choose, F_check_width := p4.choose_spec, b_check_width := p4.choose_spec.bindsN fun _ _ _ _ _ _ us hl => match us, hl with | [_], _ => rfl, g_check_width := He.glo_ok X G (c.1.fact 4 (f := .glo "check_width") rfl),
    f_raw_price := _, fd_raw_price := p5.choose, F_raw_price := p5.choose_spec, b_raw_price := p5.choose_spec.bindsN fun _ _ _ _ _ _ us hl => match us, hl with | [_, _], _ => rfl, g_raw_price := He.glo_ok X G (c.1.fact 5 (f := .glo "raw_price") rfl),
    f_price := _, fd_price := p6.choose, F_price := p6.choose_spec, b_price := p6.choose_spec.bindsN fun _ _ _ _ _ _ us hl => match us, hl with | [_, _], _ => rfl, g_price := He.glo_ok X G (c.1.fact 6 (f := .glo "price") rfl),
    f_high_bits := _, fd_high_bits := p7.choose, F_high_bits := p7.choose_spec, b_high_bits := p7.choose_spec.bindsN fun _ _ _ _ _ _ us hl => match us, hl with | [_], _ => rfl, g_high_bits := He.glo_ok X G (c.1.fact 7 (f := .glo "high_bits") rfl),
    f_counts_of := _, fd_counts_of := p8.choose, F_counts_of := p8.choose_spec, b_counts_of := p8.choose_spec.bindsN fun _ _ _ _ _ _ us hl => match us, hl with | [_], _ => rfl, g_counts_of := He.glo_ok X G (c.1.fact 8 (f := .glo "counts_of") rfl),
    f_bit_counts := _, fd_bit_counts := p9.choose, F_bit_counts := p9.choose_spec, b_bit_counts := p9.choose_spec.bindsN fun _ _ _ _ _ _ us hl => match us, hl with | [_], _ => rfl, g_bit_counts := He.glo_ok X G (c.1.fact 9 (f := .glo "bit_counts") rfl),
    f_same_prices := _, fd_same_prices := p10.choose, F_same_prices := p10.choose_spec, b_same_prices := p10.choose_spec.bindsN fun _ _ _ _ _ _ us hl => match us, hl with | [_, _], _ => rfl, g_same_prices := He.glo_ok X G (c.1.fact 10 (f := .glo "same_prices") rfl),
    f_parting_width := _, fd_parting_width := p11.choose, F_parting_width := p11.choose_spec, b_parting_width := p11.choose_spec.bindsN fun _ _ _ _ _ _ us hl => match us, hl with | [_, _], _ => rfl, g_parting_width := He.glo_ok X G (c.1.fact 11 (f := .glo "parting_width") rfl),
    f_row_of_counts := _, fd_row_of_counts := p12.choose, F_row_of_counts := p12.choose_spec, b_row_of_counts := p12.choose_spec.bindsN fun _ _ _ _ _ _ us hl => match us, hl with | [_, _], _ => rfl, g_row_of_counts := He.glo_ok X G (c.1.fact 12 (f := .glo "row_of_counts") rfl),
    f_choices := _, fd_choices := p13.choose, F_choices := p13.choose_spec, b_choices := p13.choose_spec.bindsN fun _ _ _ _ _ _ us hl => match us, hl with | [_, _], _ => rfl, g_choices := He.glo_ok X G (c.1.fact 13 (f := .glo "choices") rfl),
    f_how_many_like := _, fd_how_many_like := p14.choose, F_how_many_like := p14.choose_spec, b_how_many_like := p14.choose_spec.bindsN fun _ _ _ _ _ _ us hl => match us, hl with | [_], _ => rfl, g_how_many_like := He.glo_ok X G (c.1.fact 14 (f := .glo "how_many_like") rfl),
    f_law_cell := _, fd_law_cell := p15.choose, F_law_cell := p15.choose_spec, b_law_cell := p15.choose_spec.bindsN fun _ _ _ _ _ _ us hl => match us, hl with | [_, _], _ => rfl, g_law_cell := He.glo_ok X G (c.1.fact 15 (f := .glo "_law_cell") rfl),
    f_law_hash := _, fd_law_hash := p16.choose, F_law_hash := p16.choose_spec, b_law_hash := p16.choose_spec.bindsN fun _ _ _ _ _ _ us hl => match us, hl with | [_, _], _ => rfl, g_law_hash := He.glo_ok X G (c.1.fact 16 (f := .glo "_law_hash") rfl),
    f_law_generator := _, fd_law_generator := p17.choose, F_law_generator := p17.choose_spec, b_law_generator := p17.choose_spec.bindsN fun _ _ _ _ _ _ us hl => match us, hl with | [_, _], _ => rfl, g_law_generator := He.glo_ok X G (c.1.fact 17 (f := .glo "_law_generator") rfl),
    f_law_random := _, fd_law_random := p18.choose, F_law_random := p18.choose_spec, b_law_random := p18.choose_spec.bindsN fun _ _ _ _ _ _ us hl => match us, hl with | [_, _], _ => rfl, g_law_random := He.glo_ok X G (c.1.fact 18 (f := .glo "_law_random") rfl),
    f_law_price := _, fd_law_price := p19.choose, F_law_price := p19.choose_spec, b_law_price := p19.choose_spec.bindsN fun _ _ _ _ _ _ us hl => match us, hl with | [_, _], _ => rfl, g_law_price := He.glo_ok X G (c.1.fact 19 (f := .glo "_law_price") rfl),
    f_law_folds := _, fd_law_folds := p20.choose, F_law_folds := p20.choose_spec, b_law_folds := p20.choose_spec.bindsN fun _ _ _ _ _ _ us hl => match us, hl with | [_, _], _ => rfl, g_law_folds := He.glo_ok X G (c.1.fact 20 (f := .glo "_law_folds") rfl),
    f_law_below := _, fd_law_below := p21.choose, F_law_below := p21.choose_spec, b_law_below := p21.choose_spec.bindsN fun _ _ _ _ _ _ us hl => match us, hl with | [_, _], _ => rfl, g_law_below := He.glo_ok X G (c.1.fact 21 (f := .glo "_law_below") rfl),
    f_law_bits := _, fd_law_bits := p22.choose, F_law_bits := p22.choose_spec, b_law_bits := p22.choose_spec.bindsN fun _ _ _ _ _ _ us hl => match us, hl with | [_], _ => rfl, g_law_bits := He.glo_ok X G (c.1.fact 22 (f := .glo "_law_bits") rfl),
    f_law_prices := _, fd_law_prices := p23.choose, F_law_prices := p23.choose_spec, b_law_prices := p23.choose_spec.bindsN fun _ _ _ _ _ _ us hl => match us, hl with | [_], _ => rfl, g_law_prices := He.glo_ok X G (c.1.fact 23 (f := .glo "_law_prices") rfl),
    f_law_other := _, fd_law_other := p24.choose, F_law_other := p24.choose_spec, b_law_other := p24.choose_spec.bindsN fun _ _ _ _ _ _ us hl => match us, hl with | [_, _], _ => rfl, g_law_other := He.glo_ok X G (c.1.fact 24 (f := .glo "_law_other") rfl),
    f_law_pair_right := _, fd_law_pair_right := p25.choose, F_law_pair_right := p25.choose_spec, b_law_pair_right := p25.choose_spec.bindsN fun _ _ _ _ _ _ us hl => match us, hl with | [_, _], _ => rfl, g_law_pair_right := He.glo_ok X G (c.1.fact 25 (f := .glo "_law_pair_right") rfl),
    f_law_counts_right := _, fd_law_counts_right := p26.choose, F_law_counts_right := p26.choose_spec, b_law_counts_right := p26.choose_spec.bindsN fun _ _ _ _ _ _ us hl => match us, hl with | [_], _ => rfl, g_law_counts_right := He.glo_ok X G (c.1.fact 26 (f := .glo "_law_counts_right") rfl),
    f_law_like_right := _, fd_law_like_right := p27.choose, F_law_like_right := p27.choose_spec, b_law_like_right := p27.choose_spec.bindsN fun _ _ _ _ _ _ us hl => match us, hl with | [_], _ => rfl, g_law_like_right := He.glo_ok X G (c.1.fact 27 (f := .glo "_law_like_right") rfl),
    f_law := _, fd_law := p28.choose, F_law := p28.choose_spec, b_law := p28.choose_spec.bindsN fun _ _ _ _ _ _ us hl => match us, hl with | [_], _ => rfl, g_law := He.glo_ok X G (c.1.fact 28 (f := .glo "law") rfl),
    n_len := He.free_ok X G (c.1.fact 29 (f := .free "len") rfl),
    n_sum := He.free_ok X G (c.1.fact 30 (f := .free "sum") rfl),
    n_max := He.free_ok X G (c.1.fact 31 (f := .free "max") rfl),
    n_int := He.free_ok X G (c.1.fact 32 (f := .free "int") rfl),
    n_bool := He.free_ok X G (c.1.fact 33 (f := .free "bool") rfl),
    n_list := He.free_ok X G (c.1.fact 34 (f := .free "list") rfl),
    n_range := He.free_ok X G (c.1.fact 35 (f := .free "range") rfl),
    n_isinstance := He.free_ok X G (c.1.fact 36 (f := .free "isinstance") rfl),
    n_enumerate := He.free_ok X G (c.1.fact 37 (f := .free "enumerate") rfl),
    n_repr := He.free_ok X G (c.1.fact 38 (f := .free "repr") rfl),
    t_MOST_WIDTH := q0.choose, m_MOST_WIDTH := q0.choose_spec }
end My

namespace My
open PySem PySem.Spec PyProof.Rows L2 Pre
section
variable {P : Program} {w : World} {K : PySem.W.Frag} {mg : Str → Option Value} {base : Heap}
/-! ### is_whole, is_between, of whole numbers -/
def sp_is_whole : Sp := fun vs H Q _ => ∃ i : Int, vs = [.int i] ∧ Q (.bl true) H
theorem G_is_whole (T : Top K mg) : FnOk P w K mg base CX0 1 T.f_is_whole T.fd_is_whole ["value"] sp_is_whole := by
  refine T.F_is_whole.ok sc_is_whole (fun vs H Q E h => by obtain ⟨i, rfl, _⟩ := h; rfl) (fun cdv A outer s H vs Q E hr h => ?_)
  obtain ⟨i, rfl, q⟩ := h
  refine ⟨_, PSs.nox (pss_one (ps_ret (pe_and (pe_callB (k_isi K rfl) (by rfl) T.n_isinstance (by decide +kernel) (pa_cons (pv 0) (pa_cons (pe_bltn (v := .ty "int") (by rfl) T.n_int (by decide +kernel) rfl) pa_nil))) (pe_one (pe_not (pe_callB (k_isi K rfl) (by rfl) T.n_isinstance (by decide +kernel) (pa_cons (pv 0) (pa_cons (pe_bltn (v := .ty "bool") (by rfl) T.n_bool (by decide +kernel) rfl) pa_nil)))))))), ?_⟩
  refine ⟨_, rfl, _, _, _, _, true, rfl, .ty _, .base (.int i), kit_ty (by decide +kernel), true, rfl, iteT ?_⟩
  exact ⟨_, rfl, _, _, _, _, false, rfl, .ty _, .base (.int i), kit_ty (by decide +kernel), false, rfl, q⟩
/-- value a whole number, low one, high None or one -/
def sp_is_between : Sp := fun vs H Q _ => ∃ (i lo : Int) (hi : Option Int), vs = [.int i, .int lo, (match hi with | some j => .int j | none => .non)] ∧ Q (.bl (decide (lo ≤ i ∧ ∀ j, hi = some j → i ≤ j))) H
theorem G_is_between (T : Top K mg) : FnOk P w K mg base CX0 2 T.f_is_between T.fd_is_between ["value", "low", "high"] sp_is_between := by
  refine T.F_is_between.ok sc_is_between (fun vs H Q E h => by obtain ⟨i, lo, hi, rfl, _⟩ := h; rfl) (fun cdv A outer s H vs Q E hr h => ?_)
  obtain ⟨i, lo, hi, rfl, q⟩ := h
  refine ⟨_, PSs.nox (pss_one (ps_ret (pe_and (pe_call (G_is_whole T) (hr.mono (by decide)) (by rfl) T.g_is_whole T.F_is_whole.kp T.b_is_whole .nil pass0 (pa_cons (pv 0) pa_nil)) (pe_and (pe_cmpR op_le (pv 1) (pv 0) (nomark _)) (pe_one (pe_or (pe_cmpR op_isN (pv 2) pe_non (nomark _)) (pe_one (pe_cmpR op_le (pv 0) (pv 2) (nomark _))))))))), ?_⟩
  refine ⟨_, rfl, i, rfl, true, rfl, iteT ?_⟩
  refine ⟨_, rfl, _, rfl, _, _, rfl, rfl, _, rfl, ite2 (fun e => ?_) (fun e => ?_)⟩
  · have e1 : lo ≤ i := of_decide_eq_true e
    cases hi with
    | none =>
      refine ⟨_, rfl, rfl, _, rfl, iteT ?_⟩
      rw [decide_eq_true ⟨e1, fun j h => nomatch h⟩] at q
      exact q
    | some j =>
      refine ⟨_, rfl, rfl, _, rfl, iteF ⟨_, rfl, _, rfl, _, _, rfl, rfl, ?_⟩⟩
      have e2 : decide (lo ≤ i ∧ ∀ j', some j = some j' → i ≤ j') = decide (i ≤ j) := by
        by_cases h : i ≤ j
        · rw [decide_eq_true h, decide_eq_true]
          exact ⟨e1, fun j' e => by cases e; exact h⟩
        · rw [decide_eq_false h, decide_eq_false]
          exact fun z => h (z.2 j rfl)
      rw [e2] at q
      exact q
  · have e1 : ¬ lo ≤ i := fun h => e (decide_eq_true h)
    rw [decide_eq_false fun z => e1 z.1] at q
    exact q
end
end My

set_option exponentiation.threshold 100000
namespace My
open PySem PySem.Spec PyProof.Rows L2 Pre
section
variable {P : Program} {w : World} {K : PySem.W.Frag} {mg : Str → Option Value} {base : Heap}
/-! ### the law's draws -/
/-- a generator: its count is at most n -/
def GenAt (H : Hp) (g : Addr) (n : Nat) : Prop := ∃ x y z : Int, H g = some (.lst [.int x, .int y, .int z]) ∧ 0 ≤ z ∧ z ≤ (n : Int)
/-- all but one thing stand as they stood -/
def But (g : Addr) (H H' : Hp) : Prop := ∀ b o, b ≠ g → H b = some o → H' b = some o
theorem But.refl {g : Addr} {H : Hp} : But g H H := fun _ _ _ h => h
theorem But.trans {g : Addr} {H H1 H2 : Hp} (a : But g H H1) (b : But g H1 H2) : But g H H2 := fun c o n h => b c o n (a c o n h)
theorem But.same {g : Addr} {H H1 H2 : Hp} (a : But g H H1) (b : Same H1 H2) : But g H H2 := fun c o n h => b c o (a c o n h)
theorem But.of {g : Addr} {H H1 : Hp} (b : Same H H1) : But g H H1 := fun c o _ h => b c o h
theorem But.upd {g : Addr} {H H1 : Hp} {o : HO} (a : But g H H1) : But g H (upd H1 g o) := fun c u n h => by
  rw [upd_ne n]
  exact a c u n h
theorem But.free {g : Addr} {H H1 : Hp} (a : But g H H1) {p : Addr} (n : p ≠ g) (h : H1 p = none) : H p = none := by
  cases e : H p with
  | none => rfl
  | some o => rw [a p o n e] at h; cases h
/-- what is changed was not there at first -/
theorem But.fresh {g : Addr} {H H1 H2 : Hp} (s : Same H H1) (n : H g = none) (b : But g H1 H2) : Same H H2 := fun c o h => b c o (ne_of_none h n) (s c o h)
theorem GenAt.mono {H : Hp} {g : Addr} {n m : Nat} (h : GenAt H g n) (l : n ≤ m) : GenAt H g m := by
  obtain ⟨x, y, z, a, b, c⟩ := h
  exact ⟨x, y, z, a, b, by omega⟩
theorem GenAt.same {H H' : Hp} {g : Addr} {n : Nat} (h : GenAt H g n) (s : Same H H') : GenAt H' g n := by
  obtain ⟨x, y, z, a, b⟩ := h
  exact ⟨x, y, z, s _ _ a, b⟩
theorem GenAt.ne {H : Hp} {g : Addr} {n : Nat} {p : Addr} (h : GenAt H g n) (np : H p = none) : p ≠ g := by
  obtain ⟨x, y, z, a, _⟩ := h
  exact (ne_of_none a np).symm
theorem small_2900 {b : Int} (h : b ≤ 2 ^ 60) : b < 2 ^ 2900 := by omega
theorem pow_pos' (w : Nat) : (0 : Int) < 2 ^ w := Int.pow_pos (by decide)
theorem pow2_le {k m : Nat} (h : k ≤ m) : (2 : Int) ^ k ≤ 2 ^ m := by
  have e := Nat.pow_le_pow_right (show 0 < 2 by decide) h
  have e2 : ((2 ^ k : Nat) : Int) ≤ ((2 ^ m : Nat) : Int) := Int.ofNat_le.mpr e
  rw [Int.natCast_pow, Int.natCast_pow] at e2
  exact e2
def sp_law_cell (K : PySem.W.Frag) : Sp := fun vs H Q _ => ∃ (a : Addr) (ns : List Int) (i : Nat), vs = [.ref a, .int i] ∧ SqL K H a (ns.map V.int) ∧ ∀ (n : Int) H', Same H H' → Q (.int n) H'
theorem G_law_cell (T : Top K mg) : FnOk P w K mg base CX0 1 T.f_law_cell T.fd_law_cell ["_law_script", "_law_index"] (sp_law_cell K) := by
  refine T.F_law_cell.ok sc_law_cell (fun vs H Q E h => by obtain ⟨a, ns, i, rfl, _⟩ := h; rfl) (fun cdv A outer s H vs Q E hr h => ?_)
  obtain ⟨a, ns, i, rfl, hS, q⟩ := h
  refine ⟨_, PSs.nox (pss_cons (ps_if (pt_cmpR op_lt (pv 1) (pe_callB (k_len K rfl) (by rfl) T.n_len (by decide +kernel) (pa_cons (pv 0) pa_nil)) (nomark _))
    (pss_one (ps_ret (pe_ix (k_ixL K rfl) (pv 0) (pv 1) (fun _ _ => rfl))))
    pss_nil)
  (pss_one (ps_ret (pe_op op_mod (pe_callB (k_sum K rfl rfl) (by rfl) T.n_sum (by decide +kernel) (pa_cons (pe_slice (k_slL K rfl) (pv 0) po_none (po_some pe_int)) pa_nil)) pe_int)))), ?_⟩
  refine ⟨_, rfl, _, rfl, a, _, rfl, .inl hS, _, _, rfl, rfl, _, rfl, ite2 (fun e => ?_) (fun e => ?_)⟩
  · have e1 : (i : Int) < (((ns.map V.int).length : Nat) : Int) := of_decide_eq_true e
    rw [List.length_map] at e1
    have hi : i < ns.length := by omega
    refine ⟨_, rfl, _, rfl, a, _, _, .int ns[i], rfl, rfl, hS, atI_nat (by rw [List.getElem?_map, List.getElem?_eq_getElem hi]; rfl), ?_⟩
    exact q _ _ (Same.refl _)
  · refine ⟨_, rfl, _, rfl, a, _, rfl, hS, fun p np => ?_⟩
    have ec : ∃ ms : List Int, cutV (ns.map V.int) none (some 1) = ms.map V.int := by
      unfold cutV
      exact ⟨(ns.drop (HT.sIx (ns.map V.int).length 0 none)).take (HT.sIx (ns.map V.int).length (ns.map V.int).length (some 1) - HT.sIx (ns.map V.int).length 0 none), by rw [List.map_take, List.map_drop]⟩
    obtain ⟨ms, em⟩ := ec
    refine ⟨p, ms, rfl, .inl (.inl (by rw [upd_same, em])), _, _, rfl, rfl, (by show (0 : Int) < 1000003; decide), ?_⟩
    exact q _ _ (same_upd np)
theorem cmul_mod (x m j : Int) (h0 : 0 < m) (h1 : m ≤ 2 ^ 60) : CMul (x % m) j := by
  have a := Int.emod_nonneg x (show m ≠ 0 by omega)
  have b := Int.emod_lt_of_pos x h0
  exact .inl ⟨by omega, by omega⟩
def sp_law_hash : Sp := fun vs H Q _ => ∃ i j : Int, vs = [.int i, .int j] ∧ 0 ≤ j ∧ j < 2 ^ 60 ∧ ∀ n : Int, Q (.int n) H
theorem G_law_hash (T : Top K mg) : FnOk P w K mg base CX0 1 T.f_law_hash T.fd_law_hash ["_law_seed", "_law_index"] sp_law_hash := by
  refine T.F_law_hash.ok sc_law_hash (fun vs H Q E h => by obtain ⟨i, j, rfl, _⟩ := h; rfl) (fun cdv A outer s H vs Q E hr h => ?_)
  obtain ⟨i, j, rfl, h0, h1, q⟩ := h
  refine ⟨_, PSs.nox (pss_cons (ps_set (i := 2) sc_law_hash.nd rfl (by first | exact Or.inl rfl | exact Or.inr rfl) (pe_op op_mod (pe_callTy call_int1 (by rfl) T.n_int (by decide +kernel) (pa_cons (pe_op op_add (pe_op op_add (pe_op op_add (pe_op op_mul (pv 0) pe_int) (pe_op op_mul (pe_op op_mul pe_int (pv 1)) (pv 1))) (pe_op op_mul pe_int (pv 1))) pe_int) pa_nil)) pe_int))
  (pss_cons (ps_set (i := 2) sc_law_hash.nd rfl (by first | exact Or.inl rfl | exact Or.inr rfl) (pe_op op_mod (pe_callTy call_int1 (by rfl) T.n_int (by decide +kernel) (pa_cons (pe_op op_add (pe_op op_add (pe_op op_mul (pv 2) (pv 2)) (pe_op op_mul pe_int (pv 1))) pe_int) pa_nil)) pe_int))
  (pss_one (ps_ret (pe_op op_mod (pe_callTy call_int1 (by rfl) T.n_int (by decide +kernel) (pa_cons (pe_op op_mul (pv 2) pe_int) pa_nil)) pe_int))))), ?_⟩
  refine ⟨_, rfl, _, _, rfl, rfl, .inr ⟨by decide, by decide⟩, _, rfl, _, _, rfl, rfl, .inl ⟨by decide, by decide⟩, _, rfl, _, _, rfl, rfl, .inr ⟨by omega, by omega⟩, _, _, rfl, rfl, _, rfl, _, _, rfl, rfl, .inl ⟨by decide, by decide⟩, _, _, rfl, rfl, _, _, rfl, rfl,
    .inl ⟨_, rfl, _, _, rfl, rfl, (by show (0 : Int) < _; decide), ?_⟩⟩
  refine ⟨_, rfl, _, rfl, _, _, rfl, rfl, cmul_mod _ _ _ (by decide) (by decide), _, rfl, _, _, rfl, rfl, .inl ⟨by decide, by decide⟩, _, _, rfl, rfl, _, _, rfl, rfl, .inl ⟨_, rfl, _, _, rfl, rfl, (by show (0 : Int) < _; decide), ?_⟩⟩
  refine ⟨_, rfl, _, _, rfl, rfl, .inr ⟨by decide, by decide⟩, .inl ⟨_, rfl, _, _, rfl, rfl, (by show (0 : Int) < _; decide), ?_⟩⟩
  exact q _

def sp_law_generator (K : PySem.W.Frag) : Sp := fun vs H Q _ => ∃ (a : Addr) (ns : List Int) (i : Nat), vs = [.ref a, .int i] ∧ SqL K H a (ns.map V.int) ∧ ∀ H' g, Same H H' → H g = none → GenAt H' g (1000 * i) → Q (.ref g) H'
theorem G_law_generator (T : Top K mg) : FnOk P w K mg base CX0 2 T.f_law_generator T.fd_law_generator ["_law_script", "_law_index"] (sp_law_generator K) := by
  refine T.F_law_generator.ok sc_law_generator (fun vs H Q E h => by obtain ⟨a, ns, i, rfl, _⟩ := h; rfl) (fun cdv A outer s H vs Q E hr h => ?_)
  obtain ⟨a, ns, i, rfl, hS, q⟩ := h
  refine ⟨_, PSs.nox (pss_cons (ps_set (i := 2) sc_law_generator.nd rfl (by first | exact Or.inl rfl | exact Or.inr rfl) (pe_call (G_law_cell T) (hr.mono (by decide)) (by rfl) T.g_law_cell T.F_law_cell.kp T.b_law_cell .nil pass0 (pa_cons (pv 0) (pa_cons (pv 1) pa_nil))))
  (pss_one (ps_ret (pe_lst (pa_cons (pe_op op_mod (pe_callTy call_int1 (by rfl) T.n_int (by decide +kernel) (pa_cons (pe_callB (call_max2 rfl) (by rfl) T.n_max (by decide +kernel) (pa_cons (pe_op op_sub (pv 2) (pe_op op_powW pe_int pe_int)) (pa_cons pe_int pa_nil))) pa_nil)) (pe_op op_powW (pe_op op_powW pe_int pe_int) pe_int)) (pa_cons (pe_op op_mod (pe_callTy call_int1 (by rfl) T.n_int (by decide +kernel) (pa_cons (pv 2) pa_nil)) pe_int) (pa_cons (pe_op op_mul pe_int (pv 1)) pa_nil))))))), ?_⟩
  refine ⟨_, rfl, _, rfl, a, ns, i, rfl, hS, fun n H1 s1 => ?_⟩
  refine ⟨_, rfl, _, _, rfl, rfl, ⟨by decide, by decide +kernel⟩, _, _, rfl, rfl, _, _, rfl, .inl ⟨_, rfl, _, _, rfl, rfl, ⟨by decide, by decide +kernel⟩, _, _, rfl, rfl, ⟨by decide, by decide +kernel⟩, _, _, rfl, rfl, (by show (0 : Int) < _; decide +kernel), ?_⟩⟩
  refine ⟨_, rfl, .inl ⟨_, rfl, _, _, rfl, rfl, (by show (0 : Int) < _; decide), ?_⟩⟩
  refine ⟨_, rfl, _, _, rfl, rfl, .inl ⟨by decide, by decide⟩, (show 3 ≤ sizeLine by decide), fun g ng => ?_⟩
  exact q _ g (s1.trans (same_upd ng)) (s1.free ng) ⟨_, _, _, upd_same, by omega, by omega⟩
def sp_law_random : Sp := fun vs H Q _ => ∃ (g : Addr) (b : Int) (n : Nat), vs = [.ref g, .int b] ∧ GenAt H g n ∧ n ≤ 10 ^ 12 ∧ 0 < b ∧ b < 2 ^ 2900 ∧ ∀ (d : Int) H', 0 ≤ d → d < b → GenAt H' g (n + 100) → But g H H' → Q (.int d) H'
theorem G_law_random (T : Top K mg) : FnOk P w K mg base CX0 2 T.f_law_random T.fd_law_random ["_law_generator_here", "_law_bound"] sp_law_random := by
  refine T.F_law_random.ok sc_law_random (fun vs H Q E h => by obtain ⟨g, b, n, rfl, _⟩ := h; rfl) (fun cdv A outer s H vs Q E hr h => ?_)
  obtain ⟨g, b, n, rfl, ⟨x, y, z, hg, z0, z1⟩, hn, b0, b1, q⟩ := h
  refine ⟨_, PSs.nox (pss_cons (ps_if (pt_cmpR op_gt (pe_ix (k_ixL K rfl) (pv 0) pe_int (fun _ _ => rfl)) pe_int (nomark _))
    (pss_cons (ps_set (i := 2) sc_law_random.nd rfl (by first | exact Or.inl rfl | exact Or.inr rfl) (pe_op op_mod (pe_callTy call_int1 (by rfl) T.n_int (by decide +kernel) (pa_cons (pe_ix (k_ixL K rfl) (pv 0) pe_int (fun _ _ => rfl)) pa_nil)) (pv 1)))
  (pss_cons (ps_asg (pe_op op_fdivW (pe_ix (k_ixL K rfl) (pv 0) pe_int (fun _ _ => rfl)) (pv 1)) (pg_sub (pv 0) pe_int set_list))
  (pss_one (ps_ret (pv 2)))))
    pss_nil)
  (pss_cons (ps_set (i := 2) sc_law_random.nd rfl (by first | exact Or.inl rfl | exact Or.inr rfl) pe_int)
  (pss_cons (ps_for PassesOwn.never rfl (pi_range1 (by rfl) T.n_range (pa_cons (pe_op op_add pe_int (pe_op op_fdivW (pe_bits (pv 1)) pe_int)) pa_nil)) (pg_name (i := 3) sc_law_random.nd rfl (by first | exact Or.inl rfl | exact Or.inr rfl))
    (pss_cons (ps_asg (pe_op op_add (pe_ix (k_ixL K rfl) (pv 0) pe_int (fun _ _ => rfl)) pe_int) (pg_sub (pv 0) pe_int set_list))
  (pss_one (ps_set (i := 2) sc_law_random.nd rfl (by first | exact Or.inl rfl | exact Or.inr rfl) (pe_op op_add (pe_op op_mul (pv 2) pe_int) (pe_call (G_law_hash T) (hr.mono (by decide)) (by rfl) T.g_law_hash T.F_law_hash.kp T.b_law_hash .nil pass0 (pa_cons (pe_ix (k_ixL K rfl) (pv 0) pe_int (fun _ _ => rfl)) (pa_cons (pe_ix (k_ixL K rfl) (pv 0) pe_int (fun _ _ => rfl)) pa_nil))))))))
  (pss_one (ps_ret (pe_op op_mod (pe_callTy call_int1 (by rfl) T.n_int (by decide +kernel) (pa_cons (pv 2) pa_nil)) (pv 1))))))), ?_⟩
  have a0 : ∀ x y z : Int, atI [V.int x, .int y, .int z] 0 = some (.int x) := fun _ _ _ => rfl
  have a1 : ∀ x y z : Int, atI [V.int x, .int y, .int z] 1 = some (.int y) := fun _ _ _ => rfl
  have a2 : ∀ x y z : Int, atI [V.int x, .int y, .int z] 2 = some (.int z) := fun _ _ _ => rfl
  have hS : SqL K H g [.int x, .int y, .int z] := .inl (.inl hg)
  have nb : b.natAbs < 2 ^ 2900 := by
    have e : ((b.natAbs : Nat) : Int) < ((2 ^ 2900 : Nat) : Int) := by
      rw [Int.natCast_pow]
      omega
    exact Int.ofNat_lt.mp e
  refine ⟨_, rfl, g, _, 0, _, rfl, rfl, hS, a0 x y z, _, _, rfl, rfl, _, rfl, ite2 (fun e => ?_) (fun e => ?_)⟩
  · refine ⟨_, rfl, g, _, 0, _, rfl, rfl, hS, a0 x y z, .inl ⟨_, rfl, _, rfl, _, _, rfl, rfl, b0, ?_⟩⟩
    refine ⟨_, rfl, g, _, 0, _, rfl, rfl, hS, a0 x y z, _, rfl, _, _, rfl, rfl, wide_div b0 nb (by decide) (by decide), _, rfl, g, _, 0, 0, rfl, rfl, hg, rfl, _, rfl, ?_⟩
    exact q _ _ (Int.emod_nonneg _ (by omega)) (Int.emod_lt_of_pos _ b0) ⟨_, _, _, upd_same, z0, by omega⟩ (But.upd But.refl)
  · have hb : Builtin.Int.intBits b ≤ 2900 := PyProof.Rows.intBits_le nb
    have hq0 : (0 : Int) ≤ ((Builtin.Int.intBits b : Nat) : Int) / 30 := Int.ediv_nonneg (Int.natCast_nonneg _) (by decide)
    have hq1 : ((Builtin.Int.intBits b : Nat) : Int) / 30 ≤ 97 := by omega
    refine ⟨_, rfl, _, rfl, _, _, rfl, rfl, ⟨by decide, by decide +kernel⟩, _, _, rfl, rfl, _, rfl, by omega, by omega, ?_⟩
    refine for_range (lo := 0) (n := (1 + ((Builtin.Int.intBits b : Nat) : Int) / 30).toNat) (fun i σ H1 => ∃ (d z' : Int) (v : Option V), σ = [some (.ref g), some (.int b), some (.int d), v] ∧ H1 g = some (.lst [.int x, .int y, .int z']) ∧ 0 ≤ z' ∧ z' ≤ (n : Int) + (i : Int) ∧ But g H H1)
      ⟨0, z, none, rfl, hg, z0, by omega, But.refl⟩ ?_ ?_
    · rintro i σ H1 hi ⟨d, z', v, rfl, hg1, y0, y1, b1⟩
      have hS1 : SqL K H1 g [.int x, .int y, .int z'] := .inl (.inl hg1)
      refine ⟨_, rfl, g, _, 2, _, rfl, rfl, hS1, a2 x y z', _, _, rfl, rfl, _, rfl, g, _, 2, 2, rfl, rfl, hg1, rfl, ?_⟩
      have hS2 : SqL K (upd H1 g (.lst [.int x, .int y, .int (z' + 1)])) g [.int x, .int y, .int (z' + 1)] := .inl (.inl upd_same)
      refine ⟨_, rfl, _, _, rfl, rfl, .inr ⟨by decide, by decide⟩, _, rfl, g, _, 1, _, rfl, rfl, hS2, a1 _ _ _, _, rfl, g, _, 2, _, rfl, rfl, hS2, a2 _ _ _, _, _, rfl, by omega, by omega, fun r => ?_⟩
      exact ⟨_, _, rfl, rfl, _, z' + 1, _, rfl, upd_same, by omega, by omega, But.upd b1⟩
    · rintro σ H1 ⟨d, z', v, rfl, hg1, y0, y1, b1⟩
      refine ⟨_, rfl, .inl ⟨_, rfl, _, rfl, _, _, rfl, rfl, b0, ?_⟩⟩
      exact q _ _ (Int.emod_nonneg _ (by omega)) (Int.emod_lt_of_pos _ b0) ⟨_, _, _, hg1, y0, by omega⟩ b1
/-- a comprehension over a range that draws whole numbers -/
theorem lc_drawR {lo : Int} {n : Nat} {j : Nat} {te : TE} {vs : List Nat} {σ : L2.St} {H1 : Hp} {D : Addr} {Qd : Hp → Prop} (g : Addr) (m step : Nat) (P : Int → Prop) (nD : H1 D = none) (hG : GenAt H1 g m) (hz : n < sizeLine)
    (hw : ∀ x, wipe ((wipe σ vs).set j (some x)) vs = wipe σ vs)
    (hs : ∀ (i : Nat) (H' : Hp), i < n → But g H1 H' → GenAt H' g (m + step * i) → ∀ Qt : V → Hp → Prop, (∀ (y : Int) H'', P y → But g H' H'' → GenAt H'' g (m + step * (i + 1)) → Qt (.int y) H'') → te ((wipe σ vs).set j (some (.int (lo + (i : Int))))) H' Qt)
    (hd : ∀ H' (ys : List Int), But g H1 H' → GenAt H' g (m + step * n) → H' D = some (.lst (ys.map V.int)) → ys.length = n → (∀ y ∈ ys, P y) → Qd H') :
    ∃ W : Nat → Nat → Hp → Prop, (∃ m, W 0 m (upd H1 D (.lst []))) ∧ ∀ i m H, W i m H →
      ((Itr lo n).stop i H ∧ Qd H) ∨ ((Itr lo n).go i H ∧ ∃ Nx : Hp → Prop, (∀ H', Nx H' → ∃ m', m' < m ∧ W (i + 1) m' H') ∧ ∀ x H', (Itr lo n).yld i H x H' → gName j x (wipe σ vs) H' fun σ2 H2 => wipe σ2 vs = wipe σ vs ∧ tYes σ2 H2 fun b H3 =>
        if b = true then te σ2 H3 fun y H4 => ∃ acc, H4 D = some (.lst acc) ∧ acc.length < sizeLine ∧ Nx (upd H4 D (.lst (acc ++ [y]))) else Nx H3) := by
  have nDg : D ≠ g := hG.ne nD
  refine lc_range (lo := lo) (n := n) (fun i H => ∃ ys : List Int, But g H1 H ∧ GenAt H g (m + step * i) ∧ H D = some (.lst (ys.map V.int)) ∧ ys.length = i ∧ ∀ y ∈ ys, P y)
    ⟨[], But.of (same_upd nD), hG.same (same_upd nD), upd_same, rfl, (fun _ h => nomatch h)⟩ ?_ ?_
  · rintro i H hi ⟨ys, b, hg, hD, hl, hP⟩
    refine ⟨hw _, ?_⟩
    unfold tYes
    dsimp only
    rw [if_pos (show true = true from rfl)]
    refine hs i H hi b hg _ fun y H2 py b2 hg2 => ?_
    refine ⟨_, b2 _ _ nDg hD, by rw [List.length_map]; omega, ys ++ [y], ?_, ?_, ?_, ?_, ?_⟩
    · intro c o nc hc
      rw [upd_ne (ne_of_none hc nD)]
      exact b2 _ _ nc (b _ _ nc hc)
    · obtain ⟨x1, x2, x3, e1, e2⟩ := hg2
      exact ⟨x1, x2, x3, by rw [upd_ne nDg.symm]; exact e1, e2⟩
    · rw [upd_same, List.map_append]
      rfl
    · rw [List.length_append, hl]
      rfl
    · intro z hz
      rcases List.mem_append.mp hz with hz | hz
      · exact hP z hz
      · rw [List.mem_singleton.mp hz]
        exact py
  · rintro H ⟨ys, b, hg, hD, hl, hP⟩
    exact hd H ys b hg hD hl hP
end
end My

namespace My
open PySem PySem.Spec PyProof.Rows L2 Pre
/-! ### min and max of a list of pairs of whole numbers -/
def pairD (p : Int × Int) : PyData := .tuple [.int p.1, .int p.2]
def ltP2 (p q : Int × Int) : Prop := p.1 < q.1 ∨ (p.1 = q.1 ∧ p.2 < q.2)
instance (p q : Int × Int) : Decidable (ltP2 p q) := by unfold ltP2; infer_instance
theorem pair_lt (p q : Int × Int) : PySem.W.dataLt (pairD p) (pairD q) = decide (ltP2 p q) := PySem.W.dataLt_ii p.1 p.2 q.1 q.2
theorem ltP2_trans {p q r : Int × Int} (h : ¬ ltP2 q p) (k : ¬ ltP2 r q) : ¬ ltP2 r p := by
  unfold ltP2 at *
  omega
def minP (p : Int × Int) (ps : List (Int × Int)) : Int × Int := ps.foldl (fun a y => if ltP2 y a then y else a) p
def maxP (p : Int × Int) (ps : List (Int × Int)) : Int × Int := ps.foldl (fun a y => if ltP2 a y then y else a) p
theorem minP_data : ∀ (ps : List (Int × Int)) (p : Int × Int), PySem.W.minD (pairD p) (ps.map pairD) = pairD (minP p ps)
  | [], _ => rfl
  | q :: ps, p => by
    show PySem.W.minD (if PySem.W.dataLt (pairD q) (pairD p) = true then pairD q else pairD p) (ps.map pairD) = pairD (minP (if ltP2 q p then q else p) ps)
    rw [pair_lt]
    by_cases h : ltP2 q p
    · rw [decide_eq_true h, if_pos rfl, if_pos h, minP_data ps q]
    · rw [decide_eq_false h, if_neg (by decide), if_neg h, minP_data ps p]
theorem maxP_data : ∀ (ps : List (Int × Int)) (p : Int × Int), PySem.W.maxD (pairD p) (ps.map pairD) = pairD (maxP p ps)
  | [], _ => rfl
  | q :: ps, p => by
    show PySem.W.maxD (if PySem.W.dataLt (pairD p) (pairD q) = true then pairD q else pairD p) (ps.map pairD) = pairD (maxP (if ltP2 p q then q else p) ps)
    rw [pair_lt]
    by_cases h : ltP2 p q
    · rw [decide_eq_true h, if_pos rfl, if_pos h, maxP_data ps q]
    · rw [decide_eq_false h, if_neg (by decide), if_neg h, maxP_data ps p]
theorem minP_spec : ∀ (ps : List (Int × Int)) (p : Int × Int), minP p ps ∈ p :: ps ∧ ∀ q ∈ p :: ps, ¬ ltP2 q (minP p ps)
  | [], p => ⟨List.mem_cons_self, fun q hq => by
      rw [List.mem_singleton.mp hq]
      show ¬ ltP2 p p
      unfold ltP2
      omega⟩
  | r :: ps, p => by
    show minP (if ltP2 r p then r else p) ps ∈ _ ∧ ∀ q ∈ p :: r :: ps, ¬ ltP2 q (minP (if ltP2 r p then r else p) ps)
    by_cases h : ltP2 r p
    · rw [if_pos h]
      obtain ⟨h1, h2⟩ := minP_spec ps r
      refine ⟨List.mem_cons_of_mem _ h1, fun q hq => ?_⟩
      rcases List.mem_cons.mp hq with rfl | hq
      · have := h2 r List.mem_cons_self
        exact fun z => this (by unfold ltP2 at *; omega)
      · exact h2 q hq
    · rw [if_neg h]
      obtain ⟨h1, h2⟩ := minP_spec ps p
      refine ⟨?_, fun q hq => ?_⟩
      · rcases List.mem_cons.mp h1 with e | e
        · rw [e]; exact List.mem_cons_self
        · exact List.mem_cons_of_mem _ (List.mem_cons_of_mem _ e)
      · rcases List.mem_cons.mp hq with rfl | hq
        · exact h2 q List.mem_cons_self
        · rcases List.mem_cons.mp hq with rfl | hq
          · have := h2 p List.mem_cons_self
            exact fun z => this (by unfold ltP2 at *; omega)
          · exact h2 q (List.mem_cons_of_mem _ hq)
theorem maxP_spec : ∀ (ps : List (Int × Int)) (p : Int × Int), maxP p ps ∈ p :: ps ∧ ∀ q ∈ p :: ps, ¬ ltP2 (maxP p ps) q
  | [], p => ⟨List.mem_cons_self, fun q hq => by
      rw [List.mem_singleton.mp hq]
      show ¬ ltP2 p p
      unfold ltP2
      omega⟩
  | r :: ps, p => by
    show maxP (if ltP2 p r then r else p) ps ∈ _ ∧ ∀ q ∈ p :: r :: ps, ¬ ltP2 (maxP (if ltP2 p r then r else p) ps) q
    by_cases h : ltP2 p r
    · rw [if_pos h]
      obtain ⟨h1, h2⟩ := maxP_spec ps r
      refine ⟨List.mem_cons_of_mem _ h1, fun q hq => ?_⟩
      rcases List.mem_cons.mp hq with rfl | hq
      · have := h2 r List.mem_cons_self
        exact fun z => this (by unfold ltP2 at *; omega)
      · exact h2 q hq
    · rw [if_neg h]
      obtain ⟨h1, h2⟩ := maxP_spec ps p
      refine ⟨?_, fun q hq => ?_⟩
      · rcases List.mem_cons.mp h1 with e | e
        · rw [e]; exact List.mem_cons_self
        · exact List.mem_cons_of_mem _ (List.mem_cons_of_mem _ e)
      · rcases List.mem_cons.mp hq with rfl | hq
        · exact h2 q List.mem_cons_self
        · rcases List.mem_cons.mp hq with rfl | hq
          · have := h2 p List.mem_cons_self
            exact fun z => this (by unfold ltP2 at *; omega)
          · exact h2 q (List.mem_cons_of_mem _ hq)
theorem pairs_alike (ps : List (Int × Int)) : PySem.W.AlikeAll (ps.map pairD) := by
  refine ⟨fun x hx y hy => ?_, fun x hx => ?_⟩
  · obtain ⟨p, _, rfl⟩ := List.mem_map.mp hx
    obtain ⟨q, _, rfl⟩ := List.mem_map.mp hy
    rfl
  · obtain ⟨p, _, rfl⟩ := List.mem_map.mp hx
    exact fun z => nomatch z
theorem pairs_lay : ∀ ps : List (Int × Int), PyData.canLayAll0 (ps.map pairD) = true
  | [] => rfl
  | p :: ps => by simp [PyData.canLayAll0, PyData.canLay0, pairD, pairs_lay ps]
theorem pairs_depth : ∀ ps : List (Int × Int), PyData.depthAll (ps.map pairD) ≤ 2
  | [] => by simp [PyData.depthAll]
  | p :: ps => by
    have := pairs_depth ps
    simp only [List.map_cons, PyData.depthAll, pairD, PyData.depth]
    omega
/-- a list of pairs, at a -/
def PairsAt (K : PySem.W.Frag) (H : Hp) (a : Addr) (ps : List (Int × Int)) : Prop := ∃ as : List Addr, SqL K H a (as.map V.ref) ∧ as.length = ps.length ∧ ∀ (i : Nat) (t : Addr) (p : Int × Int), as[i]? = some t → ps[i]? = some p → SqT K H t [.int p.1, .int p.2]
theorem pairs_dp {K : PySem.W.Frag} {H : Hp} : ∀ {as : List Addr} {ps : List (Int × Int)}, as.length = ps.length → (∀ (i : Nat) (t : Addr) (p : Int × Int), as[i]? = some t → ps[i]? = some p → SqT K H t [.int p.1, .int p.2]) → DpAll K H (as.map V.ref) (ps.map pairD)
  | [], [], _, _ => .nil
  | [], _ :: _, h, _ => by simp at h
  | _ :: _, [], h, _ => by simp at h
  | a :: as, p :: ps, h, k => .cons (.tup (k 0 a p rfl rfl) (.cons (.int _) (.cons (.int _) .nil))) (pairs_dp (by simpa using h) fun i t q ht hq => k (i + 1) t q (by simpa using ht) (by simpa using hq))
def rMnP (K : PySem.W.Frag) (best : Int × Int → List (Int × Int) → Int × Int) : List V → Hp → VK → Prop := fun xs H Q => ∃ (a : Addr) (p : Int × Int) (ps : List (Int × Int)), xs = [.ref a] ∧ PairsAt K H a (p :: ps) ∧ ∀ t, SqT K H t [.int (best p ps).1, .int (best p ps).2] → Q (.ref t) H
section
variable {X : Cx} {K : PySem.W.Frag}
theorem pick {H : Hp} {s : Shared} {as : List Addr} {ps : List (Int × Int)} {its : List Value} {i : Nat} {v : Value} {h' : Heap} {bs cs : List Addr} {b : Int × Int} (hl : as.length = ps.length)
    (hT : ∀ (i : Nat) (t : Addr) (p : Int × Int), as[i]? = some t → ps[i]? = some p → SqT K H t [.int p.1, .int p.2]) (rv : Vals (as.map V.ref) its) (hr : ReadsAll s.heap its (ps.map pairD) cs) (hv : its.toArray[i]? = some v) (rd : Reads h' v (pairD b) bs)
    (hk : ∀ b o, s.heap.get? b = some o → h'.get? b = some o) : ∃ t, v = .ref t ∧ SqT K H t [.int b.1, .int b.2] := by
  have hv' : its[i]? = some v := by simpa using hv
  have hil : i < its.length := (List.getElem?_eq_some_iff.mp hv').1
  have hvl := rv.length
  rw [List.length_map] at hvl
  obtain ⟨u, hu, ru⟩ := rv.get (show (as.map V.ref)[i]? = some (.ref (as[i]'(by omega))) by rw [List.getElem?_map, List.getElem?_eq_getElem (by omega)]; rfl)
  rw [hv'] at hu
  cases hu
  have hp : ps[i]? = some (ps[i]'(by omega)) := List.getElem?_eq_getElem (by omega)
  obtain ⟨ds, r1, _, _, _⟩ := PySem.W.readsAll_at hr i v hv'
  have e1 : (ps.map pairD).getD i .none = pairD (ps[i]'(by omega)) := by
    rw [List.getD_eq_getElem?_getD, List.getElem?_map, hp]
    rfl
  rw [e1] at r1
  have e2 := PySem.SeqAt.Reads.unique (pairD b) _ v _ _ (by simp [pairD, PyData.canLay0, PyData.canLayAll0]) rd (Reads.keeps hk r1)
  have e3 : b = ps[i]'(by omega) := by
    unfold pairD at e2
    injection e2 with e2
    injection e2 with e4 e5
    injection e5 with e5 _
    injection e4 with e4
    injection e5 with e5
    exact Prod.ext e4 e5
  refine ⟨as[i]'(by omega), ru, ?_⟩
  rw [e3]
  exact hT i _ _ (List.getElem?_eq_getElem (by omega)) hp
theorem k_minP (K : PySem.W.Frag) (h : X.K = K) (hc : X.calm = true) (hu : X.A.units + 65 < cLine) : CallR X (.builtin "min") (rMnP K minP) := by
  subst h
  intro pins s σ H xs us Q I r h
  obtain ⟨a, p, ps, rfl, ⟨as, hS, hl, hT⟩, q⟩ := h
  obtain ⟨its, rv, hL, _⟩ := I.list hS
  rw [Vals.ref1 r]
  obtain ⟨cs, hr⟩ := Dp.readsAll I _ _ its (pairs_dp hl hT) rv
  have hd := pairs_depth (p :: ps)
  refine PySem.W.min_list_data (I.ok.hd hc) hL.isList (show ReadsAll s.heap its.toArray.toList (pairD p :: ps.map pairD) cs by simpa using hr) (pairs_alike (p :: ps)) (by rw [List.map_cons] at hd; omega) fun i v h' tk bs hv rd hk => ?_
  rw [minP_data] at rd
  obtain ⟨t, rfl, ht⟩ := pick hl hT rv hr hv rd hk
  exact ⟨.ref t, H, I.kept hk, rfl, q t ht⟩
theorem k_maxP (K : PySem.W.Frag) (h : X.K = K) (hc : X.calm = true) (hu : X.A.units + 65 < cLine) : CallR X (.builtin "max") (rMnP K maxP) := by
  subst h
  intro pins s σ H xs us Q I r h
  obtain ⟨a, p, ps, rfl, ⟨as, hS, hl, hT⟩, q⟩ := h
  obtain ⟨its, rv, hL, _⟩ := I.list hS
  rw [Vals.ref1 r]
  obtain ⟨cs, hr⟩ := Dp.readsAll I _ _ its (pairs_dp hl hT) rv
  have hd := pairs_depth (p :: ps)
  refine PySem.W.max_list_data (I.ok.hd hc) hL.isList (show ReadsAll s.heap its.toArray.toList (pairD p :: ps.map pairD) cs by simpa using hr) (pairs_alike (p :: ps)) (by rw [List.map_cons] at hd; omega) fun i v h' tk bs hv rd hk => ?_
  rw [maxP_data] at rd
  obtain ⟨t, rfl, ht⟩ := pick hl hT rv hr hv rd hk
  exact ⟨.ref t, H, I.kept hk, rfl, q t ht⟩
theorem huM {k : Nat} {A : Around} (r : Room k A) : A.units + 65 < cLine := by have := r.un; omega
end
end My

namespace My
open PySem PySem.Spec PyProof.Rows L2 Pre
/-- a comprehension over a list that makes new things: R tells what is known of the i-th -/
theorem lc_relL {K : PySem.W.Frag} {a : Addr} {xs : List V} {j : Nat} {te : TE} {vs : List Nat} {σ : L2.St} {H1 : Hp} {D : Addr} {Qd : Hp → Prop} (R : Nat → V → Hp → Prop) (nD : H1 D = none) (hS : SqL K H1 a xs) (hz : xs.length < sizeLine)
    (mono : ∀ (i : Nat) (y : V) (H H' : Hp), Pre.Off D H H' → R i y H → R i y H') (hw : ∀ x, wipe ((wipe σ vs).set j (some x)) vs = wipe σ vs)
    (hs : ∀ (i : Nat) (x : V) (H' : Hp) (zs : List V), xs[i]? = some x → Same H1 H' → H' D = some (.lst zs) → ∀ Qt : V → Hp → Prop, (∀ y H'', Same H' H'' → R i y H'' → Qt y H'') → te ((wipe σ vs).set j (some x)) H' Qt)
    (hd : ∀ H' ys, Same H1 H' → H' D = some (.lst ys) → ys.length = xs.length → (∀ (i : Nat) (y : V), ys[i]? = some y → R i y H') → Qd H') :
    ∃ W : Nat → Nat → Hp → Prop, (∃ m, W 0 m (upd H1 D (.lst []))) ∧ ∀ i m H, W i m H →
      ((Itl K a).stop i H ∧ Qd H) ∨ ((Itl K a).go i H ∧ ∃ Nx : Hp → Prop, (∀ H', Nx H' → ∃ m', m' < m ∧ W (i + 1) m' H') ∧ ∀ x H', (Itl K a).yld i H x H' → gName j x (wipe σ vs) H' fun σ2 H2 => wipe σ2 vs = wipe σ vs ∧ tYes σ2 H2 fun b H3 =>
        if b = true then te σ2 H3 fun y H4 => ∃ acc, H4 D = some (.lst acc) ∧ acc.length < sizeLine ∧ Nx (upd H4 D (.lst (acc ++ [y]))) else Nx H3) := by
  refine lc_list (K := K) (a := a) (xs := xs) (RelPv R H1 D) ⟨[], same_upd nD, upd_same, rfl, fun k y h => by simp at h⟩ (fun i H _ ⟨_, s, _⟩ => s.seq hS) ?_ ?_
  · rintro i x H hx ⟨ys, s, hD, hl, hR⟩
    have hi : i < xs.length := (List.getElem?_eq_some_iff.mp hx).1
    refine ⟨hw _, ?_⟩
    unfold tYes
    dsimp only
    rw [if_pos (show true = true from rfl)]
    refine hs i x H ys hx s hD _ fun y H4 s4 r4 => ?_
    refine ⟨ys, s4 _ _ hD, by omega, ys ++ [y], same_over nD (s.trans s4), upd_same, by rw [List.length_append, hl]; rfl, fun k z hz => ?_⟩
    have off : Pre.Off D H4 (upd H4 D (.lst (ys ++ [y]))) := fun b o nb h => by rw [upd_ne nb]; exact h
    by_cases hk : k < ys.length
    · rw [List.getElem?_append_left hk] at hz
      exact mono k z H _ (fun b o nb h => off b o nb (s4 b o h)) (hR k z hz)
    · rw [List.getElem?_append_right (by omega)] at hz
      have hk2 : k - ys.length = 0 := by
        have h2 := (List.getElem?_eq_some_iff.mp hz).1
        rw [List.length_singleton] at h2
        omega
      rw [hk2] at hz
      cases hz
      have ek : k = i := by omega
      rw [ek]
      exact mono i y H4 _ off r4
  · rintro H ⟨ys, s, hD, hl, hR⟩
    exact hd H ys s hD hl hR
/-- a list of lists of whole numbers -/
def RowsIn (H : Hp) (p : Addr) (rows : List (List Int)) : Prop := ∃ as : List Addr, H p = some (.lst (as.map V.ref)) ∧ as.length = rows.length ∧ ∀ (i : Nat) (a : Addr) (r : List Int), as[i]? = some a → rows[i]? = some r → H a = some (.lst (r.map V.int))
theorem RowsIn.same {H H' : Hp} {p : Addr} {rows : List (List Int)} (h : RowsIn H p rows) (s : Same H H') : RowsIn H' p rows := by
  obtain ⟨as, h1, h2, h3⟩ := h
  exact ⟨as, s _ _ h1, h2, fun i a r ha hr => s _ _ (h3 i a r ha hr)⟩
section
variable {X : Cx}
theorem huD {k : Nat} {A : Around} (r : Room k A) : A.units + 65 < cLine := by have := r.un; omega
theorem k_inD (K : PySem.W.Frag) (h : X.K = K) (hu : X.A.units + 65 < cLine) : OpR X (compareOp .In) (rInD K) := by subst h; exact op_inD hu
theorem k_notInD (K : PySem.W.Frag) (h : X.K = K) (hu : X.A.units + 65 < cLine) : OpR X (compareOp .NotIn) (rNotInD K) := by subst h; exact op_notInD hu
theorem k_indexD (K : PySem.W.Frag) (h : X.K = K) (hu : X.A.units + 65 < cLine) : MtR X "list.index" (rIndexD K) := by subst h; exact mt_indexD hu
end
/-- rows as data -/
def rowD (r : List Int) : PyData := .list (r.map PyData.int)
theorem rows_dp {K : PySem.W.Frag} {H : Hp} : ∀ {as : List Addr} {rows : List (List Int)}, as.length = rows.length → (∀ (i : Nat) (a : Addr) (r : List Int), as[i]? = some a → rows[i]? = some r → H a = some (.lst (r.map V.int))) → DpAll K H (as.map V.ref) (rows.map rowD)
  | [], [], _, _ => .nil
  | [], _ :: _, h, _ => by simp at h
  | _ :: _, [], h, _ => by simp at h
  | a :: as, r :: rows, h, k => .cons (.lst (.inl (.inl (k 0 a r rfl rfl))) (Pre.dp_ints r)) (rows_dp (by simpa using h) fun i t q ht hq => k (i + 1) t q (by simpa using ht) (by simpa using hq))
theorem rowD_eqv (r q : List Int) : PyData.eqv (rowD r) (rowD q) = decide (r = q) := by
  unfold rowD
  rw [PyData.eqv, eqv_ints]
theorem rows_shaped (rows : List (List Int)) : SeqAt.shaped (.list (rows.map rowD)) = true := by
  have h1 : ∀ l : List (List Int), PyData.canLayAll0 (l.map rowD) = true := fun l => by
    induction l with
    | nil => rfl
    | cons r l ih =>
      show (PyData.canLay0 (rowD r) && PyData.canLayAll0 (l.map rowD)) = true
      rw [ih]
      unfold rowD
      rw [PyData.canLay0, lay_ints]
      rfl
  have h2 : ∀ l : List (List Int), PyData.depthAll (l.map rowD) ≤ 1 := fun l => by
    induction l with
    | nil => simp [PyData.depthAll]
    | cons r l ih =>
      show PyData.depthAll (rowD r :: l.map rowD) ≤ 1
      rw [PyData.depthAll]
      unfold rowD at *
      rw [PyData.depth, depth_ints]
      omega
  show (PyData.canLay0 (.list (rows.map rowD)) && decide (PyData.depth (.list (rows.map rowD)) ≤ 64)) = true
  rw [Bool.and_eq_true]
  have := h2 rows
  exact ⟨by rw [PyData.canLay0]; exact h1 rows, decide_eq_true (by rw [PyData.depth]; omega)⟩
end My

namespace My
open PySem PySem.Spec PyProof.Rows L2 Pre
/-! ### promises for callers that stand in no repr: within them repr of lists shows its items -/
structure FnG (P : Program) (w : World) (K : PySem.W.Frag) (mg : Str → Option Value) (base : Heap) (CX : CXT) (k : Nat) (f : Addr) (fd : FuncData) (ps : List Str) (sp : Sp) : Prop where
  many : ∀ xs H Q E, sp xs H Q E → xs.length = ps.length
  does : ∀ (A : Around), A.guards = some [] → Room k A → ∀ (fr : List Env) (t : Shared) (H : Hp), Env0 P w K mg base A fr t H → ∀ (ar : Args) (us : List Value) (xs : List V), BindsTo t fd ar (ps.zip us) → Vals xs us →
    ∀ (Q : VK) (E : XK), sp xs H Q E → codeAny (model P w) A (.call (.ref f) ar) (CR CX fr P w H t Q E) t
section
variable {P : Program} {w : World} {K : PySem.W.Frag} {mg : Str → Option Value} {base : Heap} {CX : CXT} {k : Nat} {f : Addr} {fd : FuncData} {ps : List Str} {sp : Sp}
theorem FnG.of (F : FnOk P w K mg base CX k f fd ps sp) : FnG P w K mg base CX k f fd ps sp :=
  ⟨F.len, fun A _ hr fr t H e ar us xs b v Q E h => F.run A fr t H ar us xs Q E hr e b v h⟩
/-- a body makes a promise -/
theorem FnG.body {x qual : Str} {pr : Arguments} {bd : List Stmt} {sc : Scope} {dvs : List V} {kws : List (Str × V)} {N : List Str} (F : FunD K x qual pr bd sc dvs kws f fd) (S : FnScope N ps sc) (hm : ∀ xs H Q E, sp xs H Q E → xs.length = ps.length)
    (go : ∀ (cv : Value) (A : Around) (fr : List Env) (t : Shared) (H : Hp) (xs : List V) (Q : VK) (E : XK), A.guards = some [] → Room k (A.deeper (envOfC qual sc t.heap.objs.size f cv)) → sp xs H Q E →
      ∃ τ, PSs (cxOf CX P w K mg base N qual sc f cv A fr t H E) bd τ ∧ τ { nx := fun _ H1 => Q .non H1, rt := Q } (start N xs) H) : FnG P w K mg base CX (k + 1) f fd ps sp := by
  obtain ⟨c0, d0, dv, kv, dc, pm, an, cv, ct, sl, rfl, lk, hcode, _, _⟩ := F.ex
  refine ⟨hm, fun A gd hr fr t H e0 ar us xs hb rv Q E hs => ?_⟩
  have hin : K.In t.heap := e0.mod.kin.keeps fun b o z => (e0.bs b o z).1
  have hno : t.heap.NoLimit := e0.mod.nolimit.keeps fun b o z => (e0.bs b o z).1
  refine codeAny_call_function hr.depth (hin _ _ lk) rfl S.co S.gen rfl (PySem.W.codeRec_of hin hcode) (hb _ _ _ _ ?_)
  refine wpAny_newFunctionEnv_cells S.kind (fun y hy => ?_) fun env he t1 hx => ?_
  · obtain ⟨n, u⟩ := y
    rcases S.par n (List.of_mem_zip hy).1 with z | z
    · exact Or.inl z
    · exact Or.inr ⟨z, PySem.W.cellsFrom_some _ _ _ (Or.inl z)⟩
  · subst he
    refine ⟨hno.keeps hx.toInCall.keep, codeAny_func ?_⟩
    obtain ⟨τ, hτ, hq⟩ := go cv A fr t H xs Q E gd (hr.deeper _) hs
    have J := inv_start (CX := CX) (E := E) S hr.hd e0 (hm _ _ _ _ hs) rv hx
    refine wpAny_mono (hτ.run [] t1 (start N xs) H _ J hq) (fun fl t2 h2 => ?_) fun _ _ z => z
    cases fl with
    | brk => exact False.elim h2.choose_spec.choose_spec.2
    | cont => exact False.elim h2.choose_spec.choose_spec.2
    | next =>
      obtain ⟨σ2, H2, J2, q2⟩ := h2
      exact ⟨V.non, H2, J2.os, J2.bare, J2.base, J2.hok, rfl, q2⟩
    | ret u =>
      obtain ⟨v2, σ2, H2, J2, r2, q2⟩ := h2
      exact ⟨v2, H2, J2.os, J2.bare, J2.base, J2.hok, r2, q2⟩
end
section
variable {X : Cx} {CX : CXT} {k : Nat} {f : Addr} {fd : FuncData} {ps : List Str} {sp : Sp} {dvs : List V} {ds : List Value} {E : XK} {x : Str} {p pos : Pos} {e : Expr} {es : List Expr} {t : TA}
theorem go_g {pins : List (Addr × Obj)} {σ : L2.St} {H : Hp} {s : Shared} {Q : VK} {us : List Value} {xs : List V} (F : FnG X.prog X.w X.K X.mg X.base CX k f fd ps sp) (gd : X.A.guards = some []) (hr : Room k X.A) (hb : Binds X.K fd ps ds) (hd : Vals dvs ds)
    (hx : Passes CX X E) (I : Inv X pins σ H s) (r : Vals xs us) (h : sp (xs ++ dvs) H Q E) : wpAny (model X.prog X.w) X.A (call (.ref f) us) (EP X pins σ Q) X.xe s := by
  have rr := Vals.append r hd
  refine wpAny_call (codeAny_mono (F.does X.A gd hr X.stack s H I.env0 ⟨us, []⟩ (us ++ ds) (xs ++ dvs) (hb s us I.kIn (by rw [← rr.length]; exact F.many _ _ _ _ h)) rr Q E h) fun z s2 hz => ?_)
  match z, hz with
  | .error e, hz => exact hx pins σ H s e s2 I hz
  | .ok (.ret u), hz => exact I.after hz
theorem pe_callG (F : FnG X.prog X.w X.K X.mg X.base CX k f fd ps sp) (gd : X.A.guards = some []) (hr : Room k X.A) (hg : Gl X x) (hm : X.mg x = some (.ref f)) (hk : PySem.W.keepIn X.K (.ref f) = true) (hb : Binds X.K fd ps ds) (hd : Vals dvs ds) (hx : Passes CX X E)
    (ha : PA X (e :: es) t) (hdb : (x == ("__debug__" : Str)) = false := by decide) (he : starEach (e :: es) X.env = (false, eval e X.env) :: starEach es X.env := by rfl) (hpl : (backTo pos (starEach es X.env)).any (·.1) = false := by rfl) :
    PE X (.Call (.Name x p) (e :: es) [] pos) (tCall sp dvs E t) :=
  ⟨fun pins s σ H Q I h => wpAny_Call_Name_kw (ld_glob I hg hm (PySem.W.callWith_K (h₀ := X.base) I.ok.mod.kin hk (thn (ha.run pos pins s σ H _ I h) fun us s1 ⟨vs, H1, J, r, q⟩ => ⟨J.kIn, go_g F gd hr hb hd hx J r q⟩) he hpl) hdb)⟩
theorem pe_callG0 (F : FnG X.prog X.w X.K X.mg X.base CX k f fd ps sp) (gd : X.A.guards = some []) (hr : Room k X.A) (hg : Gl X x) (hm : X.mg x = some (.ref f)) (hk : PySem.W.keepIn X.K (.ref f) = true) (hb : Binds X.K fd ps ds) (hd : Vals dvs ds) (hx : Passes CX X E)
    (hdb : (x == ("__debug__" : Str)) = false := by decide) : PE X (.Call (.Name x p) [] [] pos) (tCall sp dvs E tNil) :=
  ⟨fun pins s σ H Q I h => wpAny_Call_Name_kw (ld_glob I hg hm (PySem.W.callWith_K0 I.kIn hk (go_g (us := []) F gd hr hb hd hx I .nil h)) hdb)⟩
end
/-! ### repr -/
def rRepr (K : PySem.W.Frag) : List V → Hp → VK → Prop := fun xs H Q => ∃ (x : V) (d : PyData), xs = [x] ∧ Dp K H x d ∧ d.showable = true ∧ SeqAt.shaped d = true ∧ d.shown.length ≤ sizeLine ∧ Q (.str d.shown) H
theorem call_repr {X : Cx} (gd : X.A.guards = some []) (hu : X.A.units + 65 < cLine) : CallR X (.builtin "repr") (rRepr X.K) := by
  intro pins s σ H xs us Q I r h
  obtain ⟨x, d, rfl, hd, hs, hsh, hl, q⟩ := h
  cases r with
  | cons rx rr =>
    cases rr
    rename_i u
    have hlay : d.canLay0 = true := SeqAt.canLay_of_shaped hsh
    have hdep : d.depth ≤ 64 := by
      have z : (d.canLay0 && decide (d.depth ≤ 64)) = true := hsh
      exact of_decide_eq_true (Bool.and_eq_true_iff.mp z).2
    obtain ⟨as, rd⟩ := Dp.reads I d x u hd rx
    have fin : ∀ h' v tk, (∀ b o, s.heap.get? b = some o → h'.get? b = some o) → EP X pins σ Q (.str d.shown v) { s with heap := h', toks := tk } := fun h' v tk hk => ⟨.str d.shown, H, I.kept hk, ⟨v, rfl⟩, q⟩
    cases hd with
    | non => cases rx; exact PySem.P.repr_of_none (fin _ _ _ fun _ _ z => z)
    | bl b => cases rx; exact PySem.P.repr_of_bool (fin _ _ _ fun _ _ z => z)
    | int i => obtain ⟨t, rfl⟩ := rx; exact PySem.P.repr_of_int (of_decide_eq_true hs) (fin _ _ _ fun _ _ z => z)
    | str y => obtain ⟨t, rfl⟩ := rx; exact PySem.P.repr_of_str (fin _ _ _ fun _ _ z => z) hl
    | lst _ _ => cases rx; exact repr_of_reads' rd hs (PyData.noDict_hsm (PyData.hasDict_of_canLay _ hlay)) gd (by omega) (fun _ _ z => z) fin hl
    | tup _ _ => cases rx; exact repr_of_reads' rd hs (PyData.noDict_hsm (PyData.hasDict_of_canLay _ hlay)) gd (by omega) (fun _ _ z => z) fin hl
theorem k_repr {X : Cx} (K : PySem.W.Frag) (h : X.K = K) (gd : X.A.guards = some []) (hu : X.A.units + 65 < cLine) : CallR X (.builtin "repr") (rRepr K) := by subst h; exact call_repr gd hu
theorem hu65 {k : Nat} {A : Around} (r : Room k A) : A.units + 65 < cLine := by have := r.un; omega
/-- rows of whole numbers, shown -/
theorem dp_ints {K : PySem.W.Frag} {H : Hp} : ∀ ns : List Int, DpAll K H (ns.map V.int) (ns.map PyData.int)
  | [] => .nil
  | n :: ns => .cons (.int n) (dp_ints ns)
theorem dp_row {K : PySem.W.Frag} {H : Hp} {a : Addr} {ns : List Int} (h : SqL K H a (ns.map V.int)) : Dp K H (.ref a) (.list (ns.map PyData.int)) := .lst h (dp_ints ns)
def shownR (ns : List Int) : Str := PyData.shown (.list (ns.map PyData.int))
theorem ints_lay : ∀ ns : List Int, PyData.canLayAll0 (ns.map PyData.int) = true
  | [] => rfl
  | n :: ns => by simp [PyData.canLayAll0, PyData.canLay0, ints_lay ns]
theorem ints_depth : ∀ ns : List Int, PyData.depthAll (ns.map PyData.int) ≤ 1
  | [] => by simp [PyData.depthAll]
  | n :: ns => by
    have := ints_depth ns
    simp only [List.map_cons, PyData.depthAll, PyData.depth]
    omega
theorem row_shaped (ns : List Int) : SeqAt.shaped (.list (ns.map PyData.int)) = true := by
  have h := ints_depth ns
  show (PyData.canLay0 (.list (ns.map PyData.int)) && decide (PyData.depth (.list (ns.map PyData.int)) ≤ 64)) = true
  rw [Bool.and_eq_true]
  exact ⟨by simp only [PyData.canLay0]; exact ints_lay ns, decide_eq_true (by simp only [PyData.depth]; omega)⟩
theorem ints_show : ∀ ns : List Int, (∀ n ∈ ns, n.natAbs.log2 < 1920) → PyData.showableAll (ns.map PyData.int) = true
  | [], _ => rfl
  | n :: ns, h => by
    simp only [List.map_cons, PyData.showableAll, PyData.showable]
    rw [decide_eq_true (h n List.mem_cons_self), ints_show ns fun m hm => h m (List.mem_cons_of_mem _ hm)]
    rfl
/-! ### sorted, any number -/
theorem k_sortedI {X : Cx} (K : PySem.W.Frag) (h : X.K = K) : CallR X (.builtin "sorted") (rSortedI K) := by subst h; exact cr_sortedI
def rSortedA (K : PySem.W.Frag) : List V → Hp → VK → Prop := fun vs H Q => ∃ (a : Addr) (xs : List Str), vs = [V.ref a] ∧ SqL K H a (xs.map V.str) ∧ ∀ (ys : List Str) (p : Addr), ys.Perm xs → sortedS ys = true → H p = none → Q (.ref p) (upd H p (.lst (ys.map V.str)))
theorem k_sortedS {X : Cx} (K : PySem.W.Frag) (h : X.K = K) : CallR X (.builtin "sorted") (rSortedA K) := by
  subst h
  intro pins s σ H vs us Q I r h
  obtain ⟨a, xs, rfl, hs, q⟩ := h
  obtain ⟨its, rv, hl, hz⟩ := I.list hs
  rw [Vals.ref1 r]
  refine sorted_strsAny hl.isList rv.strs (by rw [← rv.length]; exact hz) fun out ys h1 h2 h3 => ?_
  obtain ⟨ep, at_⟩ := sortedAll_at s.heap its out
  refine ⟨.ref _, upd H (s.heap.objs.size + 1) (.lst (ys.map V.str)), I.laid (t' := s.toks) (fun _ _ => sortedAll_old) (Nat.le_succ _) ⟨?_, out.toList, ep, vals_of_strs h1, at_⟩, rfl, q ys _ h2 h3 (I.hok.fresh (Nat.le_succ _))⟩
  rw [List.length_map, h2.length_eq]
  rw [List.length_map] at hz
  exact hz
theorem sorted_le : ∀ (l : List Str) (p : Str), risingS p l = true → (p :: l).Pairwise fun x y => x.cps.toList ≤ y.cps.toList
  | [], p, _ => List.pairwise_singleton _ _
  | x :: r, p, h => by
    obtain ⟨h1, h2⟩ := Bool.and_eq_true_iff.mp (show (!ltCps x.cps.toList p.cps.toList && risingS x r) = true from h)
    have hpx : p.cps.toList ≤ x.cps.toList := by
      rw [ltCps_eq] at h1
      intro z
      rw [decide_eq_true z] at h1
      cases h1
    have ih := sorted_le r x h2
    refine List.pairwise_cons.mpr ⟨fun y hy => ?_, ih⟩
    rcases List.mem_cons.mp hy with rfl | hy
    · exact hpx
    · exact List.le_trans hpx ((List.pairwise_cons.mp ih).1 y hy)
theorem sorted_uniq {xs ys : List Str} (h : xs.Perm ys) (hx : sortedS xs = true) (hy : sortedS ys = true) : xs = ys := by
  have pw : ∀ l : List Str, sortedS l = true → l.Pairwise fun x y => x.cps.toList ≤ y.cps.toList := fun l hl => by
    cases l with
    | nil => exact .nil
    | cons x r => exact sorted_le r x hl
  refine List.Perm.eq_of_pairwise (fun x y _ _ h1 h2 => ?_) (pw _ hx) (pw _ hy) h
  have e := List.le_antisymm h1 h2
  cases x with | mk a => cases y with | mk b => exact congrArg Str.mk (Array.toList_inj.mp e)
end My

namespace My
open PySem PySem.Spec PyProof.Rows L2 Pre
/-! ### the end of a law whose promise stands in no repr -/
/-- the script, tracked or one of the module's own objects -/
theorem script_env {P : Program} {w : World} {K : PySem.W.Frag} {mg mb : Str → Option Value} {a : Addr} {t : Shared} {us : List Value} {ns : List Int} (hin : K.In t.heap) (hgl : t.heap.Ns mainGlobals mg) (hbl : t.heap.Ns builtinsNs mb)
    (hbo : ∀ x : Str, x ≠ "__name__" → mb x = bootBuiltins x) (hno : t.heap.NoLimit) (hgs : t.gens = #[]) (at_a : t.heap.get? a = some { cls := .type "list", data := .seq us.toArray }) (ints_ : IntsAre us ns) (few : ns.length ≤ sizeLine) :
    ∃ (H : Hp) (base : Heap), Only H ∧ SqL K H a (ns.map V.int) ∧ K.In base ∧ base.Ns mainGlobals mg ∧ Env0 P w K mg base callerA [] t H := by
  have rv := vals_ints ints_
  have ul := ints_.length
  -- the module and the rest of the heap, whatever is tracked at a alone
  have rest : ∀ H : Hp, Only H → (∀ b, b ≠ a → H b = none) → (H a = none ∨ K.lookup a = none) → HOk P w H t.heap → SqL K H a (ns.map V.int) → ∃ (H : Hp) (base : Heap), Only H ∧ SqL K H a (ns.map V.int) ∧ K.In base ∧ base.Ns mainGlobals mg ∧ Env0 P w K mg base callerA [] t H := by
    intro H h1 h2 h3 h4 h5
    have dictFree : ∀ b o, t.heap.get? b = some o → (∃ es n, o.data = Data.dict es n) → H b = none := fun b o z ⟨es, n, d⟩ => by
      by_cases hb : b = a
      · rw [hb, at_a] at z
        cases z
        cases d
      · exact h2 b hb
    have nsKept : ∀ (b : Addr) (m : Str → Option Value), t.heap.Ns b m → (hidT t.heap H).Ns b m := fun b m z => by
      obtain ⟨o, es, ep, z1, z2, z3⟩ := z
      exact ⟨o, es, ep, hidT_get z1 (dictFree b o z1 ⟨_, _, z2⟩), z2, z3⟩
    have inKept : K.In (hidT t.heap H) := fun b o z => hidT_get (hin b o z) (by
      by_cases hb : b = a
      · rcases h3 with z3 | z3
        · rw [hb]; exact z3
        · rw [hb, z3] at z; cases z
      · exact h2 b hb)
    obtain ⟨mc, l1, l2⟩ := hno
    refine ⟨H, hidT t.heap H, h1, h5, inKept, nsKept _ _ hgl, ⟨rfl, ⟨inKept, nsKept _ _ hgl, ⟨mb, nsKept _ _ hbl, hbo⟩, ⟨mc, nsKept _ _ l1, l2⟩⟩, fun b o z => of_hidT z, ?_, trivial, fun b z => (nomatch z), h4, .of_eq hgs⟩⟩
    rw [hidT_size]
    exact Nat.le_refl _
  cases hk : K.lookup a with
  | some o =>
    have z := hin a o hk
    rw [at_a] at z
    cases z
    exact rest (fun _ => none) (fun _ => .inl rfl) (fun _ _ => rfl) (.inl rfl) (fun _ _ z => nomatch z) (.inr ⟨_, us.toArray, _, hk, rfl, rfl, rfl, by rw [List.size_toArray, ul]; exact few, by simpa using rv⟩)
  | none =>
    refine rest (upd (fun _ => none) a (.frz { cls := .type "list", data := .seq us.toArray } (.lst (ns.map V.int)))) (fun b => ?_) (fun b hb => upd_ne hb) (.inr hk) (fun b u z => ?_) (.inl (.inr ⟨_, upd_same⟩))
    · by_cases hb : b = a
      · rw [hb]; exact .inr ⟨_, _, upd_same⟩
      · exact .inl (upd_ne hb)
    · by_cases hb : b = a
      · subst hb
        rw [upd_same] at z
        cases z
        exact ⟨at_a, by rw [List.length_map]; exact few, us, _, rv, at_a⟩
      · rw [upd_ne hb] at z
        cases z
theorem end_g {l : PySem.W.OpenLaw} {n k : Nat} {q : Program} {loose : List Str} {XP : (Str → Option Value) → Heap → Prop} {YP : World → Heap → Prop} {d : DefRec} {x : Str} (hn : l.most = some n) (hn2 : n ≤ sizeLine) (hdf : d.params.defaults = []) (hr : Room k callerA)
    (F : ∀ (w : World) (mg : Str → Option Value) (fa : Addr) (h : Heap), YP w h → h.Ns mainGlobals mg → mg d.name = some (.ref fa) →
      ∃ (K : PySem.W.Frag) (fd : FuncData) (sp : Sp), K.In h ∧ (∀ (s : Shared) (u : Value), BindsTo s fd ⟨[u], []⟩ [(x, u)]) ∧
        (∀ (H : Hp) (a : Addr) (ns : List Int), ns.length ≤ n → SqL K H a (ns.map V.int) → sp [.ref a] H (fun v _ => v = .bl true) fun _ _ _ => False) ∧
        ∀ base : Heap, K.In base → base.Ns mainGlobals mg → FnG l.prog w K mg base CX0 k fa fd [x] sp) :
    PySem.W.WalkO q loose XP YP l.row.toRowW d [] (fun f vs => PySem.call f vs) := by
  refine Att.attach_call hn hdf fun w s₀ t mg mb fa o pm cd doc a us ns G Y ho hd hcd hmg at_a hi hl hg => ?_
  obtain ⟨K, fd, sp, hin, hb, hsp, hF⟩ := F w mg fa _ Y G.T.g hmg
  obtain ⟨H, base, only, hS, hKb, hgb, e0⟩ := script_env (P := l.prog) (w := w) hin G.T.g G.T.b G.T.builtins G.T.nolimit hg at_a hi (Nat.le_trans hl hn2)
  refine codeAny_mono ((hF base hKb hgb).does callerA rfl hr [] t H e0 ⟨[.ref a], []⟩ [.ref a] [.ref a] (hb t (.ref a)) (.cons rfl .nil) _ _ (hsp H a ns hl hS)) fun r t2 h => ?_
  match r, h with
  | .error e, h => exact (show False from h).elim
  | .ok (.ret u), h =>
    obtain ⟨v, H2, os, bare, un, hok2, rv, qv⟩ := h
    have qv : v = .bl true := qv
    subst qv
    have rv : u = Value.bool true := rv
    subst rv
    refine ⟨rfl, OldK.of_keep fun b o z => ?_, os, bare⟩
    rcases only b with hb | ⟨ob, ys, hb⟩
    · exact un.keep b o z hb (fun y => nomatch y) (fun y => nomatch y)
    · have z1 : t.heap.get? b = some ob := (e0.hok b _ hb).1
      have z2 : t2.heap.get? b = some ob := (hok2 b _ (un.frzs b ob _ hb)).1
      rw [z] at z1
      cases z1
      exact z2
end My

namespace My
open PySem PySem.Spec PyProof.Rows L2 Pre
/-! ### data in a heap: what is told of a value by lists and tuples that stand there (none of them frozen) -/
mutual
inductive Dt (H : Hp) : V → PyData → Prop
  | non : Dt H .non .none
  | bl (b : Bool) : Dt H (.bl b) (.bool b)
  | int (n : Int) : Dt H (.int n) (.int n)
  | str (x : Str) : Dt H (.str x) (.str x)
  | lst {a : Addr} {xs : List V} {ds : List PyData} : H a = some (.lst xs) → DtA H xs ds → Dt H (.ref a) (.list ds)
  | tup {a : Addr} {xs : List V} {ds : List PyData} : H a = some (.tup xs) → DtA H xs ds → Dt H (.ref a) (.tuple ds)
inductive DtA (H : Hp) : List V → List PyData → Prop
  | nil : DtA H [] []
  | cons {v : V} {vs : List V} {d : PyData} {ds : List PyData} : Dt H v d → DtA H vs ds → DtA H (v :: vs) (d :: ds)
end
mutual
theorem Dt.same {H H' : Hp} (s : Same H H') : ∀ {d : PyData} {v : V}, Dt H v d → Dt H' v d
  | .none, _, h => by cases h; exact .non
  | .bool _, _, h => by cases h; exact .bl _
  | .int _, _, h => by cases h; exact .int _
  | .str _, _, h => by cases h; exact .str _
  | .list _, _, h => by cases h with | lst a b => exact .lst (s _ _ a) (DtA.same s b)
  | .tuple _, _, h => by cases h with | tup a b => exact .tup (s _ _ a) (DtA.same s b)
  | .dict _, _, h => nomatch h
theorem DtA.same {H H' : Hp} (s : Same H H') : ∀ {ds : List PyData} {vs : List V}, DtA H vs ds → DtA H' vs ds
  | [], _, h => by cases h; exact .nil
  | _ :: _, _, h => by cases h with | cons a b => exact .cons (Dt.same s a) (DtA.same s b)
end
mutual
theorem Dt.dp {K : PySem.W.Frag} {H : Hp} : ∀ {d : PyData} {v : V}, Dt H v d → Dp K H v d
  | .none, _, h => by cases h; exact .non
  | .bool _, _, h => by cases h; exact .bl _
  | .int _, _, h => by cases h; exact .int _
  | .str _, _, h => by cases h; exact .str _
  | .list _, _, h => by cases h with | lst a b => exact .lst (.inl (.inl a)) (DtA.dp b)
  | .tuple _, _, h => by cases h with | tup a b => exact .tup (.inl (.inl a)) (DtA.dp b)
  | .dict _, _, h => nomatch h
theorem DtA.dp {K : PySem.W.Frag} {H : Hp} : ∀ {ds : List PyData} {vs : List V}, DtA H vs ds → DpAll K H vs ds
  | [], _, h => by cases h; exact .nil
  | _ :: _, _, h => by cases h with | cons a b => exact .cons (Dt.dp a) (DtA.dp b)
end
theorem DtA.len {H : Hp} : ∀ {ds : List PyData} {vs : List V}, DtA H vs ds → vs.length = ds.length
  | [], _, h => by cases h; rfl
  | _ :: _, _, h => by cases h with | cons a b => rw [List.length_cons, List.length_cons, DtA.len b]
theorem DtA.app {H : Hp} : ∀ {ds : List PyData} {vs : List V} {es : List PyData} {us : List V}, DtA H vs ds → DtA H us es → DtA H (vs ++ us) (ds ++ es)
  | [], _, _, _, h, k => by cases h; exact k
  | _ :: _, _, _, _, h, k => by cases h with | cons a b => exact .cons a (DtA.app b k)
theorem DtA.get {H : Hp} : ∀ {ds : List PyData} {vs : List V} {i : Nat} {d : PyData}, DtA H vs ds → ds[i]? = some d → ∃ v, vs[i]? = some v ∧ Dt H v d
  | [], _, _, _, _, k => by simp at k
  | _ :: _, _, 0, _, h, k => by
    cases h with
    | cons a b => rw [List.getElem?_cons_zero] at k; cases k; exact ⟨_, rfl, a⟩
  | _ :: _, _, i + 1, _, h, k => by
    cases h with
    | cons a b => rw [List.getElem?_cons_succ] at k; rw [List.getElem?_cons_succ]; exact DtA.get b k
theorem DtA.got {H : Hp} {ds : List PyData} {vs : List V} {i : Nat} {v : V} (h : DtA H vs ds) (k : vs[i]? = some v) : ∃ d, ds[i]? = some d ∧ Dt H v d := by
  have hi := (List.getElem?_eq_some_iff.mp k).1
  have hl := h.len
  obtain ⟨u, hu, d⟩ := h.get (List.getElem?_eq_getElem (show i < ds.length by omega))
  rw [k] at hu
  cases hu
  exact ⟨_, List.getElem?_eq_getElem (by omega), d⟩
theorem DtA.take {H : Hp} : ∀ {ds : List PyData} {vs : List V} (n : Nat), DtA H vs ds → DtA H (vs.take n) (ds.take n)
  | _, _, 0, _ => .nil
  | [], _, _ + 1, h => by cases h; exact .nil
  | _ :: _, _, n + 1, h => by cases h with | cons a b => exact .cons a (DtA.take n b)
theorem DtA.drop {H : Hp} : ∀ {ds : List PyData} {vs : List V} (n : Nat), DtA H vs ds → DtA H (vs.drop n) (ds.drop n)
  | _, _, 0, h => h
  | [], _, _ + 1, h => by cases h; exact .nil
  | _ :: _, _, n + 1, h => by cases h with | cons a b => exact DtA.drop n b
theorem DtA.rev {H : Hp} : ∀ {ds : List PyData} {vs : List V}, DtA H vs ds → DtA H vs.reverse ds.reverse
  | [], _, h => by cases h; exact .nil
  | _ :: _, _, h => by
    cases h with
    | cons a b => rw [List.reverse_cons, List.reverse_cons]; exact DtA.app (DtA.rev b) (.cons a .nil)
theorem DtA.ints {H : Hp} : ∀ ns : List Int, DtA H (ns.map V.int) (ns.map PyData.int)
  | [] => .nil
  | n :: r => .cons (.int n) (DtA.ints r)
theorem DtA.intsE {H : Hp} : ∀ {ns : List Int} {vs : List V}, DtA H vs (ns.map PyData.int) → vs = ns.map V.int
  | [], _, h => by cases h; rfl
  | n :: r, _, h => by
    cases h with
    | cons a b => cases a; rw [DtA.intsE b]; rfl
/-- a list of whole numbers -/
theorem Dt.ints {H : Hp} {a : Addr} {ns : List Int} (h : H a = some (.lst (ns.map V.int))) : Dt H (.ref a) (rowD ns) := .lst h (DtA.ints ns)
theorem Dt.intsE {H : Hp} {v : V} {ns : List Int} (h : Dt H v (rowD ns)) : ∃ a, v = .ref a ∧ H a = some (.lst (ns.map V.int)) := by
  unfold rowD at h
  cases h with
  | lst a b => rw [DtA.intsE b] at a; exact ⟨_, rfl, a⟩
theorem Dt.listE {H : Hp} {v : V} {ds : List PyData} (h : Dt H v (.list ds)) : ∃ a xs, v = .ref a ∧ H a = some (.lst xs) ∧ DtA H xs ds := by
  cases h with
  | lst a b => exact ⟨_, _, rfl, a, b⟩
theorem Dt.tupE {H : Hp} {v : V} {ds : List PyData} (h : Dt H v (.tuple ds)) : ∃ a xs, v = .ref a ∧ H a = some (.tup xs) ∧ DtA H xs ds := by
  cases h with
  | tup a b => exact ⟨_, _, rfl, a, b⟩
/-! ### what is owned (and changes) is left out -/
def rs (S : List Addr) (H : Hp) : Hp := fun a => if a ∈ S then none else H a
theorem rs_nil (H : Hp) : rs [] H = H := by funext a; simp [rs]
theorem rs_in {S : List Addr} {H : Hp} {a : Addr} (h : a ∈ S) : rs S H a = none := if_pos h
theorem rs_out {S : List Addr} {H : Hp} {a : Addr} (h : a ∉ S) : rs S H a = H a := if_neg h
theorem rs_some {S : List Addr} {H : Hp} {a : Addr} {o : HO} (h : rs S H a = some o) : a ∉ S ∧ H a = some o := by
  by_cases m : a ∈ S
  · rw [rs_in m] at h; cases h
  · rw [rs_out m] at h; exact ⟨m, h⟩
theorem rs_le {S : List Addr} {H : Hp} : Same (rs S H) H := fun _ _ h => (rs_some h).2
theorem rs_same {S : List Addr} {H H' : Hp} (s : Same H H') : Same (rs S H) (rs S H') := fun b o h => by
  obtain ⟨m, e⟩ := rs_some h
  rw [rs_out m]
  exact s b o e
theorem rs_upd {S : List Addr} {H : Hp} {p : Addr} {o : HO} (h : p ∈ S) : rs S (L2.upd H p o) = rs S H := by
  funext a
  by_cases m : a ∈ S
  · rw [rs_in m, rs_in m]
  · rw [rs_out m, rs_out m, upd_ne (fun e => m (by rw [e]; exact h))]
/-- all of them stand -/
def Has (S : List Addr) (H : Hp) : Prop := ∀ a ∈ S, ∃ o, H a = some o
theorem Has.nil {H : Hp} : Has [] H := fun _ h => nomatch h
theorem Has.same {S : List Addr} {H H' : Hp} (h : Has S H) (s : Same H H') : Has S H' := fun a m => by
  obtain ⟨o, e⟩ := h a m
  exact ⟨o, s a o e⟩
theorem Has.cons {S : List Addr} {H : Hp} {p : Addr} {o : HO} (h : Has S H) (e : H p = some o) : Has (p :: S) H := fun a m => by
  rcases List.mem_cons.mp m with rfl | m
  · exact ⟨o, e⟩
  · exact h a m
theorem Has.upd {S : List Addr} {H : Hp} {p : Addr} {o : HO} (h : Has S H) : Has S (L2.upd H p o) := fun a m => by
  by_cases e : a = p
  · subst e; exact ⟨o, upd_same⟩
  · rw [upd_ne e]; exact h a m
theorem Has.out {S : List Addr} {H : Hp} {p : Addr} (h : Has S H) (n : H p = none) : p ∉ S := fun m => by
  obtain ⟨o, e⟩ := h p m
  rw [n] at e
  cases e
theorem GenAt.has {H : Hp} {g : Addr} {n : Nat} (h : GenAt H g n) : Has [g] H := by
  obtain ⟨x, y, z, e, _⟩ := h
  exact Has.nil.cons e
/-- all but what is owned stays -/
def Sta (S : List Addr) (H H' : Hp) : Prop := Same (rs S H) (rs S H')
theorem Sta.of {S : List Addr} {H H' : Hp} (s : Same H H') : Sta S H H' := rs_same s
theorem Sta.trans {S : List Addr} {H H1 H2 : Hp} (a : Sta S H H1) (b : Sta S H1 H2) : Sta S H H2 := fun c o h => b c o (a c o h)
theorem Sta.at_ {S : List Addr} {H H' : Hp} (s : Sta S H H') {a : Addr} {o : HO} (m : a ∉ S) (h : H a = some o) : H' a = some o := (rs_some (s a o (by rw [rs_out m]; exact h))).2
theorem Sta.upd {S : List Addr} {H : Hp} {p : Addr} {o : HO} (h : p ∈ S) : Sta S H (L2.upd H p o) := fun c u e => by rw [rs_upd h]; exact e
theorem Sta.more {S : List Addr} {H H' : Hp} {p : Addr} (s : Sta S H H') : Sta (p :: S) H H' := fun c o h => by
  obtain ⟨m, e⟩ := rs_some h
  have m2 : c ∉ S := fun z => m (List.mem_cons_of_mem _ z)
  rw [rs_out m]
  exact s.at_ m2 e
theorem But.sta {g : Addr} {H H' : Hp} (b : But g H H') : Sta [g] H H' := fun c o h => by
  obtain ⟨m, e⟩ := rs_some h
  rw [rs_out m]
  exact b c o (fun z => m (by rw [z]; exact List.mem_cons_self)) e
/-- what was there ahead of a new thing does not speak of it -/
theorem under {S : List Addr} {H H' : Hp} {p : Addr} (n : H p = none) (s : Same H H') : Same (rs S H) (rs (p :: S) H') := fun c o h => by
  obtain ⟨m, e⟩ := rs_some h
  rw [rs_out (fun z => by
    rcases List.mem_cons.mp z with rfl | z
    · rw [n] at e; cases e
    · exact m z)]
  exact s c o e
theorem over {S : List Addr} {H : Hp} {p : Addr} : Same (rs (p :: S) H) (rs S H) := fun c o h => by
  obtain ⟨m, e⟩ := rs_some h
  rw [rs_out (fun z => m (List.mem_cons_of_mem _ z))]
  exact e
/-! ### a new list, a new tuple, a sum of lists -/
theorem dt_new {S : List Addr} {H : Hp} {p : Addr} {xs : List V} {ds : List PyData} (hS : Has S H) (n : H p = none) (h : DtA (rs S H) xs ds) : Dt (rs S (upd H p (.lst xs))) (.ref p) (.list ds) :=
  .lst (by rw [rs_out (hS.out n)]; exact upd_same) (h.same (rs_same (same_upd n)))
theorem dt_newT {S : List Addr} {H : Hp} {p : Addr} {xs : List V} {ds : List PyData} (hS : Has S H) (n : H p = none) (h : DtA (rs S H) xs ds) : Dt (rs S (upd H p (.tup xs))) (.ref p) (.tuple ds) :=
  .tup (by rw [rs_out (hS.out n)]; exact upd_same) (h.same (rs_same (same_upd n)))
theorem d_lst {S : List Addr} {H : Hp} {xs : List V} {ds : List PyData} {Q : VK} (hS : Has S H) (h : DtA (rs S H) xs ds) (hz : xs.length ≤ sizeLine) (k : ∀ p H', Same H H' → H p = none → H' p = some (.lst xs) → Dt (rs S H') (.ref p) (.list ds) → Q (.ref p) H') : xs.length ≤ sizeLine ∧ ∀ p, H p = none → Q (.ref p) (upd H p (.lst xs)) :=
  ⟨hz, fun p n => k p _ (same_upd n) n upd_same (dt_new hS n h)⟩
theorem d_tup {S : List Addr} {H : Hp} {xs : List V} {ds : List PyData} {Q : VK} (hS : Has S H) (h : DtA (rs S H) xs ds) (hz : xs.length ≤ sizeLine) (k : ∀ p H', Same H H' → H p = none → H' p = some (.tup xs) → Dt (rs S H') (.ref p) (.tuple ds) → Q (.ref p) H') : xs.length ≤ sizeLine ∧ ∀ p, H p = none → Q (.ref p) (upd H p (.tup xs)) :=
  ⟨hz, fun p n => k p _ (same_upd n) n upd_same (dt_newT hS n h)⟩
theorem d_cat {S : List Addr} {H : Hp} {v w : V} {ds es : List PyData} {Q : VK} (hS : Has S H) (hv : Dt (rs S H) v (.list ds)) (hw : Dt (rs S H) w (.list es)) (hz : ds.length + es.length ≤ sizeLine) (k : ∀ p H', Same H H' → H p = none → Dt (rs S H') (.ref p) (.list (ds ++ es)) → Q (.ref p) H') : rCat v w H Q := by
  obtain ⟨a, xs, rfl, ha, hx⟩ := hv.listE
  obtain ⟨b, ys, rfl, hb, hy⟩ := hw.listE
  exact ⟨a, b, xs, ys, rfl, rfl, (rs_some ha).2, (rs_some hb).2, by rw [hx.len, hy.len]; exact hz, fun p n => k p _ (same_upd n) n (dt_new hS n (hx.app hy))⟩
theorem d_eq {K : PySem.W.Frag} {H : Hp} {v w : V} {d e : PyData} {Q : VK} (hv : Dt H v d) (hw : Dt H w e) (sd : SeqAt.shaped d = true) (se : SeqAt.shaped e = true) (q : Q (.bl (PyData.eqv d e)) H) : rEqD K v w H Q := ⟨d, e, hv.dp, hw.dp, sd, se, q⟩
theorem d_ne {K : PySem.W.Frag} {H : Hp} {v w : V} {d e : PyData} {Q : VK} (hv : Dt H v d) (hw : Dt H w e) (sd : SeqAt.shaped d = true) (se : SeqAt.shaped e = true) (q : Q (.bl (!PyData.eqv d e)) H) : rNeD K v w H Q := ⟨d, e, hv.dp, hw.dp, sd, se, q⟩
/-! ### comprehensions -/
/-- what comes of an item: nothing, or data -/
def Out (S : List Addr) (H : Hp) : Option PyData → Option V → Prop
  | some d, some v => Dt (rs S H) v d
  | none, none => True
  | _, _ => False
def accP (S : List Addr) (H1 : Hp) (D : Addr) (ds : List PyData) (H : Hp) : Prop := Same H1 H ∧ ∃ ys, H D = some (.lst ys) ∧ DtA (rs (D :: S) H) ys ds
theorem acc_step {S : List Addr} {H1 : Hp} {D : Addr} {sel : List (Option PyData)} {i : Nat} {o : Option PyData} {H H4 : Hp} (nD : H1 D = none) (ho : sel[i]? = some o) (hz : sel.length < sizeLine) (h : accP S H1 D ((sel.take i).filterMap id) H) (s4 : Same H H4) :
    ∀ y : Option V, Out (D :: S) H4 o y → match y with
      | some v => ∃ acc, H4 D = some (.lst acc) ∧ acc.length < sizeLine ∧ accP S H1 D ((sel.take (i + 1)).filterMap id) (upd H4 D (.lst (acc ++ [v])))
      | none => accP S H1 D ((sel.take (i + 1)).filterMap id) H4 := by
  obtain ⟨s, ys, hD, hy⟩ := h
  intro y hO
  rw [take_fm ho]
  cases o with
  | none =>
    cases y with
    | none => exact ⟨s.trans s4, ys, s4 _ _ hD, by simpa using hy.same (rs_same s4)⟩
    | some v => exact absurd hO (fun z => z)
  | some d =>
    cases y with
    | none => exact absurd hO (fun z => z)
    | some v =>
      refine ⟨ys, s4 _ _ hD, ?_, same_over nD (s.trans s4), ys ++ [v], upd_same, ?_⟩
      · rw [hy.len]
        exact Nat.lt_of_le_of_lt (fm_len sel i) hz
      · rw [rs_upd List.mem_cons_self]
        exact (hy.same (rs_same s4)).app (.cons hO .nil)
theorem acc_end {S : List Addr} {H1 : Hp} {D : Addr} {ds : List PyData} {H : Hp} (hS : Has S H1) (nD : H1 D = none) (h : accP S H1 D ds H) : Dt (rs S H) (.ref D) (.list ds) := by
  obtain ⟨s, ys, hD, hy⟩ := h
  exact .lst (by rw [rs_out (hS.out nD)]; exact hD) (hy.same over)
theorem lc_dR {lo : Int} {n : Nat} {j : Nat} {tt : TT} {te : TE} {vs : List Nat} {σ : L2.St} {H1 : Hp} {D : Addr} {Qd : Hp → Prop} {S : List Addr} (hS : Has S H1) (sel : List (Option PyData)) (nD : H1 D = none) (hlen : sel.length = n) (hz : n < sizeLine)
    (hw : ∀ x, wipe ((wipe σ vs).set j (some x)) vs = wipe σ vs)
    (hs : ∀ (i : Nat) (o : Option PyData) (H' : Hp), i < n → sel[i]? = some o → Same H1 H' → Has (D :: S) H' → ∀ Qt : Option V → Hp → Prop, (∀ y H'', Same H' H'' → Out (D :: S) H'' o y → Qt y H'') →
      tt ((wipe σ vs).set j (some (.int (lo + (i : Int))))) H' fun b H3 => if b = true then te ((wipe σ vs).set j (some (.int (lo + (i : Int))))) H3 fun y H4 => Qt (some y) H4 else Qt none H3)
    (hd : ∀ H', Same H1 H' → H' D ≠ none → Dt (rs S H') (.ref D) (.list (sel.filterMap id)) → Qd H') :
    ∃ W : Nat → Nat → Hp → Prop, (∃ m, W 0 m (upd H1 D (.lst []))) ∧ ∀ i m H, W i m H →
      ((Itr lo n).stop i H ∧ Qd H) ∨ ((Itr lo n).go i H ∧ ∃ Nx : Hp → Prop, (∀ H', Nx H' → ∃ m', m' < m ∧ W (i + 1) m' H') ∧ ∀ x H', (Itr lo n).yld i H x H' → gName j x (wipe σ vs) H' fun σ2 H2 => wipe σ2 vs = wipe σ vs ∧ tt σ2 H2 fun b H3 =>
        if b = true then te σ2 H3 fun y H4 => ∃ acc, H4 D = some (.lst acc) ∧ acc.length < sizeLine ∧ Nx (upd H4 D (.lst (acc ++ [y]))) else Nx H3) := by
  refine lc_range (lo := lo) (n := n) (fun i H => accP S H1 D ((sel.take i).filterMap id) H) ⟨same_upd nD, [], upd_same, .nil⟩ ?_ ?_
  · rintro i H hi h
    refine ⟨hw _, ?_⟩
    have ho : sel[i]? = some (sel[i]'(by omega)) := List.getElem?_eq_getElem (by omega)
    obtain ⟨s, ys, hD, hy⟩ := id h
    exact hs i _ H hi ho s ((hS.same s).cons hD) (fun o H4 => match o with
      | some y => ∃ acc, H4 D = some (.lst acc) ∧ acc.length < sizeLine ∧ accP S H1 D ((sel.take (i + 1)).filterMap id) (upd H4 D (.lst (acc ++ [y])))
      | none => accP S H1 D ((sel.take (i + 1)).filterMap id) H4) fun y H4 s4 hO => acc_step nD ho (by omega) h s4 y hO
  · rintro H h
    rw [← hlen, List.take_length] at h
    refine hd H h.1 ?_ (acc_end hS nD h)
    obtain ⟨_, ys, hD, _⟩ := h
    rw [hD]
    exact fun z => nomatch z
theorem lc_dL {K : PySem.W.Frag} {a : Addr} {xs : List V} {j : Nat} {tt : TT} {te : TE} {vs : List Nat} {σ : L2.St} {H1 : Hp} {D : Addr} {Qd : Hp → Prop} {S : List Addr} (hS : Has S H1) (sel : List (Option PyData)) (nD : H1 D = none) (hA : SqL K H1 a xs) (hlen : sel.length = xs.length) (hz : xs.length < sizeLine)
    (hw : ∀ x, wipe ((wipe σ vs).set j (some x)) vs = wipe σ vs)
    (hs : ∀ (i : Nat) (x : V) (o : Option PyData) (H' : Hp), xs[i]? = some x → sel[i]? = some o → Same H1 H' → Has (D :: S) H' → ∀ Qt : Option V → Hp → Prop, (∀ y H'', Same H' H'' → Out (D :: S) H'' o y → Qt y H'') →
      tt ((wipe σ vs).set j (some x)) H' fun b H3 => if b = true then te ((wipe σ vs).set j (some x)) H3 fun y H4 => Qt (some y) H4 else Qt none H3)
    (hd : ∀ H', Same H1 H' → H' D ≠ none → Dt (rs S H') (.ref D) (.list (sel.filterMap id)) → Qd H') :
    ∃ W : Nat → Nat → Hp → Prop, (∃ m, W 0 m (upd H1 D (.lst []))) ∧ ∀ i m H, W i m H →
      ((Itl K a).stop i H ∧ Qd H) ∨ ((Itl K a).go i H ∧ ∃ Nx : Hp → Prop, (∀ H', Nx H' → ∃ m', m' < m ∧ W (i + 1) m' H') ∧ ∀ x H', (Itl K a).yld i H x H' → gName j x (wipe σ vs) H' fun σ2 H2 => wipe σ2 vs = wipe σ vs ∧ tt σ2 H2 fun b H3 =>
        if b = true then te σ2 H3 fun y H4 => ∃ acc, H4 D = some (.lst acc) ∧ acc.length < sizeLine ∧ Nx (upd H4 D (.lst (acc ++ [y]))) else Nx H3) := by
  refine lc_list (K := K) (a := a) (xs := xs) (fun i H => accP S H1 D ((sel.take i).filterMap id) H) ⟨same_upd nD, [], upd_same, .nil⟩ (fun i H _ p => p.1.seq hA) ?_ ?_
  · rintro i x H hx h
    refine ⟨hw _, ?_⟩
    have hi := (List.getElem?_eq_some_iff.mp hx).1
    have ho : sel[i]? = some (sel[i]'(by omega)) := List.getElem?_eq_getElem (by omega)
    obtain ⟨s, ys, hD, hy⟩ := id h
    exact hs i x _ H hx ho s ((hS.same s).cons hD) (fun o H4 => match o with
      | some y => ∃ acc, H4 D = some (.lst acc) ∧ acc.length < sizeLine ∧ accP S H1 D ((sel.take (i + 1)).filterMap id) (upd H4 D (.lst (acc ++ [y])))
      | none => accP S H1 D ((sel.take (i + 1)).filterMap id) H4) fun y H4 s4 hO => acc_step nD ho (by omega) h s4 y hO
  · rintro H h
    rw [← hlen, List.take_length] at h
    refine hd H h.1 ?_ (acc_end hS nD h)
    obtain ⟨_, ys, hD, _⟩ := h
    rw [hD]
    exact fun z => nomatch z
/-- maps: each item's data -/
theorem sel_map {α : Type} (l : List α) (f : α → PyData) : (l.map fun x => some (f x)).filterMap id = l.map f := by
  induction l with
  | nil => rfl
  | cons x l ih =>
    show f x :: (l.map fun x => some (f x)).filterMap id = _
    rw [ih]
    rfl
/-- over any walk -/
theorem lc_dW {J : It} {n : Nat} {G : Hp → Prop} {Y : Nat → Hp → V → Hp → Prop} (w : Walk J n G Y) {g : TG} {tt : TT} {te : TE} {vs : List Nat} {σ : L2.St} {H1 : Hp} {D : Addr} {Qd : Hp → Prop} {S : List Addr} (hS : Has S H1) (sel : List (Option PyData)) (nD : H1 D = none) (hlen : sel.length = n) (hz : n < sizeLine)
    (hG : ∀ H', Same H1 H' → G H')
    (hs : ∀ (i : Nat) (o : Option PyData) (H0 : Hp) (x : V) (H' : Hp), i < n → sel[i]? = some o → Same H1 H0 → Has (D :: S) H0 → Y i H0 x H' → ∀ Qt : Option V → Hp → Prop, (∀ y H'', Same H0 H'' → Out (D :: S) H'' o y → Qt y H'') →
      g x (wipe σ vs) H' fun σ2 H2 => wipe σ2 vs = wipe σ vs ∧ tt σ2 H2 fun b H3 => if b = true then te σ2 H3 fun y H4 => Qt (some y) H4 else Qt none H3)
    (hd : ∀ H', Same H1 H' → H' D ≠ none → Dt (rs S H') (.ref D) (.list (sel.filterMap id)) → Qd H') :
    ∃ W : Nat → Nat → Hp → Prop, (∃ m, W 0 m (upd H1 D (.lst []))) ∧ ∀ i m H, W i m H →
      (J.stop i H ∧ Qd H) ∨ (J.go i H ∧ ∃ Nx : Hp → Prop, (∀ H', Nx H' → ∃ m', m' < m ∧ W (i + 1) m' H') ∧ ∀ x H', J.yld i H x H' → g x (wipe σ vs) H' fun σ2 H2 => wipe σ2 vs = wipe σ vs ∧ tt σ2 H2 fun b H3 =>
        if b = true then te σ2 H3 fun y H4 => ∃ acc, H4 D = some (.lst acc) ∧ acc.length < sizeLine ∧ Nx (upd H4 D (.lst (acc ++ [y]))) else Nx H3) := by
  refine lc_it w (fun i H => accP S H1 D ((sel.take i).filterMap id) H) ⟨same_upd nD, [], upd_same, .nil⟩ (fun i H _ p => hG H p.1) ?_ ?_
  · rintro i x H H' hi h y
    have ho : sel[i]? = some (sel[i]'(by omega)) := List.getElem?_eq_getElem (by omega)
    obtain ⟨s, ys, hD, hy⟩ := id h
    exact hs i _ H x H' hi ho s ((hS.same s).cons hD) y (fun o H4 => match o with
      | some y => ∃ acc, H4 D = some (.lst acc) ∧ acc.length < sizeLine ∧ accP S H1 D ((sel.take (i + 1)).filterMap id) (upd H4 D (.lst (acc ++ [y])))
      | none => accP S H1 D ((sel.take (i + 1)).filterMap id) H4) fun y H4 s4 hO => acc_step nD ho (by omega) h s4 y hO
  · rintro H h
    rw [← hlen, List.take_length] at h
    refine hd H h.1 ?_ (acc_end hS nD h)
    obtain ⟨_, ys, hD, _⟩ := h
    rw [hD]
    exact fun z => nomatch z
theorem dt_pairs {K : PySem.W.Frag} {H : Hp} {a : Addr} {ps : List (Int × Int)} (h : Dt H (.ref a) (.list (ps.map pairD))) : PairsAt K H a ps := by
  cases h with
  | lst ha hx =>
    rename_i xs
    have key : ∀ (ps : List (Int × Int)) (xs : List V), DtA H xs (ps.map pairD) → ∃ as : List Addr, xs = as.map V.ref ∧ as.length = ps.length ∧ ∀ (i : Nat) (t : Addr) (p : Int × Int), as[i]? = some t → ps[i]? = some p → SqT K H t [.int p.1, .int p.2] := fun ps => by
      induction ps with
      | nil => intro xs h; cases h; exact ⟨[], rfl, rfl, fun i t p ht => by simp at ht⟩
      | cons p ps ih =>
        intro xs h
        cases h with
        | cons b c =>
          obtain ⟨as, rfl, hl, k⟩ := ih _ c
          obtain ⟨t, ys, rfl, ht, hy⟩ := (show Dt H _ (.tuple [.int p.1, .int p.2]) from b).tupE
          rw [DtA.intsE (ns := [p.1, p.2]) hy] at ht
          refine ⟨t :: as, rfl, by rw [List.length_cons, List.length_cons, hl], fun i u q hu hq => ?_⟩
          cases i with
          | zero =>
            rw [List.getElem?_cons_zero] at hu hq
            cases hu
            cases hq
            exact .inl (.inl ht)
          | succ i =>
            rw [List.getElem?_cons_succ] at hu hq
            exact k i u q hu hq
    obtain ⟨as, rfl, hl, k⟩ := key ps xs hx
    exact ⟨as, .inl (.inl ha), hl, k⟩
end My

namespace My
/-! ### the mathematics: prices by widths -/
def price (ns : List Int) (w : Nat) : Int := (ns.map fun n => n / 2 ^ w + 1 + (w : Int)).sum
def cc (ns : List Int) (w : Nat) : Int := (ns.map fun n => (n + 2 ^ w) / 2 ^ (w + 1)).sum
def Folds (ns : List Int) : Prop := ∀ n ∈ ns, 0 ≤ n ∧ n < 2 ^ 40
theorem half_step (n : Int) (w : Nat) : n / 2 ^ w - n / 2 ^ (w + 1) = (n + 2 ^ w) / 2 ^ (w + 1) := by
  have hp := pow_pos' w
  have e1 : n / 2 ^ (w + 1) = n / 2 ^ w / 2 := by
    rw [Int.pow_succ, Int.ediv_ediv_of_nonneg (Int.le_of_lt hp)]
  have e2 : (n + 2 ^ w) / 2 ^ (w + 1) = (n / 2 ^ w + 1) / 2 := by
    rw [Int.pow_succ, ← Int.ediv_ediv_of_nonneg (Int.le_of_lt hp), Int.add_ediv_of_dvd_right (Int.dvd_refl _), Int.ediv_self (Int.ne_of_gt hp)]
  rw [e1, e2]
  omega
theorem price_step : ∀ (ns : List Int) (w : Nat), price ns (w + 1) = price ns w + ns.length - cc ns w
  | [], _ => rfl
  | n :: r, w => by
    have ih := price_step r w
    have h := half_step n w
    unfold price cc at ih ⊢
    simp only [List.map_cons, List.sum_cons, List.length_cons]
    rw [ih]
    push_cast
    omega
theorem cc_anti : ∀ (ns : List Int), (∀ n ∈ ns, 0 ≤ n) → ∀ w, cc ns (w + 1) ≤ cc ns w
  | [], _, _ => Int.le_refl _
  | n :: r, h, w => by
    have ih := cc_anti r (fun x hx => h x (List.mem_cons_of_mem _ hx)) w
    have hn := h n List.mem_cons_self
    have hp := pow_pos' w
    have e1 : (n + 2 ^ w) / 2 ^ (w + 1) = (n / 2 ^ w + 1) / 2 := by
      rw [Int.pow_succ, ← Int.ediv_ediv_of_nonneg (Int.le_of_lt hp), Int.add_ediv_of_dvd_right (Int.dvd_refl _), Int.ediv_self (Int.ne_of_gt hp)]
    have hp2 := pow_pos' (w + 1)
    have e2 : (n + 2 ^ (w + 1)) / 2 ^ (w + 1 + 1) = (n / 2 ^ (w + 1) + 1) / 2 := by
      rw [Int.pow_succ 2 (w + 1), ← Int.ediv_ediv_of_nonneg (Int.le_of_lt hp2), Int.add_ediv_of_dvd_right (Int.dvd_refl _), Int.ediv_self (Int.ne_of_gt hp2)]
    have e3 : n / 2 ^ (w + 1) = n / 2 ^ w / 2 := by
      rw [Int.pow_succ, Int.ediv_ediv_of_nonneg (Int.le_of_lt hp)]
    have hq : 0 ≤ n / 2 ^ w := Int.ediv_nonneg hn (Int.le_of_lt hp)
    unfold cc at ih ⊢
    simp only [List.map_cons, List.sum_cons]
    rw [e1, e2, e3]
    omega
theorem cc_le (ns : List Int) (h : ∀ n ∈ ns, 0 ≤ n) (v : Nat) : ∀ d, cc ns (v + d) ≤ cc ns v
  | 0 => Int.le_refl _
  | d + 1 => Int.le_trans (cc_anti ns h (v + d)) (cc_le ns h v d)
theorem cc_40 : ∀ (ns : List Int), Folds ns → cc ns 40 = 0
  | [], _ => rfl
  | n :: r, h => by
    have ih := cc_40 r fun x hx => h x (List.mem_cons_of_mem _ hx)
    have hn := h n List.mem_cons_self
    have e : (n + 2 ^ 40) / 2 ^ (40 + 1) = 0 := Int.ediv_eq_zero_of_lt (by omega) (by omega)
    unfold cc at ih ⊢
    simp only [List.map_cons, List.sum_cons]
    rw [ih, e]
    rfl
theorem Folds.nn {ns : List Int} (h : Folds ns) : ∀ n ∈ ns, 0 ≤ n := fun n hn => (h n hn).1
/-- m is the least price, f the first and l the last width that has it -/
structure IsLeast (ns : List Int) (m : Int) (f l : Nat) : Prop where
  fl : f ≤ l
  l40 : l ≤ 40
  at_ : ∀ w, f ≤ w → w ≤ l → price ns w = m
  lo : ∀ w, w < f → m < price ns w
  hi : ∀ w, l < w → m < price ns w
theorem IsLeast.le {ns : List Int} {m : Int} {f l : Nat} (h : IsLeast ns m f l) (w : Nat) : m ≤ price ns w := by
  by_cases h1 : w < f
  · exact Int.le_of_lt (h.lo w h1)
  · by_cases h2 : l < w
    · exact Int.le_of_lt (h.hi w h2)
    · exact Int.le_of_eq (h.at_ w (by omega) (by omega)).symm
theorem IsLeast.uniq {ns : List Int} {m m' : Int} {f l f' l' : Nat} (a : IsLeast ns m f l) (b : IsLeast ns m' f' l') : m = m' ∧ f = f' ∧ l = l' := by
  have e : m = m' := Int.le_antisymm (by rw [← b.at_ f' (Nat.le_refl _) b.fl]; exact a.le f') (by rw [← a.at_ f (Nat.le_refl _) a.fl]; exact b.le f)
  subst e
  have z : ∀ {f l f' l' : Nat}, IsLeast ns m f l → IsLeast ns m f' l' → f ≤ f' ∧ l' ≤ l := fun {f l f' l'} a b => by
    constructor
    · by_cases h : f ≤ f'
      · exact h
      · have h1 := a.lo f' (by omega)
        rw [b.at_ f' (Nat.le_refl _) b.fl] at h1
        omega
    · by_cases h : l' ≤ l
      · exact h
      · have h1 := a.hi l' (by omega)
        rw [b.at_ l' b.fl (Nat.le_refl _)] at h1
        omega
  have h1 := z a b
  have h2 := z b a
  omega
theorem fall (ns : List Int) (f : Nat) (h : ∀ w, w < f → (ns.length : Int) < cc ns w) : ∀ d, d ≤ f → 0 < d → price ns f < price ns (f - d)
  | 0, _, h0 => absurd h0 (by omega)
  | d + 1, hd, _ => by
    have e := price_step ns (f - (d + 1))
    have hw := h (f - (d + 1)) (by omega)
    have e2 : f - (d + 1) + 1 = f - d := by omega
    rw [e2] at e
    by_cases h0 : d = 0
    · subst h0
      rw [Nat.sub_zero] at e
      omega
    · have ih := fall ns f h d (by omega) (by omega)
      omega
theorem rise (ns : List Int) (nn : ∀ n ∈ ns, 0 ≤ n) (v : Nat) (h : cc ns v < ns.length) : ∀ d, price ns v < price ns (v + d + 1)
  | 0 => by
    have e := price_step ns v
    show price ns v < price ns (v + 1)
    omega
  | d + 1 => by
    have ih := rise ns nn v h d
    have e := price_step ns (v + d + 1)
    have c := cc_le ns nn v (d + 1)
    have c' : cc ns (v + d + 1) ≤ cc ns v := c
    show price ns v < price ns (v + d + 1 + 1)
    omega
/-- what the program's two loops find is the least price -/
theorem told_least (ns : List Int) (hF : Folds ns) (ne : ns ≠ []) (f l : Nat) (hf : cc ns f ≤ ns.length) (hlo : ∀ w, w < f → (ns.length : Int) < cc ns w) (hfl : f ≤ l) (hat : ∀ w, f ≤ w → w ≤ l → price ns w = price ns f)
    (hne : price ns (l + 1) ≠ price ns f) : IsLeast ns (price ns f) f l := by
  have hlen : 0 < ns.length := by cases ns with | nil => exact absurd rfl ne | cons _ _ => simp
  have c40 := cc_40 ns hF
  have hf40 : f ≤ 40 := by
    by_cases h : f ≤ 40
    · exact h
    · have := hlo 40 (by omega)
      omega
  have el := hat l hfl (Nat.le_refl _)
  have hcl : cc ns l < ns.length := by
    have e := price_step ns l
    obtain ⟨d, rfl⟩ : ∃ d, l = f + d := ⟨l - f, by omega⟩
    have c := cc_le ns hF.nn f d
    omega
  refine ⟨hfl, ?_, hat, fun w hw => ?_, fun w hw => ?_⟩
  · by_cases h : l ≤ 40
    · exact h
    · have e : price ns 41 = price ns 40 + ns.length - cc ns 40 := price_step ns 40
      have h1 := hat 40 hf40 (by omega)
      have h2 := hat 41 (by omega) (by omega)
      omega
  · have h := fall ns f hlo (f - w) (by omega) (by omega)
    rw [show f - (f - w) = w by omega] at h
    exact h
  · obtain ⟨d, rfl⟩ : ∃ d, w = l + d + 1 := ⟨w - l - 1, by omega⟩
    have h := rise ns hF.nn l hcl d
    omega
theorem least_ex (P : Nat → Prop) [DecidablePred P] : ∀ n, P n → ∃ k, P k ∧ k ≤ n ∧ ∀ w, w < k → ¬ P w := by
  intro n
  induction n using Nat.strongRecOn with
  | _ n ih =>
    intro hn
    by_cases h : ∃ w, w < n ∧ P w
    · obtain ⟨w, hw, pw⟩ := h
      obtain ⟨k, a, b, c⟩ := ih w hw pw
      exact ⟨k, a, by omega, c⟩
    · exact ⟨n, hn, Nat.le_refl _, fun w hw pw => h ⟨w, hw, pw⟩⟩
theorem least_is (ns : List Int) (hF : Folds ns) (ne : ns ≠ []) : ∃ m f l, IsLeast ns m f l := by
  have hlen : 0 < ns.length := by cases ns with | nil => exact absurd rfl ne | cons _ _ => simp
  have c40 := cc_40 ns hF
  obtain ⟨f, h1, h2, h3⟩ := least_ex (fun w => cc ns w ≤ ns.length) 40 (by show cc ns 40 ≤ ns.length; omega)
  obtain ⟨l, g1, g2, g3⟩ := least_ex (fun w => f ≤ w ∧ price ns (w + 1) ≠ price ns f) 40 ⟨h2, by
    have r := rise ns hF.nn 40 (by omega) 0
    have q : price ns f ≤ price ns 40 := by
      obtain ⟨d, hd⟩ : ∃ d, 40 = f + d := ⟨40 - f, by omega⟩
      have up : ∀ d, price ns f ≤ price ns (f + d) := fun d => by
        induction d with
        | zero => exact Int.le_refl _
        | succ d ih =>
          have e := price_step ns (f + d)
          have c := cc_le ns hF.nn f d
          show price ns f ≤ price ns (f + d + 1)
          omega
      rw [hd]
      exact up d
    have r' : price ns 40 < price ns 41 := r
    show price ns 41 ≠ price ns f
    omega⟩
  refine ⟨_, f, l, told_least ns hF ne f l h1 (fun w hw => by have := h3 w hw; omega) g1.1 (fun w hw hl => ?_) g1.2⟩
  have key : ∀ d, f + d ≤ l → price ns (f + d) = price ns f := fun d => by
    induction d with
    | zero => intro _; rfl
    | succ d ih =>
      intro hd
      have := g3 (f + d) (by omega)
      by_cases hq : price ns (f + d + 1) = price ns f
      · exact hq
      · exact absurd ⟨by omega, hq⟩ this
  have := key (w - f) (by omega)
  rw [show f + (w - f) = w by omega] at this
  exact this
/-- what the law finds over 45 widths -/
theorem law_least (ns : List Int) (m0 : Int) (f0 l0 : Nat) (h : IsLeast ns m0 f0 l0) (m : Int) (hm : m ∈ (List.range 45).map (price ns)) (hle : ∀ y ∈ (List.range 45).map (price ns), m ≤ y) :
    m = m0 ∧ ((List.range 45).filter fun w => decide (price ns w = m)) = (List.range (l0 + 1 - f0)).map (fun d => f0 + d) := by
  have e : m = m0 := by
    obtain ⟨w, hw, ew⟩ := List.mem_map.mp hm
    have a := h.le w
    have b := hle (price ns f0) (List.mem_map.mpr ⟨f0, List.mem_range.mpr (by have := h.fl; have := h.l40; omega), rfl⟩)
    rw [h.at_ f0 (Nat.le_refl _) h.fl] at b
    omega
  refine ⟨e, ?_⟩
  subst e
  have e1 : (List.range 45).filter (fun w => decide (price ns w = m)) = (List.range 45).filter (fun w => decide (f0 ≤ w ∧ w ≤ l0)) := by
    refine List.filter_congr fun w _ => ?_
    have : price ns w = m ↔ f0 ≤ w ∧ w ≤ l0 := by
      constructor
      · intro hp
        constructor
        · by_cases q : f0 ≤ w
          · exact q
          · have := h.lo w (by omega); omega
        · by_cases q : w ≤ l0
          · exact q
          · have := h.hi w (by omega); omega
      · rintro ⟨a, b⟩
        exact h.at_ w a b
    simp only [this]
  rw [e1]
  have hfl := h.fl
  have h40 := h.l40
  have key : ∀ n, (List.range n).filter (fun w => decide (f0 ≤ w ∧ w ≤ l0)) = (List.range (min n (l0 + 1) - f0)).map (fun d => f0 + d) := fun n => by
    induction n with
    | zero => simp
    | succ n ih =>
      rw [List.range_succ, List.filter_append, ih]
      by_cases c : f0 ≤ n ∧ n ≤ l0
      · rw [List.filter_cons_of_pos (by simpa using c)]
        rw [show min (n + 1) (l0 + 1) - f0 = (min n (l0 + 1) - f0) + 1 by omega, List.range_succ, List.map_append]
        simp
        omega
      · rw [List.filter_cons_of_neg (by simpa using c)]
        rw [show min (n + 1) (l0 + 1) - f0 = (min n (l0 + 1) - f0) by omega]
        simp
  rw [key 45, show min 45 (l0 + 1) - f0 = l0 + 1 - f0 by omega]
theorem price_app (a b : List Int) (w : Nat) : price (a ++ b) w = price a w + price b w := by
  unfold price
  rw [List.map_append, List.sum_append]
theorem price_rev (a : List Int) (w : Nat) : price a.reverse w = price a w := by
  unfold price
  rw [List.map_reverse, List.sum_reverse]
theorem IsLeast.rev {a : List Int} {m : Int} {f l : Nat} (h : IsLeast a m f l) : IsLeast a.reverse m f l :=
  ⟨h.fl, h.l40, fun w x y => by rw [price_rev]; exact h.at_ w x y, fun w x => by rw [price_rev]; exact h.lo w x, fun w x => by rw [price_rev]; exact h.hi w x⟩
theorem convex {ns : List Int} (h : Folds ns) (w : Nat) : ¬ price ns (w + 2) - price ns (w + 1) < price ns (w + 1) - price ns w := by
  have a := price_step ns w
  have b := price_step ns (w + 1)
  have c := cc_anti ns h.nn w
  have b' : price ns (w + 2) = price ns (w + 1) + ns.length - cc ns (w + 1) := b
  omega
/-- a sum of prices, as the program says it -/
theorem price_raw : ∀ (ns : List Int) (w : Nat), (ns.length : Int) * ((w : Int) + 1) + (ns.map fun n => n / 2 ^ w).sum = price ns w
  | [], w => by simp [price]
  | n :: r, w => by
    have ih := price_raw r w
    unfold price at ih ⊢
    simp only [List.map_cons, List.sum_cons, List.length_cons]
    rw [← ih]
    push_cast
    rw [Int.add_mul]
    omega
def minI : List Int → Int
  | [] => 0
  | x :: xs => xs.foldl min x
def maxI : List Int → Int
  | [] => 0
  | x :: xs => xs.foldl max x
theorem fold_min : ∀ (xs : List Int) (x : Int), xs.foldl min x ∈ x :: xs ∧ ∀ y ∈ x :: xs, xs.foldl min x ≤ y
  | [], x => ⟨List.mem_cons_self, fun y hy => by rw [List.mem_singleton.mp hy]; exact Int.le_refl _⟩
  | a :: xs, x => by
    obtain ⟨h1, h2⟩ := fold_min xs (min x a)
    show xs.foldl min (min x a) ∈ _ ∧ ∀ y ∈ x :: a :: xs, xs.foldl min (min x a) ≤ y
    have h3 := h2 (min x a) List.mem_cons_self
    refine ⟨?_, fun y hy => ?_⟩
    · rcases List.mem_cons.mp h1 with e | e
      · rw [e]
        rcases Int.le_total x a with h | h
        · rw [Int.min_eq_left h]; exact List.mem_cons_self
        · rw [Int.min_eq_right h]; exact List.mem_cons_of_mem _ List.mem_cons_self
      · exact List.mem_cons_of_mem _ (List.mem_cons_of_mem _ e)
    · rcases List.mem_cons.mp hy with rfl | hy
      · omega
      · rcases List.mem_cons.mp hy with rfl | hy
        · omega
        · exact h2 y (List.mem_cons_of_mem _ hy)
theorem fold_max : ∀ (xs : List Int) (x : Int), xs.foldl max x ∈ x :: xs ∧ ∀ y ∈ x :: xs, y ≤ xs.foldl max x
  | [], x => ⟨List.mem_cons_self, fun y hy => by rw [List.mem_singleton.mp hy]; exact Int.le_refl _⟩
  | a :: xs, x => by
    obtain ⟨h1, h2⟩ := fold_max xs (max x a)
    show xs.foldl max (max x a) ∈ _ ∧ ∀ y ∈ x :: a :: xs, y ≤ xs.foldl max (max x a)
    have h3 := h2 (max x a) List.mem_cons_self
    refine ⟨?_, fun y hy => ?_⟩
    · rcases List.mem_cons.mp h1 with e | e
      · rw [e]
        rcases Int.le_total x a with h | h
        · rw [Int.max_eq_right h]; exact List.mem_cons_of_mem _ List.mem_cons_self
        · rw [Int.max_eq_left h]; exact List.mem_cons_self
      · exact List.mem_cons_of_mem _ (List.mem_cons_of_mem _ e)
    · rcases List.mem_cons.mp hy with rfl | hy
      · omega
      · rcases List.mem_cons.mp hy with rfl | hy
        · omega
        · exact h2 y (List.mem_cons_of_mem _ hy)
theorem min_uniq {l : List Int} {m : Int} (h1 : m ∈ l) (h2 : ∀ y ∈ l, m ≤ y) : m = minI l := by
  cases l with
  | nil => cases h1
  | cons x xs =>
    obtain ⟨h3, h4⟩ := fold_min xs x
    exact Int.le_antisymm (h2 _ h3) (h4 _ h1)
theorem max_uniq {l : List Int} {m : Int} (h1 : m ∈ l) (h2 : ∀ y ∈ l, y ≤ m) : m = maxI l := by
  cases l with
  | nil => cases h1
  | cons x xs =>
    obtain ⟨h3, h4⟩ := fold_max xs x
    exact Int.le_antisymm (h4 _ h1) (h2 _ h3)
theorem price_take (ns : List Int) (w : Nat) {i : Nat} {n : Int} (h : ns[i]? = some n) : price (ns.take (i + 1)) w = price (ns.take i) w + n / 2 ^ w + 1 + (w : Int) := by
  unfold price
  rw [List.take_add_one, h, List.map_append, List.sum_append]
  show _ + ([n / 2 ^ w + 1 + (w : Int)]).sum = _
  rw [List.sum_singleton]
  omega
end My

namespace My
open PySem PySem.Spec PyProof.Rows L2 Pre
section
variable {P : Program} {w : World} {K : PySem.W.Frag} {mg : Str → Option Value} {base : Heap}
def sp_check_number : Sp := fun vs H Q _ => ∃ (i lo : Int) (hi : Option Int), vs = [.int i, .int lo, (match hi with | some j => .int j | none => .non)] ∧ lo ≤ i ∧ (∀ j, hi = some j → i ≤ j) ∧ Q .non H
theorem G_check_number (T : Top K mg) : FnOk P w K mg base CX0 3 T.f_check_number T.fd_check_number ["number", "low", "high"] sp_check_number := by
  refine T.F_check_number.ok sc_check_number (fun vs H Q E h => by obtain ⟨i, lo, hi, rfl, _⟩ := h; rfl) (fun cdv A outer s H vs Q E hr h => ?_)
  obtain ⟨i, lo, hi, rfl, h0, h1, q⟩ := h
  refine ⟨_, PSs.nox (pss_one (ps_if (pt_not (pt_val (pe_call (G_is_between T) (hr.mono (by decide)) (by rfl) T.g_is_between T.F_is_between.kp T.b_is_between .nil pass0 (pa_cons (pv 0) (pa_cons (pv 1) (pa_cons (pv 2) pa_nil))))))
    (pss_one ps_never)
    pss_nil)), ?_⟩
  refine ⟨_, rfl, _, rfl, _, rfl, i, lo, hi, rfl, _, rfl, ?_⟩
  rw [decide_eq_true ⟨h0, h1⟩]
  exact iteF q
def sp_check_folds (K : PySem.W.Frag) : Sp := fun vs H Q _ => ∃ (a : Addr) (ns : List Int), vs = [.ref a] ∧ SqL K H a (ns.map V.int) ∧ (∃ u, Rd H a u ∧ ∃ xs, u = .lst xs) ∧ (∀ n ∈ ns, 0 ≤ n) ∧ ns.length < sizeLine ∧ ∀ H', Same H H' → Q .non H'
theorem rd_ty {H : Hp} {a : Addr} {u : HO} {xs : List V} (h : Rd H a u) (e : u = .lst xs) : TyX K H (.ref a) (.type "list") := by
  subst e
  rcases h with h | ⟨o, h⟩
  · exact .base (.lst h)
  · exact .base (.frz h)
theorem G_check_folds (T : Top K mg) : FnOk P w K mg base CX0 3 T.f_check_folds T.fd_check_folds ["folds"] (sp_check_folds K) := by
  refine T.F_check_folds.ok sc_check_folds (fun vs H Q E h => by obtain ⟨a, ns, rfl, _⟩ := h; rfl) (fun cdv A outer s H vs Q E hr h => ?_)
  obtain ⟨a, ns, rfl, hS, ⟨u, hu, xs, eu⟩, nn, hz, q⟩ := h
  refine ⟨_, PSs.nox (pss_one (ps_if (PW.pt (pw_or (pt_not (pt_val (pe_callB (k_isi K rfl) (by rfl) T.n_isinstance (by decide +kernel) (pa_cons (pv 0) (pa_cons (pe_bltn (v := .ty "list") (by rfl) T.n_list (by decide +kernel) rfl) pa_nil))))) (pw_or1 (pt_cmpR (k_neD K rfl hr.units) (pe_lc (own := [("unit", 1)]) (g := gName 1) (by rfl) sc_check_folds.nd (k_piL K rfl (pv 0)) (blkOk_by (own := [("unit", 1)]) (N := N_check_folds) (sc := defScope s_check_folds) (by decide +kernel)) (fun _ _ _ _ _ => (pg_name (i := 1) sc_check_folds.nd rfl (by first | exact Or.inl rfl | exact Or.inr rfl))) (fun _ _ _ _ _ => (pts_one (pt_not (pt_val (pe_call (G_is_between T) (hr.mono (by decide)) (by rfl) T.g_is_between T.F_is_between.kp T.b_is_between .nil pass0 (pa_cons (pv 1) (pa_cons pe_int (pa_cons pe_non pa_nil)))))))) (fun _ _ _ _ _ => (pv 1))) (pe_lst pa_nil) (nomark _)))))
    (pss_one ps_never)
    pss_nil)), ?_⟩
  refine ⟨_, rfl, _, _, _, _, true, rfl, .ty _, rd_ty hu eu, kit_ty (by decide +kernel), true, rfl, iteF ?_⟩
  refine ⟨_, rfl, a, rfl, ⟨_, hS⟩, fun D nD => ?_⟩
  refine lc_selL (K := K) (xs := ns.map V.int) (ns.map fun _ => none) nD hS (by rw [List.length_map, List.length_map]) (by rw [List.length_map]; exact hz) (fun x => rfl) ?_ ?_
  · intro i x o H' hx ho s Qt qt
    obtain ⟨n, hn, rfl⟩ : ∃ n, ns[i]? = some n ∧ V.int n = x := by
      rw [List.getElem?_map] at hx
      exact Option.map_eq_some_iff.mp hx
    obtain ⟨_, _, rfl⟩ : ∃ n, ns[i]? = some n ∧ none = o := by
      rw [List.getElem?_map] at ho
      exact Option.map_eq_some_iff.mp ho
    have h0 := nn n (List.mem_of_getElem? hn)
    refine ⟨_, rfl, n, 0, none, rfl, _, rfl, ?_⟩
    rw [decide_eq_true ⟨h0, fun j h => nomatch h⟩]
    exact iteF (qt _ (Same.refl _))
  · intro H' s hD
    have e0 : (ns.map fun _ => (none : Option V)).filterMap id = [] := by
      induction ns with
      | nil => rfl
      | cons n r ih => simp
    rw [e0] at hD
    refine ⟨Nat.zero_le _, fun p np => ?_⟩
    have hD' : (upd H' p (.lst [])) D = some (.lst []) := same_upd np _ _ hD
    refine ⟨.list [], .list [], .lst (.inl (.inl hD')) .nil, .lst (.inl (.inl upd_same)) .nil, by decide +kernel, by decide +kernel, _, rfl, iteF ?_⟩
    exact q _ (s.trans (same_upd np))
/-! ### raw_price, price -/
def sp_raw_price (K : PySem.W.Frag) : Sp := fun vs H Q _ => ∃ (a : Addr) (ns : List Int) (i : Nat), vs = [.ref a, .int i] ∧ SqL K H a (ns.map V.int) ∧ ns.length ≤ 1000 ∧ ∀ H', Same H H' → Q (.int (price ns i)) H'
theorem G_raw_price (T : Top K mg) : FnOk P w K mg base CX0 1 T.f_raw_price T.fd_raw_price ["folds", "width"] (sp_raw_price K) := by
  refine T.F_raw_price.ok sc_raw_price (fun vs H Q E h => by obtain ⟨a, ns, i, rfl, _⟩ := h; rfl) (fun cdv A outer s H vs Q E hr h => ?_)
  obtain ⟨a, ns, i, rfl, hS, hl, q⟩ := h
  refine ⟨_, PSs.nox (pss_one (ps_ret (pe_op op_add (pe_op op_mul (pe_callB (k_len K rfl) (by rfl) T.n_len (by decide +kernel) (pa_cons (pv 0) pa_nil)) (pe_op op_add (pv 1) pe_int)) (pe_callB (k_sum K rfl rfl) (by rfl) T.n_sum (by decide +kernel) (pa_cons (pe_lc (own := [("unit", 2)]) (g := gName 2) (tt := tYes) (by rfl) sc_raw_price.nd (k_piL K rfl (pv 0)) (blkOk_by (own := [("unit", 2)]) (N := N_raw_price) (sc := defScope s_raw_price) (by decide +kernel)) (fun _ _ _ _ _ => (pg_name (i := 2) sc_raw_price.nd rfl (by first | exact Or.inl rfl | exact Or.inr rfl))) (fun _ _ _ _ _ => pts_nil) (fun _ _ _ _ _ => (pe_op op_shr (pv 2) (pv 1)))) pa_nil))))), ?_⟩
  have hlen : (ns.map V.int).length = ns.length := List.length_map ..
  refine ⟨_, rfl, a, _, rfl, .inl hS, _, rfl, _, _, rfl, rfl, _, _, rfl, rfl, .inl ⟨by rw [hlen]; omega, by rw [hlen]; omega⟩, ?_⟩
  refine ⟨_, rfl, a, rfl, ⟨_, hS⟩, fun D nD => ?_⟩
  refine lc_mapL (K := K) (xs := ns.map V.int) ((ns.map fun n => n / 2 ^ i).map V.int) nD hS (by simp) (by rw [hlen]; exact small1000 hl) (fun x => rfl) ?_ ?_
  · intro k x y H' hx hy s Qt qt
    obtain ⟨n, hn, rfl⟩ := int_at hx
    rw [List.getElem?_map, List.getElem?_map, hn] at hy
    cases hy
    exact ⟨_, rfl, _, rfl, _, _, rfl, rfl, Int.natCast_nonneg _, qt _ (Same.refl _)⟩
  · intro H' s hD
    refine ⟨D, _, rfl, .inl (.inl hD), _, _, rfl, rfl, ?_⟩
    show Q (.int ((((ns.map V.int).length : Nat) : Int) * ((i : Int) + 1) + (ns.map fun n => n / 2 ^ i).sum)) H'
    rw [hlen, price_raw]
    exact q _ s
/-- folds that the program may be asked -/
def FoldsAt (K : PySem.W.Frag) (H : Hp) (a : Addr) (ns : List Int) : Prop := Rd H a (.lst (ns.map V.int)) ∧ Folds ns ∧ ns.length ≤ 1000
theorem FoldsAt.sq {K : PySem.W.Frag} {H : Hp} {a : Addr} {ns : List Int} (h : FoldsAt K H a ns) : SqL K H a (ns.map V.int) := .inl h.1
theorem FoldsAt.same {K : PySem.W.Frag} {H H' : Hp} {a : Addr} {ns : List Int} (h : FoldsAt K H a ns) (s : Same H H') : FoldsAt K H' a ns := by
  obtain ⟨r, z⟩ := h
  refine ⟨?_, z⟩
  rcases r with r | ⟨o, r⟩
  · exact .inl (s _ _ r)
  · exact .inr ⟨o, s _ _ r⟩
end
end My

namespace My
open PySem PySem.Spec PyProof.Rows L2 Pre
theorem at_ints {l : List Int} {k : Nat} (h : k < l.length) : atI (l.map V.int) (k : Int) = some (.int (l.getD k 0)) := by
  refine at_of (j := k) (by omega) ?_
  rw [List.getElem?_map, List.getElem?_eq_getElem h, List.getD_eq_getElem?_getD, List.getElem?_eq_getElem h]
  rfl
section
variable {P : Program} {w : World} {K : PySem.W.Frag} {mg : Str → Option Value} {base : Heap}
def sp_law_price (K : PySem.W.Frag) : Sp := fun vs H Q _ => ∃ (a : Addr) (ns : List Int) (v : Nat), vs = [.ref a, .int v] ∧ SqL K H a (ns.map V.int) ∧ v ≤ 200 ∧ Q (.int (price ns v)) H
theorem G_law_price (T : Top K mg) : FnOk P w K mg base CX0 1 T.f_law_price T.fd_law_price ["_law_folds_here", "_law_width"] (sp_law_price K) := by
  refine T.F_law_price.ok sc_law_price (fun vs H Q E h => by obtain ⟨a, ns, v, rfl, _⟩ := h; rfl) (fun cdv A outer s H vs Q E hr h => ?_)
  obtain ⟨a, ns, v, rfl, hA, hv, q⟩ := h
  refine ⟨_, PSs.nox (pss_cons (ps_set (i := 2) sc_law_price.nd rfl (by first | exact Or.inl rfl | exact Or.inr rfl) pe_int)
  (pss_cons (ps_for PassesOwn.never rfl (k_piL K rfl (pv 0)) (pg_name (i := 3) sc_law_price.nd rfl (by first | exact Or.inl rfl | exact Or.inr rfl))
    (pss_one (ps_set (i := 2) sc_law_price.nd rfl (by first | exact Or.inl rfl | exact Or.inr rfl) (pe_op op_add (pe_op op_add (pe_op op_add (pv 2) (pe_op op_fdivW (pv 3) (pe_op op_shl pe_int (pv 1)))) pe_int) (pv 1)))))
  (pss_one (ps_ret (pv 2))))), ?_⟩
  refine ⟨_, rfl, a, rfl, ⟨_, hA⟩, for_list (K := K) (a := a) (xs := ns.map V.int) (fun i σ H1 => ∃ v3, σ = [some (.ref a), some (.int v), some (.int (price (ns.take i) v)), v3] ∧ H1 = H) ⟨none, rfl, rfl⟩ (fun i σ H1 _ ⟨_, _, e⟩ => by rw [e]; exact hA) ?_ ?_⟩
  · rintro i x σ H1 hx ⟨v3, rfl, rfl⟩
    obtain ⟨n, hn, rfl⟩ := int_at hx
    have hp := pow_pos' v
    have hp2 : (2 : Int) ^ v ≤ 2 ^ 200 := pow2_le hv
    refine ⟨_, rfl, _, rfl, _, rfl, _, _, rfl, rfl, ⟨by omega, by omega, by decide⟩, _, _, rfl, rfl, ?_, ?_⟩
    · show CDivW n (1 * 2 ^ ((v : Int)).toNat)
      rw [Int.one_mul, Int.toNat_natCast]
      exact wide_div (b := 201) hp (by omega) (by decide) (by decide)
    dsimp only
    rw [Int.one_mul, Int.toNat_natCast]
    refine ⟨_, _, rfl, rfl, _, _, rfl, rfl, _, rfl, _, _, rfl, rfl, some (.int n), ?_, rfl⟩
    rw [price_take ns v hn]
    rfl
  · rintro σ H1 ⟨v3, rfl, rfl⟩
    rw [List.length_map, List.take_length]
    exact ⟨_, rfl, q⟩
end
end My

namespace My
open PySem PySem.Spec PyProof.Rows L2 Pre
/-! ### all rows of so many numbers below t -/
def rowsD (rows : List (List Int)) : PyData := .list (rows.map rowD)
def moreK (t : Nat) (r : List Int) : List (List Int) := (List.range t).map fun (o : Nat) => r ++ [(o : Int)]
def belowK : Nat → Nat → List (List Int)
  | 0, _ => [[]]
  | m + 1, t => (belowK m t).flatMap (moreK t)
theorem below_mem : ∀ (m t : Nat) (r : List Int), r ∈ belowK m t ↔ r.length = m ∧ ∀ x ∈ r, 0 ≤ x ∧ x < (t : Int)
  | 0, t, r => by
    show r ∈ [[]] ↔ _
    rw [List.mem_singleton]
    constructor
    · rintro rfl; exact ⟨rfl, fun x h => nomatch h⟩
    · rintro ⟨h, _⟩; exact List.length_eq_zero_iff.mp h
  | m + 1, t, r => by
    show r ∈ (belowK m t).flatMap (moreK t) ↔ _
    rw [List.mem_flatMap]
    constructor
    · rintro ⟨q, hq, hr⟩
      obtain ⟨o, ho, rfl⟩ := List.mem_map.mp hr
      obtain ⟨h1, h2⟩ := (below_mem m t q).mp hq
      refine ⟨by rw [List.length_append, h1]; rfl, fun x hx => ?_⟩
      rcases List.mem_append.mp hx with hx | hx
      · exact h2 x hx
      · rw [List.mem_singleton.mp hx]
        have := List.mem_range.mp ho
        omega
    · rintro ⟨h1, h2⟩
      have hne : r ≠ [] := fun z => by rw [z] at h1; cases h1
      refine ⟨r.dropLast, (below_mem m t _).mpr ⟨by rw [List.length_dropLast, h1]; rfl, fun x hx => h2 x (List.dropLast_subset r hx)⟩, List.mem_map.mpr ⟨(r.getLast hne).toNat, ?_, ?_⟩⟩
      · have := h2 _ (List.getLast_mem hne)
        exact List.mem_range.mpr (by omega)
      · have := h2 _ (List.getLast_mem hne)
        rw [Int.toNat_of_nonneg this.1]
        exact List.dropLast_concat_getLast hne
theorem flatm_len {α β : Type} (f : α → List β) (c : Nat) : ∀ l : List α, (∀ x ∈ l, (f x).length = c) → (l.flatMap f).length = l.length * c
  | [], _ => by simp
  | x :: l, h => by
    rw [List.flatMap_cons, List.length_append, h x List.mem_cons_self, flatm_len f c l fun y hy => h y (List.mem_cons_of_mem _ hy), List.length_cons, Nat.succ_mul]
    omega
theorem below_len : ∀ m t : Nat, (belowK m t).length = t ^ m
  | 0, _ => rfl
  | m + 1, t => by
    show ((belowK m t).flatMap (moreK t)).length = _
    rw [flatm_len (moreK t) t _ (fun r _ => by unfold moreK; rw [List.length_map, List.length_range]), below_len m t, Nat.pow_succ]
theorem flat_nextR {α β : Type} (f : α → List β) (l : List α) (i : Nat) (x : α) (h : l[i]? = some x) : (l.take (i + 1)).flatMap f = (l.take i).flatMap f ++ f x := by
  rw [List.take_add_one, h, List.flatMap_append]
  simp
theorem flat_take_len {α β : Type} (f : α → List β) (l : List α) (i : Nat) : ((l.take i).flatMap f).length ≤ (l.flatMap f).length := by
  have h : l.flatMap f = (l.take i).flatMap f ++ (l.drop i).flatMap f := by rw [← List.flatMap_append, List.take_append_drop]
  rw [h, List.length_append]
  omega
local macro_rules | `(tactic| walk_at "go") => `(tactic| repeat (first | (with_reducible first | refine iteT ?_ | refine iteF ?_ | refine iteNtt ?_ | refine iteNff ?_ | refine iteET (by omega) ?_ | refine iteEF (by omega) ?_ | refine iteENT (by omega) ?_ | refine iteENF (by omega) ?_ | refine iteDT (by omega) ?_ | refine iteDF (by omega) ?_ | refine iteNT (by omega) ?_ | refine iteNF (by omega) ?_) | refine ⟨_, rfl, ?_⟩ | refine ⟨_, _, rfl, rfl, ?_⟩ | refine ⟨_, _, rfl, ?_⟩ | refine ⟨rfl, ?_⟩ | refine .inl ⟨_, rfl, ?_⟩ | refine .inr ⟨_, rfl, ?_⟩))
local macro_rules | `(tactic| walk_at "b") => `(tactic| try dsimp (config := { proj := false, iota := false, eta := false, zeta := false }) only)
section
variable {P : Program} {w : World} {K : PySem.W.Frag} {mg : Str → Option Value} {base : Heap}
def sp_law_below : Sp := fun vs H Q _ => ∃ (S : List Addr) (m t : Nat), vs = [.int m, .int t] ∧ Has S H ∧ m ≤ 100 ∧ t ≤ 1000 ∧ (∀ i, i ≤ m → t ^ i ≤ 5000) ∧ ∀ H' p, Same H H' → H p = none → Dt (rs S H') (.ref p) (rowsD (belowK m t)) → Q (.ref p) H'
theorem G_law_below (T : Top K mg) : FnOk P w K mg base CX0 1 T.f_law_below T.fd_law_below ["_law_many", "_law_top"] sp_law_below := by
  refine T.F_law_below.ok sc_law_below (fun vs H Q E h => by obtain ⟨S, m, t, rfl, _⟩ := h; rfl) (fun cdv A outer s H vs Q E hr h => ?_)
  obtain ⟨S, m, t, rfl, hS, hm, ht, hb, q⟩ := h
  refine ⟨_, PSs.nox (pss_cons (ps_set (i := 2) sc_law_below.nd rfl (by first | exact Or.inl rfl | exact Or.inr rfl) (pe_lst (pa_cons (pe_lst pa_nil) pa_nil)))
  (pss_cons (ps_for PassesOwn.never rfl (pi_range1 (by rfl) T.n_range (pa_cons (pv 0) pa_nil)) (pg_name (i := 3) sc_law_below.nd rfl (by first | exact Or.inl rfl | exact Or.inr rfl))
    (pss_cons (ps_set (i := 4) sc_law_below.nd rfl (by first | exact Or.inl rfl | exact Or.inr rfl) (pe_lst pa_nil))
  (pss_cons (ps_for PassesOwn.never rfl (k_piL K rfl (pv 2)) (pg_name (i := 5) sc_law_below.nd rfl (by first | exact Or.inl rfl | exact Or.inr rfl))
    (pss_one (ps_set (i := 4) sc_law_below.nd rfl (by first | exact Or.inl rfl | exact Or.inr rfl) (pe_op op_cat (pv 4) (pe_lc (own := [("_law_one", 6)]) (g := gName 6) (tt := tYes) (by rfl) sc_law_below.nd (pi_range1 (by rfl) T.n_range (pa_cons (pv 1) pa_nil)) (blkOk_by (own := [("_law_one", 6)]) (N := N_law_below) (sc := defScope s_law_below) (by decide +kernel)) (fun _ _ _ _ _ => (pg_name (i := 6) sc_law_below.nd rfl (by first | exact Or.inl rfl | exact Or.inr rfl))) (fun _ _ _ _ _ => pts_nil) (fun _ _ _ _ _ => (pe_op op_cat (pv 5) (pe_lst (pa_cons (pv 6) pa_nil)))))))))
  (pss_one (ps_set (i := 2) sc_law_below.nd rfl (by first | exact Or.inl rfl | exact Or.inr rfl) (pv 4))))))
  (pss_one (ps_ret (pv 2))))), ?_⟩
  refine ⟨Nat.zero_le _, fun c nc => ?_⟩
  have d0 := dt_new hS nc (xs := []) (ds := []) .nil
  have s0 := same_upd (o := .lst []) nc
  generalize upd H c (.lst []) = H1 at d0 s0
  refine ⟨(show 1 ≤ sizeLine by decide), fun f nf => ?_⟩
  have hS1 := hS.same s0
  have d1 := dt_new hS1 nf (xs := [.ref c]) (ds := [rowD []]) (.cons d0 .nil)
  have s1 := same_upd (o := .lst [.ref c]) nf
  generalize upd H1 f (.lst [.ref c]) = H2 at d1 s1
  walk_at "go"
  refine ⟨by omega, by omega, ?_⟩
  rw [Int.toNat_natCast]
  refine for_range (lo := 0) (n := m) (fun i σ H3 => ∃ (p : Addr) (v3 v4 v5 v6 : Option V), σ = [some (.int m), some (.int t), some (.ref p), v3, v4, v5, v6] ∧ Same H H3 ∧ H p = none ∧ Dt (rs S H3) (.ref p) (rowsD (belowK i t))) ⟨f, none, none, none, none, rfl, s0.trans s1, s0.free nf, d1⟩ ?_ ?_
  · rintro i σ H3 hi ⟨p, v3, v4, v5, v6, rfl, s3, np, d3⟩
    refine ⟨Nat.zero_le _, fun g ng => ?_⟩
    have hS3 := hS.same s3
    have d4 := dt_new hS3 ng (xs := []) (ds := []) .nil
    have s4 := same_upd (o := .lst []) ng
    generalize upd H3 g (.lst []) = H4 at d4 s4
    walk_at "go"
    obtain ⟨p', xs, e, hp, hx⟩ := d3.listE
    cases e
    have hxl := hx.len
    rw [List.length_map, below_len] at hxl
    have hti := hb i (by omega)
    have hti1 := hb (i + 1) (by omega)
    rw [← below_len] at hti1
    refine ⟨⟨_, .inl (.inl (s4 _ _ (rs_le _ _ hp)))⟩, for_list (K := K) (a := p) (xs := xs) (fun k σ H5 => ∃ (g' : Addr) (v3 v5 v6 : Option V), σ = [some (.int m), some (.int t), some (.ref p), v3, some (.ref g'), v5, v6] ∧ Same H3 H5 ∧ H3 g' = none ∧ Dt (rs S H5) (.ref g') (rowsD (((belowK i t).take k).flatMap (moreK t)))) ⟨g, some (.int (0 + (i : Int))), v5, v6, rfl, s4, ng, d4⟩ (fun k σ H5 _ ⟨_, _, _, _, _, s, _⟩ => .inl (.inl (s _ _ (rs_le _ _ hp)))) ?_ ?_⟩
    · rintro k x σ H5 hxk ⟨g', v3, v5, v6, rfl, s5, ng', d5⟩
      obtain ⟨dx, hdx, hxd⟩ := hx.got hxk
      rw [List.getElem?_map] at hdx
      obtain ⟨r, hr, rfl⟩ := Option.map_eq_some_iff.mp hdx
      have hrl := ((below_mem i t r).mp (List.mem_of_getElem? hr)).1
      walk_at "go"
      refine ⟨by omega, by omega, fun D nD => ?_⟩
      rw [Int.toNat_natCast]
      have hS5 := hS3.same s5
      refine lc_dR (lo := 0) (n := t) (S := S) hS5 ((moreK t r).map fun z => some (rowD z)) nD (by unfold moreK; simp) (by rw [sizeLine_eq]; omega) (fun x => rfl) ?_ ?_
      · intro o dd H' ho hdd s' hH Qt qt
        unfold moreK at hdd
        rw [List.getElem?_map, List.getElem?_map, List.getElem?_range ho] at hdd
        cases hdd
        walk_at "go"
        refine ⟨(show 1 ≤ sizeLine by decide), fun c1 nc1 => ?_⟩
        have d6 := dt_new hH nc1 (xs := [.int (0 + (o : Int))]) (ds := [.int (0 + (o : Int))]) (.cons (.int _) .nil)
        have s6 := same_upd (o := .lst [.int (0 + (o : Int))]) nc1
        generalize upd H' c1 (.lst [.int (0 + (o : Int))]) = H6 at d6 s6
        have hxr : Dt (rs (D :: S) H6) x (rowD r) := hxd.same (fun b u hb => under (S := S) (H := H5) nD (s'.trans s6) b u (rs_same s5 b u hb))
        refine d_cat (hH.same s6) hxr d6 (by rw [List.length_map, hrl, sizeLine_eq]; show i + 1 ≤ _; omega) fun c2 H7 s7 nc2 d7 => ?_
        refine qt _ _ (s6.trans s7) ?_
        show Dt (rs (D :: S) H7) (.ref c2) (rowD (r ++ [(o : Int)]))
        rw [Int.zero_add] at d7
        unfold rowD
        rw [List.map_append]
        exact d7
      · intro H6 s6 _ d6
        rw [sel_map] at d6
        have hl1 := flat_take_len (moreK t) (belowK i t) k
        refine d_cat (hS5.same s6) (d5.same (rs_same s6)) d6 ?_ fun g2 H7 s7 ng2 d7 => ?_
        · rw [List.length_map, List.length_map, sizeLine_eq]
          have : (moreK t r).length = t := by unfold moreK; rw [List.length_map, List.length_range]
          have e2 : ((belowK i t).flatMap (moreK t)).length ≤ 5000 := hti1
          omega
        · refine ⟨g2, v3, some x, v6, rfl, (s5.trans s6).trans s7, (s5.trans s6).free ng2, ?_⟩
          unfold rowsD
          rw [flat_nextR _ _ _ r hr, List.map_append]
          exact d7
    · rintro σ H5 ⟨g', v3, v5, v6, rfl, s5, ng', d5⟩
      walk_at "go"
      refine ⟨g', v3, some (.ref g'), v5, v6, rfl, s3.trans s5, s3.free ng', ?_⟩
      rw [hxl, ← below_len, List.take_length] at d5
      exact d5
  · rintro σ H3 ⟨p, v3, v4, v5, v6, rfl, s3, np, d3⟩
    walk_at "go"
    exact q _ p s3 np d3
end
end My

namespace My
open PySem PySem.Spec PyProof.Rows L2 Pre
/-! ### prices and counts of bits -/
def fl (ns : List Int) (w : Nat) : Int := (ns.map fun n => n / 2 ^ w).sum
def cb (ns : List Int) (p : Nat) : Int := (ns.map fun n => n / 2 ^ p % 2).sum
theorem price_fl : ∀ (ns : List Int) (w : Nat), price ns w = fl ns w + ns.length * (1 + (w : Int))
  | [], w => by simp [price, fl]
  | n :: ns, w => by
    have ih := price_fl ns w
    unfold price fl at *
    rw [List.map_cons, List.sum_cons, List.map_cons, List.sum_cons, List.length_cons, ih, Int.natCast_add, Int.add_mul]
    omega
theorem fl_step : ∀ (ns : List Int) (w : Nat), fl ns w = 2 * fl ns (w + 1) + cb ns w
  | [], w => by simp [fl, cb]
  | n :: ns, w => by
    have ih := fl_step ns w
    unfold fl cb at *
    have e : n / 2 ^ (w + 1) = n / 2 ^ w / 2 := by rw [Int.pow_succ, Int.ediv_ediv_of_nonneg (Int.le_of_lt (pow_pos' w))]
    simp only [List.map_cons, List.sum_cons]
    rw [ih, e]
    omega
theorem fl_nn : ∀ (ns : List Int) (w : Nat), (∀ n ∈ ns, 0 ≤ n) → 0 ≤ fl ns w
  | [], _, _ => by simp [fl]
  | n :: ns, w, h => by
    have ih := fl_nn ns w fun k hk => h k (List.mem_cons_of_mem _ hk)
    have h0 := Int.ediv_nonneg (h n List.mem_cons_self) (Int.le_of_lt (pow_pos' w))
    unfold fl at *
    rw [List.map_cons, List.sum_cons]
    omega
theorem cb_nn : ∀ (ns : List Int) (w : Nat), 0 ≤ cb ns w ∧ cb ns w ≤ ns.length
  | [], _ => by simp [cb]
  | n :: ns, w => by
    have ih := cb_nn ns w
    unfold cb at *
    rw [List.map_cons, List.sum_cons, List.length_cons]
    omega
/-- all floors are nothing just if all numbers are below -/
theorem fl_zero : ∀ {ns : List Int} {w : Nat}, (∀ n ∈ ns, 0 ≤ n) → (fl ns w = 0 ↔ ∀ n ∈ ns, n < 2 ^ w)
  | [], _, _ => by simp [fl]
  | n :: ns, w, h => by
    have ih := fl_zero (w := w) fun k hk => h k (List.mem_cons_of_mem _ hk)
    have hn := h n List.mem_cons_self
    have h0 := Int.ediv_nonneg hn (Int.le_of_lt (pow_pos' w))
    have h1 := fl_nn ns w fun k hk => h k (List.mem_cons_of_mem _ hk)
    have e : fl (n :: ns) w = n / 2 ^ w + fl ns w := by unfold fl; rw [List.map_cons, List.sum_cons]
    have hz : n / 2 ^ w = 0 ↔ n < 2 ^ w := by
      constructor
      · intro z
        have := Int.lt_ediv_add_one_mul_self n (pow_pos' w)
        rw [z] at this
        omega
      · intro z
        exact Int.ediv_eq_zero_of_lt hn z
    rw [e]
    constructor
    · intro z k hk
      rcases List.mem_cons.mp hk with rfl | hk
      · exact hz.mp (by omega)
      · exact ih.mp (by omega) k hk
    · intro z
      have a := hz.mpr (z n List.mem_cons_self)
      have b := ih.mpr fun k hk => z k (List.mem_cons_of_mem _ hk)
      omega
/-- as many bits as the greatest has -/
def hb : List Int → Nat
  | [] => 0
  | n :: ns => max (PySem.Builtin.Int.intBits n) (hb ns)
theorem bits_lt_iff {n : Int} (h : 0 ≤ n) (k : Nat) : PySem.Builtin.Int.intBits n ≤ k ↔ n < 2 ^ k := by
  have e : ((2 ^ k : Nat) : Int) = 2 ^ k := by rw [Int.natCast_pow]; rfl
  rw [intBits_le_iff]
  omega
theorem hb_le : ∀ {ns : List Int} (k : Nat), (∀ n ∈ ns, 0 ≤ n) → (hb ns ≤ k ↔ ∀ n ∈ ns, n < 2 ^ k)
  | [], k, _ => by simp [hb]
  | n :: ns, k, h => by
    have ih := hb_le k fun j hj => h j (List.mem_cons_of_mem _ hj)
    have b := bits_lt_iff (h n List.mem_cons_self) k
    show max _ _ ≤ k ↔ _
    constructor
    · intro z j hj
      rcases List.mem_cons.mp hj with rfl | hj
      · exact b.mp (by omega)
      · exact ih.mp (by omega) j hj
    · intro z
      have b1 := b.mpr (z n List.mem_cons_self)
      have b2 := ih.mpr fun j hj => z j (List.mem_cons_of_mem _ hj)
      omega
theorem hb_fl {ns : List Int} (h : ∀ n ∈ ns, 0 ≤ n) (k : Nat) : hb ns ≤ k ↔ fl ns k = 0 := (hb_le k h).trans (fl_zero h).symm
def counts (ns : List Int) : List Int := (List.range (hb ns)).map fun p => cb ns p
theorem cb_high {ns : List Int} (h : ∀ n ∈ ns, 0 ≤ n) {p : Nat} (hp : hb ns ≤ p) : cb ns p = 0 := by
  have a := (hb_fl h p).mp hp
  have b := (hb_fl h (p + 1)).mp (by omega)
  have := fl_step ns p
  omega
theorem fl_of_cb {xs ys : List Int} (hx : ∀ n ∈ xs, 0 ≤ n) (hy : ∀ n ∈ ys, 0 ≤ n) (h : ∀ p, cb xs p = cb ys p) : ∀ w, fl xs w = fl ys w := by
  have key : ∀ d w, w + d = max (hb xs) (hb ys) → fl xs w = fl ys w := fun d => by
    induction d with
    | zero =>
      intro w hw
      rw [(hb_fl hx w).mp (by omega), (hb_fl hy w).mp (by omega)]
    | succ d ih =>
      intro w hw
      rw [fl_step xs, fl_step ys, ih (w + 1) (by omega), h]
  intro w
  by_cases c : w ≤ max (hb xs) (hb ys)
  · exact key (max (hb xs) (hb ys) - w) w (by omega)
  · rw [(hb_fl hx w).mp (by omega), (hb_fl hy w).mp (by omega)]
theorem hb_of_fl {xs ys : List Int} (hx : ∀ n ∈ xs, 0 ≤ n) (hy : ∀ n ∈ ys, 0 ≤ n) (h : ∀ w, fl xs w = fl ys w) : hb xs = hb ys := by
  have a := (hb_fl hx (hb ys)).mpr (by rw [h]; exact (hb_fl hy _).mp (Nat.le_refl _))
  have b := (hb_fl hy (hb xs)).mpr (by rw [← h]; exact (hb_fl hx _).mp (Nat.le_refl _))
  omega
theorem counts_cb {xs ys : List Int} (hx : ∀ n ∈ xs, 0 ≤ n) (hy : ∀ n ∈ ys, 0 ≤ n) (h : counts xs = counts ys) : ∀ p, cb xs p = cb ys p := by
  have hl : hb xs = hb ys := by
    have := congrArg List.length h
    unfold counts at this
    rw [List.length_map, List.length_map, List.length_range, List.length_range] at this
    exact this
  intro p
  by_cases c : p < hb xs
  · have e := congrArg (fun l => l[p]?) h
    unfold counts at e
    rw [List.getElem?_map, List.getElem?_map, List.getElem?_range c, List.getElem?_range (by omega)] at e
    exact Option.some.inj e
  · rw [cb_high hx (by omega), cb_high hy (by omega)]
/-- as far as both reach, and one width more -/
def AgreeTo (xs ys : List Int) (B : Nat) : Prop := ∀ w, w < B → price xs w = price ys w
theorem agree_all {xs ys : List Int} (hx : ∀ n ∈ xs, 0 ≤ n) (hy : ∀ n ∈ ys, 0 ≤ n) (h : AgreeTo xs ys (max (hb xs) (hb ys) + 1)) : xs.length = ys.length ∧ ∀ w, fl xs w = fl ys w := by
  have e := h (max (hb xs) (hb ys)) (by omega)
  rw [price_fl, price_fl, (hb_fl hx _).mp (by omega), (hb_fl hy _).mp (by omega), Int.zero_add, Int.zero_add] at e
  have hl : (xs.length : Int) = ys.length := Int.eq_of_mul_eq_mul_right (by omega) e
  refine ⟨by omega, fun w => ?_⟩
  by_cases c : w < max (hb xs) (hb ys) + 1
  · have := h w c
    rw [price_fl, price_fl, hl] at this
    omega
  · rw [(hb_fl hx w).mp (by omega), (hb_fl hy w).mp (by omega)]
theorem same_iff {xs ys : List Int} (hx : ∀ n ∈ xs, 0 ≤ n) (hy : ∀ n ∈ ys, 0 ≤ n) : (xs.length = ys.length ∧ counts xs = counts ys) ↔ AgreeTo xs ys (max (hb xs) (hb ys) + 1) := by
  constructor
  · rintro ⟨hl, hc⟩ w _
    rw [price_fl, price_fl, hl, fl_of_cb hx hy (counts_cb hx hy hc)]
  · intro h
    obtain ⟨hl, hf⟩ := agree_all hx hy h
    refine ⟨hl, ?_⟩
    unfold counts
    rw [hb_of_fl hx hy hf]
    refine List.map_congr_left fun p _ => ?_
    have a := fl_step xs p
    have b := fl_step ys p
    rw [hf, hf] at a
    omega
theorem agree_more {xs ys : List Int} (hx : ∀ n ∈ xs, 0 ≤ n) (hy : ∀ n ∈ ys, 0 ≤ n) (h : AgreeTo xs ys (max (hb xs) (hb ys) + 1)) (w : Nat) : price xs w = price ys w := by
  obtain ⟨hl, hf⟩ := agree_all hx hy h
  rw [price_fl, price_fl, hl, hf]
theorem hb_40 {ns : List Int} (h : Folds ns) : hb ns ≤ 40 := (hb_le 40 h.nn).mpr fun n hn => (h n hn).2
end My

namespace My
/-! ### rows of counts -/
def bitsOf : List Int → Int → Int
  | [], _ => 0
  | c :: cs, k => (if c > k then 1 else 0) + 2 * bitsOf cs k
theorem bitsOf_nn : ∀ (cs : List Int) (k : Int), 0 ≤ bitsOf cs k
  | [], _ => Int.le_refl _
  | c :: cs, k => by
    have := bitsOf_nn cs k
    show 0 ≤ (if c > k then (1 : Int) else 0) + 2 * bitsOf cs k
    split <;> omega
theorem bitsOf_snoc : ∀ (cs : List Int) (c k : Int), bitsOf (cs ++ [c]) k = bitsOf cs k + (if c > k then 2 ^ cs.length else 0)
  | [], c, k => by simp [bitsOf]
  | d :: cs, c, k => by
    have ih := bitsOf_snoc cs c k
    show (if d > k then (1 : Int) else 0) + 2 * bitsOf (cs ++ [c]) k = (if d > k then (1 : Int) else 0) + 2 * bitsOf cs k + _
    rw [ih, List.length_cons, Int.pow_succ]
    by_cases h : c > k
    · rw [if_pos h, if_pos h]; omega
    · rw [if_neg h, if_neg h]; omega
theorem bitsOf_bit : ∀ (cs : List Int) (k : Int) (p : Nat), bitsOf cs k / 2 ^ p % 2 = if cs.getD p 0 > k ∧ p < cs.length then 1 else 0
  | [], k, p => by simp [bitsOf]
  | c :: cs, k, 0 => by
    show ((if c > k then (1 : Int) else 0) + 2 * bitsOf cs k) / 2 ^ 0 % 2 = if c > k ∧ 0 < cs.length + 1 then 1 else 0
    rw [Int.pow_zero, Int.ediv_one]
    by_cases h : c > k
    · rw [if_pos h, if_pos ⟨h, by omega⟩]; omega
    · rw [if_neg h, if_neg (fun z => h z.1)]; omega
  | c :: cs, k, p + 1 => by
    have ih := bitsOf_bit cs k p
    show ((if c > k then (1 : Int) else 0) + 2 * bitsOf cs k) / 2 ^ (p + 1) % 2 = if cs.getD p 0 > k ∧ p + 1 < cs.length + 1 then 1 else 0
    have e : ((if c > k then (1 : Int) else 0) + 2 * bitsOf cs k) / 2 ^ (p + 1) = bitsOf cs k / 2 ^ p := by
      have e2 : (2 : Int) ^ (p + 1) = 2 * 2 ^ p := by rw [Int.pow_succ, Int.mul_comm]
      rw [e2, ← Int.ediv_ediv_of_nonneg (show (0 : Int) ≤ 2 by decide)]
      congr 1
      split <;> omega
    rw [e, ih]
    by_cases h : cs.getD p 0 > k ∧ p < cs.length
    · rw [if_pos h, if_pos ⟨h.1, by omega⟩]
    · rw [if_neg h, if_neg (fun z => h ⟨z.1, by omega⟩)]
theorem bitsOf_lt : ∀ (cs : List Int) (k : Int), bitsOf cs k < 2 ^ cs.length
  | [], _ => by show (0 : Int) < 1; decide
  | c :: cs, k => by
    have ih := bitsOf_lt cs k
    show (if c > k then (1 : Int) else 0) + 2 * bitsOf cs k < 2 ^ (cs.length + 1)
    rw [Int.pow_succ]
    split <;> omega
/-- the row -/
def rowC (many : Nat) (cs : List Int) : List Int := (List.range many).map fun (k : Nat) => bitsOf cs k
theorem count_above (c : Int) : ∀ (m : Nat), 0 ≤ c → c ≤ m → ((List.range m).map fun (k : Nat) => if c > (k : Int) then (1 : Int) else 0).sum = c
  | 0, h0, h1 => by show (0 : Int) = c; omega
  | m + 1, h0, h1 => by
    rw [List.range_succ, List.map_append, List.sum_append]
    show _ + ([if c > (m : Int) then (1 : Int) else 0]).sum = c
    rw [List.sum_singleton]
    by_cases h : c > (m : Int)
    · rw [if_pos h]
      have e : ((List.range m).map fun (k : Nat) => if c > (k : Int) then (1 : Int) else 0) = (List.range m).map fun _ => (1 : Int) := List.map_congr_left fun k hk => by
        have := List.mem_range.mp hk
        rw [if_pos (by omega)]
      rw [e]
      have s : ∀ n, ((List.range n).map fun _ => (1 : Int)).sum = n := fun n => by
        induction n with
        | zero => rfl
        | succ n ih => rw [List.range_succ, List.map_append, List.sum_append, ih]; show (n : Int) + 1 = _; omega
      rw [s]
      omega
    · rw [if_neg h, count_above c m h0 (by omega)]
      omega
theorem cb_rowC {many : Nat} {cs : List Int} (h : ∀ c ∈ cs, 0 ≤ c ∧ c ≤ many) (p : Nat) : cb (rowC many cs) p = cs.getD p 0 := by
  unfold cb rowC
  rw [List.map_map]
  by_cases hp : p < cs.length
  · have hc : 0 ≤ cs.getD p 0 ∧ cs.getD p 0 ≤ many := by
      rw [List.getD_eq_getElem?_getD, List.getElem?_eq_getElem hp, Option.getD_some]
      exact h _ (List.getElem_mem hp)
    rw [← count_above _ many hc.1 hc.2]
    congr 1
    refine List.map_congr_left fun k _ => ?_
    show bitsOf cs k / 2 ^ p % 2 = _
    rw [bitsOf_bit]
    by_cases g : cs.getD p 0 > (k : Int)
    · rw [if_pos ⟨g, hp⟩, if_pos g]
    · rw [if_neg (fun z => g z.1), if_neg g]
  · have e : ((List.range many).map ((fun n => n / 2 ^ p % 2) ∘ fun (k : Nat) => bitsOf cs k)) = (List.range many).map fun _ => (0 : Int) := List.map_congr_left fun k _ => by
      show bitsOf cs k / 2 ^ p % 2 = 0
      rw [bitsOf_bit, if_neg (fun z => hp z.2)]
    rw [e, List.getD_eq_getElem?_getD, List.getElem?_eq_none (by omega)]
    have s : ∀ n, ((List.range n).map fun _ => (0 : Int)).sum = 0 := fun n => by
      induction n with
      | zero => rfl
      | succ n ih => rw [List.range_succ, List.map_append, List.sum_append, ih]; rfl
    exact s many
theorem rowC_nn (many : Nat) (cs : List Int) : ∀ n ∈ rowC many cs, 0 ≤ n := fun n hn => by
  obtain ⟨k, _, rfl⟩ := List.mem_map.mp hn
  exact bitsOf_nn cs k
theorem hb_cb {ns : List Int} (h : ∀ n ∈ ns, 0 ≤ n) (k : Nat) (hz : ∀ p, k ≤ p → cb ns p = 0) : hb ns ≤ k := by
  rw [hb_fl h]
  have key : ∀ d, fl ns k = 2 ^ d * fl ns (k + d) := fun d => by
    induction d with
    | zero => simp
    | succ d ih =>
      rw [ih, fl_step ns (k + d), hz (k + d) (by omega), Int.pow_succ, Int.add_zero, ← Int.mul_assoc]
      rfl
  rw [key (hb ns), (hb_fl h (k + hb ns)).mp (by omega), Int.mul_zero]
/-- the counts of the row of counts: the counts, less noughts at their end -/
theorem strip_ok {many : Nat} {cs : List Int} (h : ∀ c ∈ cs, 0 ≤ c ∧ c ≤ many) {k : Nat} (hk : k ≤ cs.length) (hz : ∀ p, k ≤ p → cs.getD p 0 = 0) (hl : k = 0 ∨ cs.getD (k - 1) 0 ≠ 0) : counts (rowC many cs) = cs.take k := by
  have h1 : hb (rowC many cs) ≤ k := hb_cb (rowC_nn many cs) k fun p hp => by rw [cb_rowC h, hz p hp]
  have h2 : hb (rowC many cs) = k := by
    rcases hl with rfl | hl
    · omega
    · by_cases c : hb (rowC many cs) ≤ k - 1
      · have := cb_high (rowC_nn many cs) c
        rw [cb_rowC h] at this
        exact absurd this hl
      · omega
  unfold counts
  rw [h2]
  refine List.ext_getElem? fun i => ?_
  by_cases hi : i < k
  · rw [List.getElem?_map, List.getElem?_range hi, List.getElem?_take_of_lt hi, List.getElem?_eq_getElem (by omega)]
    show some (cb (rowC many cs) i) = _
    rw [cb_rowC h, List.getD_eq_getElem?_getD, List.getElem?_eq_getElem (by omega)]
    rfl
  · rw [List.getElem?_eq_none (by rw [List.length_map, List.length_range]; omega), List.getElem?_eq_none (by rw [List.length_take]; omega)]
/-! ### how many rows are like a row -/
def chF (m : Int) : Nat → Int
  | 0 => 1
  | k + 1 => chF m k * (m - k) / (k + 1)
theorem chF_small : ∀ n : Fin 4, ∀ c : Fin 4, c.val ≤ n.val → 0 ≤ chF n.val c.val ∧ chF n.val c.val ≤ 3 := by decide +kernel
def likeF (n : Nat) : List Int → Int
  | [] => 1
  | c :: cs => chF n c.toNat * likeF n cs
def likeN (n : Nat) (c0 c1 c2 : Int) : Nat := ((belowK n 8).filter fun q => decide (cb q 0 = c0 ∧ cb q 1 = c1 ∧ cb q 2 = c2)).length
theorem like_all : ∀ n : Fin 4, ∀ c0 : Fin 4, ∀ c1 : Fin 4, ∀ c2 : Fin 4, c0.val ≤ n.val → c1.val ≤ n.val → c2.val ≤ n.val → (likeN n c0.val c1.val c2.val : Int) = chF n c0.val * chF n c1.val * chF n c2.val := by decide +kernel
end My

namespace My
open PySem PySem.Spec PyProof.Rows L2 Pre
theorem maxI_hb : ∀ ns : List Int, ∀ M : Int, M ∈ (ns.map fun n => ((Builtin.Int.intBits n : Nat) : Int)) ++ [0] → (∀ y ∈ (ns.map fun n => ((Builtin.Int.intBits n : Nat) : Int)) ++ [0], y ≤ M) → M = (hb ns : Int) := fun ns M h1 h2 => by
  have key : ∀ ns : List Int, (∀ y ∈ (ns.map fun n => ((Builtin.Int.intBits n : Nat) : Int)) ++ [0], y ≤ (hb ns : Int)) ∧ (hb ns : Int) ∈ (ns.map fun n => ((Builtin.Int.intBits n : Nat) : Int)) ++ [0] := fun ns => by
    induction ns with
    | nil => simp [hb]
    | cons n ns ih =>
      obtain ⟨i1, i2⟩ := ih
      rw [List.map_cons, List.cons_append]
      refine ⟨fun y hy => ?_, ?_⟩
      · rcases List.mem_cons.mp hy with rfl | hy
        · show _ ≤ ((max _ _ : Nat) : Int); omega
        · have := i1 y hy
          show _ ≤ ((max _ _ : Nat) : Int)
          omega
      · show ((max (Builtin.Int.intBits n) (hb ns) : Nat) : Int) ∈ _
        rcases Nat.le_total (Builtin.Int.intBits n) (hb ns) with c | c
        · rw [Nat.max_eq_right c]; exact List.mem_cons_of_mem _ i2
        · rw [Nat.max_eq_left c]; exact List.mem_cons_self
  obtain ⟨k1, k2⟩ := key ns
  exact Int.le_antisymm (k1 M h1) (h2 _ k2)
local macro_rules | `(tactic| walk_at "go") => `(tactic| repeat (first | (with_reducible first | refine iteT ?_ | refine iteF ?_ | refine iteNtt ?_ | refine iteNff ?_ | refine iteET (by omega) ?_ | refine iteEF (by omega) ?_ | refine iteENT (by omega) ?_ | refine iteENF (by omega) ?_ | refine iteDT (by omega) ?_ | refine iteDF (by omega) ?_ | refine iteNT (by omega) ?_ | refine iteNF (by omega) ?_) | refine ⟨_, rfl, ?_⟩ | refine ⟨_, _, rfl, rfl, ?_⟩ | refine ⟨_, _, rfl, ?_⟩ | refine ⟨rfl, ?_⟩ | refine .inl ⟨_, rfl, ?_⟩ | refine .inr ⟨_, rfl, ?_⟩))
local macro_rules | `(tactic| walk_at "b") => `(tactic| try dsimp (config := { proj := false, iota := false, eta := false, zeta := false }) only)
section
variable {P : Program} {w : World} {K : PySem.W.Frag} {mg : Str → Option Value} {base : Heap}
def sp_check_width : Sp := fun vs H Q _ => ∃ i : Int, vs = [.int i] ∧ 0 ≤ i ∧ i ≤ 120 ∧ Q .non H
theorem G_check_width (T : Top K mg) : FnOk P w K mg base CX0 3 T.f_check_width T.fd_check_width ["width"] sp_check_width := by
  refine T.F_check_width.ok sc_check_width (fun vs H Q E h => by obtain ⟨i, rfl, _⟩ := h; rfl) (fun cdv A outer s H vs Q E hr h => ?_)
  obtain ⟨i, rfl, h0, h1, q⟩ := h
  refine ⟨_, PSs.nox (pss_one (ps_if (pt_not (pt_val (pe_call (G_is_between T) (hr.mono (by decide)) (by rfl) T.g_is_between T.F_is_between.kp T.b_is_between .nil pass0 (pa_cons (pv 0) (pa_cons pe_int (pa_cons (pe_glob (v := .int 120) rfl T.m_MOST_WIDTH ⟨_, rfl⟩) pa_nil))))))
    (pss_one ps_never)
    pss_nil)), ?_⟩
  refine ⟨_, rfl, i, 0, some 120, rfl, _, rfl, ?_⟩
  rw [decide_eq_true ⟨h0, fun j h => by cases h; exact h1⟩]
  exact iteF q
def sp_price (K : PySem.W.Frag) : Sp := fun vs H Q _ => ∃ (a : Addr) (ns : List Int) (i : Nat), vs = [.ref a, .int i] ∧ FoldsAt K H a ns ∧ i ≤ 120 ∧ ∀ H', Same H H' → Q (.int (price ns i)) H'
theorem G_price (T : Top K mg) : FnOk P w K mg base CX0 4 T.f_price T.fd_price ["folds", "width"] (sp_price K) := by
  refine T.F_price.ok sc_price (fun vs H Q E h => by obtain ⟨a, ns, i, rfl, _⟩ := h; rfl) (fun cdv A outer s H vs Q E hr h => ?_)
  obtain ⟨a, ns, i, rfl, hA, hi, q⟩ := h
  refine ⟨_, PSs.nox (pss_cons (ps_expr (pe_call (G_check_folds T) (hr.mono (by decide)) (by rfl) T.g_check_folds T.F_check_folds.kp T.b_check_folds .nil pass0 (pa_cons (pv 0) pa_nil)))
  (pss_cons (ps_expr (pe_call (G_check_width T) (hr.mono (by decide)) (by rfl) T.g_check_width T.F_check_width.kp T.b_check_width .nil pass0 (pa_cons (pv 1) pa_nil)))
  (pss_one (ps_ret (pe_call (G_raw_price T) (hr.mono (by decide)) (by rfl) T.g_raw_price T.F_raw_price.kp T.b_raw_price .nil pass0 (pa_cons (pv 0) (pa_cons (pv 1) pa_nil))))))), ?_⟩
  refine ⟨_, rfl, a, ns, rfl, hA.sq, ⟨_, hA.1, _, rfl⟩, hA.2.1.nn, small1000 hA.2.2, fun H1 s1 => ?_⟩
  refine ⟨_, rfl, _, rfl, Int.natCast_nonneg _, by omega, ?_⟩
  exact ⟨_, rfl, _, rfl, a, ns, i, rfl, s1.seq hA.sq, hA.2.2, fun H2 s2 => q _ (s1.trans s2)⟩
def sp_high_bits (K : PySem.W.Frag) : Sp := fun vs H Q _ => ∃ (a : Addr) (ns : List Int), vs = [.ref a] ∧ SqL K H a (ns.map V.int) ∧ ns.length ≤ 1000 ∧ ∀ H', Same H H' → Q (.int (hb ns : Nat)) H'
theorem G_high_bits (T : Top K mg) : FnOk P w K mg base CX0 1 T.f_high_bits T.fd_high_bits ["folds"] (sp_high_bits K) := by
  refine T.F_high_bits.ok sc_high_bits (fun vs H Q E h => by obtain ⟨a, ns, rfl, _⟩ := h; rfl) (fun cdv A outer s H vs Q E hr h => ?_)
  obtain ⟨a, ns, rfl, hA, hl, q⟩ := h
  refine ⟨_, PSs.nox (pss_one (ps_ret (pe_callB (k_max K rfl rfl) (by rfl) T.n_max (by decide +kernel) (pa_cons (pe_op op_cat (pe_lc (own := [("unit", 1)]) (g := gName 1) (tt := tYes) (by rfl) sc_high_bits.nd (k_piL K rfl (pv 0)) (blkOk_by (own := [("unit", 1)]) (N := N_high_bits) (sc := defScope s_high_bits) (by decide +kernel)) (fun _ _ _ _ _ => (pg_name (i := 1) sc_high_bits.nd rfl (by first | exact Or.inl rfl | exact Or.inr rfl))) (fun _ _ _ _ _ => pts_nil) (fun _ _ _ _ _ => (pe_bits (pv 1)))) (pe_lst (pa_cons pe_int pa_nil))) pa_nil)))), ?_⟩
  refine ⟨_, rfl, a, rfl, ⟨_, hA⟩, fun D nD => ?_⟩
  refine lc_mapL (K := K) (xs := ns.map V.int) ((ns.map fun n => ((Builtin.Int.intBits n : Nat) : Int)).map V.int) nD hA (by simp) (by rw [List.length_map]; exact small1000 hl) (fun x => rfl) ?_ ?_
  · intro k x y H' hx hy s Qt qt
    obtain ⟨n, hn, rfl⟩ := int_at hx
    rw [List.getElem?_map, List.getElem?_map, hn] at hy
    cases hy
    walk_at "go"
    exact qt _ (Same.refl _)
  · intro H1 s1 hD
    refine ⟨(show 1 ≤ sizeLine by decide), fun z nz => ?_⟩
    obtain ⟨H2, e2, s2, h2⟩ := fresh (.lst ([(0 : Int)].map V.int)) nz
    have e2' : upd H1 z (.lst [V.int 0]) = H2 := e2
    rw [e2']
    refine ⟨D, z, _, _, rfl, rfl, s2 _ _ hD, h2, by rw [List.length_map, List.length_map, List.length_map, sizeLine_eq]; show _ + 1 ≤ _; omega, fun c nc => ?_⟩
    rw [← List.map_append]
    obtain ⟨H3, e3, s3, h3⟩ := fresh (.lst (((ns.map fun n => ((Builtin.Int.intBits n : Nat) : Int)) ++ [0]).map V.int)) nc
    rw [e3]
    refine ⟨c, _, rfl, .inl (.inl h3), by rw [List.length_append]; show 0 < _ + 1; omega, fun M hM hle => ?_⟩
    rw [maxI_hb ns M hM hle]
    exact q _ ((s1.trans s2).trans s3)
def sp_counts_of (K : PySem.W.Frag) : Sp := fun vs H Q _ => ∃ (a : Addr) (ns : List Int), vs = [.ref a] ∧ SqL K H a (ns.map V.int) ∧ ns.length ≤ 1000 ∧ hb ns ≤ 200 ∧ ∀ H' p, Same H H' → H p = none → H' p = some (.lst ((counts ns).map V.int)) → Q (.ref p) H'
theorem G_counts_of (T : Top K mg) : FnOk P w K mg base CX0 2 T.f_counts_of T.fd_counts_of ["folds"] (sp_counts_of K) := by
  refine T.F_counts_of.ok sc_counts_of (fun vs H Q E h => by obtain ⟨a, ns, rfl, _⟩ := h; rfl) (fun cdv A outer s H vs Q E hr h => ?_)
  obtain ⟨a, ns, rfl, hA, hl, hh, q⟩ := h
  refine ⟨_, PSs.nox (pss_one (ps_ret (pe_lc (own := [("place", 1)]) (g := gName 1) (tt := tYes) (by rfl) sc_counts_of.nd (pi_range1 (by rfl) T.n_range (pa_cons (pe_call (G_high_bits T) (hr.mono (by decide)) (by rfl) T.g_high_bits T.F_high_bits.kp T.b_high_bits .nil pass0 (pa_cons (pv 0) pa_nil)) pa_nil)) (blkOk_by (own := [("place", 1)]) (N := N_counts_of) (sc := defScope s_counts_of) (by decide +kernel)) (fun _ _ _ _ _ => (pg_name (i := 1) sc_counts_of.nd rfl (by first | exact Or.inl rfl | exact Or.inr rfl))) (fun _ _ _ _ _ => pts_nil) (fun _ _ _ _ _ => (pe_callB (k_sum K rfl rfl) (by rfl) T.n_sum (by decide +kernel) (pa_cons (pe_lc (own := [("unit", 2)]) (g := gName 2) (tt := tYes) (by rfl) sc_counts_of.nd (k_piL K rfl (pv 0)) (blkOk_by (own := [("unit", 2)]) (N := N_counts_of) (by kernel_rfl)) (fun _ _ _ _ _ => (pg_name (i := 2) sc_counts_of.nd rfl (by first | exact Or.inl rfl | exact Or.inr rfl))) (fun _ _ _ _ _ => pts_nil) (fun _ _ _ _ _ => (pe_op op_and (pe_op op_shr (pv 2) (pv 1)) pe_int))) pa_nil)))))), ?_⟩
  refine ⟨_, rfl, a, ns, rfl, hA, hl, fun H1 s1 => ?_⟩
  refine ⟨_, rfl, by omega, by omega, fun D nD => ?_⟩
  rw [Int.toNat_natCast]
  refine lc_mapR (lo := 0) (n := hb ns) ((counts ns).map V.int) nD (by unfold counts; rw [List.length_map, List.length_map, List.length_range]) (small1000 (by omega)) (fun x => rfl) ?_ ?_
  · intro i y H' hi hy s Qt qt
    unfold counts at hy
    rw [List.getElem?_map, List.getElem?_map, List.getElem?_range hi] at hy
    cases hy
    have hA' := s.seq (s1.seq hA)
    refine ⟨_, rfl, a, rfl, ⟨_, hA'⟩, fun D2 nD2 => ?_⟩
    refine lc_mapL (K := K) (xs := ns.map V.int) ((ns.map fun n => n / 2 ^ i % 2).map V.int) nD2 hA' (by simp) (by rw [List.length_map]; exact small1000 hl) (fun x => rfl) ?_ ?_
    · intro k x y2 H2 hx hy2 s2 Qt2 qt2
      obtain ⟨n, hn, rfl⟩ := int_at hx
      rw [List.getElem?_map, List.getElem?_map, hn] at hy2
      cases hy2
      walk_at "go"
      refine ⟨by omega, ?_⟩
      walk_at "b"
      rw [show ((0 : Int) + (i : Int)).toNat = i by omega]
      walk_at "go"
      walk_at "b"
      rw [PyProof.Rows.bitAnd_m1]
      exact qt2 _ (Same.refl _)
    · intro H2 s2 hD2
      refine ⟨D2, _, rfl, .inl (.inl hD2), ?_⟩
      exact qt _ s2
  · intro H2 s2 hD
    exact q _ D (s1.trans s2) (s1.free nD) hD
def sp_bit_counts (K : PySem.W.Frag) : Sp := fun vs H Q _ => ∃ (a : Addr) (ns : List Int), vs = [.ref a] ∧ FoldsAt K H a ns ∧ ∀ H' p, Same H H' → H p = none → H' p = some (.lst ((counts ns).map V.int)) → Q (.ref p) H'
theorem G_bit_counts (T : Top K mg) : FnOk P w K mg base CX0 4 T.f_bit_counts T.fd_bit_counts ["folds"] (sp_bit_counts K) := by
  refine T.F_bit_counts.ok sc_bit_counts (fun vs H Q E h => by obtain ⟨a, ns, rfl, _⟩ := h; rfl) (fun cdv A outer s H vs Q E hr h => ?_)
  obtain ⟨a, ns, rfl, hA, q⟩ := h
  refine ⟨_, PSs.nox (pss_cons (ps_expr (pe_call (G_check_folds T) (hr.mono (by decide)) (by rfl) T.g_check_folds T.F_check_folds.kp T.b_check_folds .nil pass0 (pa_cons (pv 0) pa_nil)))
  (pss_one (ps_ret (pe_call (G_counts_of T) (hr.mono (by decide)) (by rfl) T.g_counts_of T.F_counts_of.kp T.b_counts_of .nil pass0 (pa_cons (pv 0) pa_nil))))), ?_⟩
  refine ⟨_, rfl, a, ns, rfl, hA.sq, ⟨_, hA.1, _, rfl⟩, hA.2.1.nn, small1000 hA.2.2, fun H1 s1 => ?_⟩
  refine ⟨_, rfl, a, ns, rfl, s1.seq hA.sq, hA.2.2, by have := hb_40 hA.2.1; omega, fun H2 p s2 np h2 => q _ p (s1.trans s2) (s1.free np) h2⟩
def sp_same_prices (K : PySem.W.Frag) : Sp := fun vs H Q _ => ∃ (a b : Addr) (xs ys : List Int), vs = [.ref a, .ref b] ∧ FoldsAt K H a xs ∧ FoldsAt K H b ys ∧ ∀ H', Same H H' → Q (.bl (decide (xs.length = ys.length ∧ counts xs = counts ys))) H'
theorem G_same_prices (T : Top K mg) : FnOk P w K mg base CX0 4 T.f_same_prices T.fd_same_prices ["one", "other"] (sp_same_prices K) := by
  refine T.F_same_prices.ok sc_same_prices (fun vs H Q E h => by obtain ⟨a, b, xs, ys, rfl, _⟩ := h; rfl) (fun cdv A outer s H vs Q E hr h => ?_)
  obtain ⟨a, b, xs, ys, rfl, hA, hB, q⟩ := h
  refine ⟨_, PSs.nox (pss_cons (ps_expr (pe_call (G_check_folds T) (hr.mono (by decide)) (by rfl) T.g_check_folds T.F_check_folds.kp T.b_check_folds .nil pass0 (pa_cons (pv 0) pa_nil)))
  (pss_cons (ps_expr (pe_call (G_check_folds T) (hr.mono (by decide)) (by rfl) T.g_check_folds T.F_check_folds.kp T.b_check_folds .nil pass0 (pa_cons (pv 1) pa_nil)))
  (pss_one (ps_ret (pe_and (pe_cmpR op_eq (pe_callB (k_len K rfl) (by rfl) T.n_len (by decide +kernel) (pa_cons (pv 0) pa_nil)) (pe_callB (k_len K rfl) (by rfl) T.n_len (by decide +kernel) (pa_cons (pv 1) pa_nil)) (nomark _)) (pe_one (pe_cmpR (k_eqD K rfl hr.units) (pe_call (G_counts_of T) (hr.mono (by decide)) (by rfl) T.g_counts_of T.F_counts_of.kp T.b_counts_of .nil pass0 (pa_cons (pv 0) pa_nil)) (pe_call (G_counts_of T) (hr.mono (by decide)) (by rfl) T.g_counts_of T.F_counts_of.kp T.b_counts_of .nil pass0 (pa_cons (pv 1) pa_nil)) (nomark _)))))))), ?_⟩
  refine ⟨_, rfl, a, xs, rfl, hA.sq, ⟨_, hA.1, _, rfl⟩, hA.2.1.nn, small1000 hA.2.2, fun H1 s1 => ?_⟩
  have hB1 := hB.same s1
  refine ⟨_, rfl, b, ys, rfl, hB1.sq, ⟨_, hB1.1, _, rfl⟩, hB.2.1.nn, small1000 hB.2.2, fun H2 s2 => ?_⟩
  have hA2 := (hA.same s1).same s2
  have hB2 := hB1.same s2
  walk_at "go"
  refine ⟨a, _, rfl, .inl hA2.sq, ?_⟩
  walk_at "go"
  refine ⟨b, _, rfl, .inl hB2.sq, ?_⟩
  rw [List.length_map, List.length_map]
  refine ⟨rfl, _, rfl, ?_⟩
  by_cases c : xs.length = ys.length
  · refine iteET (by omega) ?_
    refine ⟨_, rfl, a, xs, rfl, hA2.sq, hA.2.2, by have := hb_40 hA.2.1; omega, fun H3 p3 s3 np3 h3 => ?_⟩
    refine ⟨_, rfl, b, ys, rfl, s3.seq hB2.sq, hB.2.2, by have := hb_40 hB.2.1; omega, fun H4 p4 s4 np4 h4 => ?_⟩
    refine eqD_lst (.inl (.inl (s4 _ _ h3))) (.inl (.inl h4)) ?_
    have e : decide (counts xs = counts ys) = decide (xs.length = ys.length ∧ counts xs = counts ys) := by
      by_cases d : counts xs = counts ys
      · rw [decide_eq_true d, decide_eq_true ⟨c, d⟩]
      · rw [decide_eq_false d, decide_eq_false (fun z => d z.2)]
    rw [e]
    exact q _ (((s1.trans s2).trans s3).trans s4)
  · refine iteEF (by omega) ?_
    rw [decide_eq_false (fun z => c z.1)] at q
    exact q _ (s1.trans s2)
/-- the first unlike width -/
def partW (xs ys : List Int) : Option Nat := (List.range (max (hb xs) (hb ys) + 1)).find? fun w => decide (price xs w ≠ price ys w)
def optV : Option Nat → V
  | some w => .int w
  | none => .non
def sp_parting_width (K : PySem.W.Frag) : Sp := fun vs H Q _ => ∃ (a b : Addr) (xs ys : List Int), vs = [.ref a, .ref b] ∧ FoldsAt K H a xs ∧ FoldsAt K H b ys ∧ ∀ H', Same H H' → Q (optV (partW xs ys)) H'
theorem find_range_some {n k : Nat} {f : Nat → Bool} (hk : k < n) (h : f k = true) (hl : ∀ j, j < k → f j = false) : (List.range n).find? f = some k := by
  rw [List.find?_eq_some_iff_getElem]
  refine ⟨h, k, by rw [List.length_range]; exact hk, List.getElem_range .., fun j hj => ?_⟩
  rw [List.getElem_range, hl j hj]
  rfl
theorem G_parting_width (T : Top K mg) : FnOk P w K mg base CX0 4 T.f_parting_width T.fd_parting_width ["one", "other"] (sp_parting_width K) := by
  refine T.F_parting_width.ok sc_parting_width (fun vs H Q E h => by obtain ⟨a, b, xs, ys, rfl, _⟩ := h; rfl) (fun cdv A outer s H vs Q E hr h => ?_)
  obtain ⟨a, b, xs, ys, rfl, hA, hB, q⟩ := h
  refine ⟨_, PSs.nox (pss_cons (ps_expr (pe_call (G_check_folds T) (hr.mono (by decide)) (by rfl) T.g_check_folds T.F_check_folds.kp T.b_check_folds .nil pass0 (pa_cons (pv 0) pa_nil)))
  (pss_cons (ps_expr (pe_call (G_check_folds T) (hr.mono (by decide)) (by rfl) T.g_check_folds T.F_check_folds.kp T.b_check_folds .nil pass0 (pa_cons (pv 1) pa_nil)))
  (pss_cons (ps_for PassesOwn.never rfl (pi_range1 (by rfl) T.n_range (pa_cons (pe_op op_add (pe_callB (call_max2 rfl) (by rfl) T.n_max (by decide +kernel) (pa_cons (pe_call (G_high_bits T) (hr.mono (by decide)) (by rfl) T.g_high_bits T.F_high_bits.kp T.b_high_bits .nil pass0 (pa_cons (pv 0) pa_nil)) (pa_cons (pe_call (G_high_bits T) (hr.mono (by decide)) (by rfl) T.g_high_bits T.F_high_bits.kp T.b_high_bits .nil pass0 (pa_cons (pv 1) pa_nil)) pa_nil))) pe_int) pa_nil)) (pg_name (i := 2) sc_parting_width.nd rfl (by first | exact Or.inl rfl | exact Or.inr rfl))
    (pss_one (ps_if (pt_cmpR op_ne (pe_call (G_raw_price T) (hr.mono (by decide)) (by rfl) T.g_raw_price T.F_raw_price.kp T.b_raw_price .nil pass0 (pa_cons (pv 0) (pa_cons (pv 2) pa_nil))) (pe_call (G_raw_price T) (hr.mono (by decide)) (by rfl) T.g_raw_price T.F_raw_price.kp T.b_raw_price .nil pass0 (pa_cons (pv 1) (pa_cons (pv 2) pa_nil))) (nomark _))
    (pss_one (ps_ret (pv 2)))
    pss_nil)))
  (pss_one (ps_ret pe_non))))), ?_⟩
  refine ⟨_, rfl, a, xs, rfl, hA.sq, ⟨_, hA.1, _, rfl⟩, hA.2.1.nn, small1000 hA.2.2, fun H1 s1 => ?_⟩
  have hB1 := hB.same s1
  refine ⟨_, rfl, b, ys, rfl, hB1.sq, ⟨_, hB1.1, _, rfl⟩, hB.2.1.nn, small1000 hB.2.2, fun H2 s2 => ?_⟩
  have hA2 := (hA.same s1).same s2
  have hB2 := hB1.same s2
  have ha40 := hb_40 hA.2.1
  have hb40 := hb_40 hB.2.1
  walk_at "go"
  refine ⟨a, xs, rfl, hA2.sq, hA.2.2, fun H3 s3 => ?_⟩
  walk_at "go"
  refine ⟨b, ys, rfl, s3.seq hB2.sq, hB.2.2, fun H4 s4 => ?_⟩
  walk_at "go"
  have em : (if ((hb ys : Nat) : Int) > ((hb xs : Nat) : Int) then ((hb ys : Nat) : Int) else ((hb xs : Nat) : Int)) + 1 = ((max (hb xs) (hb ys) + 1 : Nat) : Int) := by
    by_cases c : ((hb ys : Nat) : Int) > ((hb xs : Nat) : Int)
    · rw [if_pos c]; omega
    · rw [if_neg c]; omega
  walk_at "b"
  rw [em]
  refine ⟨by omega, by omega, ?_⟩
  rw [Int.toNat_natCast]
  have s24 := s3.trans s4
  refine for_range (lo := 0) (n := max (hb xs) (hb ys) + 1) (fun i σ H5 => ∃ (v2 : Option V), σ = [some (.ref a), some (.ref b), v2] ∧ Same H2 H5 ∧ ∀ j, j < i → price xs j = price ys j) ⟨none, rfl, s24, (fun j hj => absurd hj (Nat.not_lt_zero _))⟩ ?_ ?_
  · rintro i σ H5 hi ⟨v2, rfl, s5, hj⟩
    rw [show (0 : Int) + (i : Int) = i by omega]
    walk_at "go"
    refine ⟨a, xs, i, rfl, s5.seq hA2.sq, hA.2.2, fun H6 s6 => ?_⟩
    walk_at "go"
    refine ⟨b, ys, i, rfl, s6.seq (s5.seq hB2.sq), hB.2.2, fun H7 s7 => ?_⟩
    refine ⟨rfl, _, rfl, ?_⟩
    by_cases c : price xs i = price ys i
    · refine iteENF c ?_
      refine ⟨_, rfl, (s5.trans s6).trans s7, fun j hjj => ?_⟩
      by_cases e : j = i
      · rw [e]; exact c
      · exact hj j (by omega)
    · refine iteENT c ?_
      walk_at "go"
      have e : partW xs ys = some i := find_range_some hi (decide_eq_true c) (fun j hjj => decide_eq_false (fun z => z (hj j hjj)))
      rw [e] at q
      exact q _ (((s1.trans s2).trans s5).trans (s6.trans s7))
  · rintro σ H5 ⟨v2, rfl, s5, hj⟩
    have e : partW xs ys = none := List.find?_eq_none.mpr fun j hjj => by
      have := hj j (List.mem_range.mp hjj)
      simp [this]
    rw [e] at q
    walk_at "go"
    exact q _ ((s1.trans s2).trans s5)
end
end My

namespace My
open PySem PySem.Spec PyProof.Rows L2 Pre
theorem sel_bits (cs : List Int) (k : Int) : ∀ n, n ≤ cs.length → ∃ L : List Int, ((List.range n).map fun i => if cs.getD i 0 > k then some (PyData.int (2 ^ i)) else none).filterMap id = L.map PyData.int ∧ L.sum = bitsOf (cs.take n) k
  | 0, _ => ⟨[], rfl, rfl⟩
  | n + 1, h => by
    obtain ⟨L, h1, h2⟩ := sel_bits cs k n (by omega)
    have e : cs.take (n + 1) = cs.take n ++ [cs.getD n 0] := by
      rw [List.take_add_one, List.getD_eq_getElem?_getD, List.getElem?_eq_getElem (by omega)]
      rfl
    rw [e, bitsOf_snoc, List.range_succ, List.map_append, List.filterMap_append, h1, List.length_take, Nat.min_eq_left (by omega)]
    by_cases c : cs.getD n 0 > k
    · refine ⟨L ++ [2 ^ n], ?_, ?_⟩
      · rw [List.map_append]
        simp only [List.map_cons, List.map_nil, if_pos c]
        rfl
      · rw [List.sum_append, List.sum_singleton, h2, if_pos c]
    · refine ⟨L, ?_, ?_⟩
      · simp only [List.map_cons, List.map_nil, if_neg c]
        show L.map PyData.int ++ [] = _
        rw [List.append_nil]
      · rw [h2, if_neg c, Int.add_zero]
theorem likeF_snoc (n : Nat) : ∀ (cs : List Int) (c : Int), likeF n (cs ++ [c]) = likeF n cs * chF n c.toNat
  | [], c => by show chF n c.toNat * 1 = 1 * _; omega
  | d :: cs, c => by
    show chF n d.toNat * likeF n (cs ++ [c]) = chF n d.toNat * likeF n cs * _
    rw [likeF_snoc n cs c, Int.mul_assoc]
local macro_rules | `(tactic| walk_at "go") => `(tactic| repeat (first | (with_reducible first | refine iteT ?_ | refine iteF ?_ | refine iteNtt ?_ | refine iteNff ?_ | refine iteET (by omega) ?_ | refine iteEF (by omega) ?_ | refine iteENT (by omega) ?_ | refine iteENF (by omega) ?_ | refine iteDT (by omega) ?_ | refine iteDF (by omega) ?_ | refine iteNT (by omega) ?_ | refine iteNF (by omega) ?_) | refine ⟨_, rfl, ?_⟩ | refine ⟨_, _, rfl, rfl, ?_⟩ | refine ⟨_, _, rfl, ?_⟩ | refine ⟨rfl, ?_⟩ | refine .inl ⟨_, rfl, ?_⟩ | refine .inr ⟨_, rfl, ?_⟩))
local macro_rules | `(tactic| walk_at "b") => `(tactic| try dsimp (config := { proj := false, iota := false, eta := false, zeta := false }) only)
section
variable {P : Program} {w : World} {K : PySem.W.Frag} {mg : Str → Option Value} {base : Heap}
def sp_row_of_counts (K : PySem.W.Frag) : Sp := fun vs H Q _ => ∃ (many : Nat) (a : Addr) (cs : List Int), vs = [.int many, .ref a] ∧ H a = some (.lst (cs.map V.int)) ∧ (∀ c ∈ cs, 0 ≤ c ∧ c ≤ many) ∧ cs.length ≤ 100 ∧ many ≤ 100 ∧ ∀ H' p, Same H H' → H p = none → H' p = some (.lst ((rowC many cs).map V.int)) → Q (.ref p) H'
theorem G_row_of_counts (T : Top K mg) : FnOk P w K mg base CX0 4 T.f_row_of_counts T.fd_row_of_counts ["many", "counts"] (sp_row_of_counts K) := by
  refine T.F_row_of_counts.ok sc_row_of_counts (fun vs H Q E h => by obtain ⟨many, a, cs, rfl, _⟩ := h; rfl) (fun cdv A outer s H vs Q E hr h => ?_)
  obtain ⟨many, a, cs, rfl, hA, hc, hl, hm, q⟩ := h
  refine ⟨_, PSs.nox (pss_cons (ps_expr (pe_call (G_check_number T) (hr.mono (by decide)) (by rfl) T.g_check_number T.F_check_number.kp T.b_check_number .nil pass0 (pa_cons (pv 0) (pa_cons pe_int (pa_cons pe_non pa_nil)))))
  (pss_cons (ps_if (PW.pt (pw_or (pt_not (pt_val (pe_callB (k_isi K rfl) (by rfl) T.n_isinstance (by decide +kernel) (pa_cons (pv 1) (pa_cons (pe_bltn (v := .ty "list") (by rfl) T.n_list (by decide +kernel) rfl) pa_nil))))) (pw_or1 (pt_cmpR (k_neD K rfl hr.units) (pe_lc (own := [("one", 3)]) (g := gName 3) (by rfl) sc_row_of_counts.nd (k_piL K rfl (pv 1)) (blkOk_by (own := [("one", 3)]) (N := N_row_of_counts) (sc := defScope s_row_of_counts) (by decide +kernel)) (fun _ _ _ _ _ => (pg_name (i := 3) sc_row_of_counts.nd rfl (by first | exact Or.inl rfl | exact Or.inr rfl))) (fun _ _ _ _ _ => (pts_one (pt_not (pt_val (pe_call (G_is_between T) (hr.mono (by decide)) (by rfl) T.g_is_between T.F_is_between.kp T.b_is_between .nil pass0 (pa_cons (pv 3) (pa_cons pe_int (pa_cons (pv 0) pa_nil)))))))) (fun _ _ _ _ _ => (pv 3))) (pe_lst pa_nil) (nomark _)))))
    (pss_one ps_never)
    pss_nil)
  (pss_one (ps_ret (pe_lc (own := [("at", 2)]) (g := gName 2) (tt := tYes) (by rfl) sc_row_of_counts.nd (pi_range1 (by rfl) T.n_range (pa_cons (pv 0) pa_nil)) (blkOk_by (own := [("at", 2)]) (N := N_row_of_counts) (sc := defScope s_row_of_counts) (by decide +kernel)) (fun _ _ _ _ _ => (pg_name (i := 2) sc_row_of_counts.nd rfl (by first | exact Or.inl rfl | exact Or.inr rfl))) (fun _ _ _ _ _ => pts_nil) (fun _ _ _ _ _ => (pe_callB (k_sum K rfl rfl) (by rfl) T.n_sum (by decide +kernel) (pa_cons (pe_lc (own := [("place", 4), ("one", 3)]) (g := gTup K 2 (gCons (gName 4) (gCons (gName 3) (gNil)))) (by rfl) sc_row_of_counts.nd (k_piE K rfl (by rfl) T.n_enumerate (pa_cons (pv 1) pa_nil)) (blkOk_by (own := [("place", 4), ("one", 3)]) (N := N_row_of_counts) (by kernel_rfl)) (fun _ _ _ _ _ => (k_pgT K rfl (by rfl) (pgs_cons (pg_name (i := 4) sc_row_of_counts.nd rfl (by first | exact Or.inl rfl | exact Or.inr rfl)) (pgs_cons (pg_name (i := 3) sc_row_of_counts.nd rfl (by first | exact Or.inl rfl | exact Or.inr rfl)) pgs_nil)))) (fun _ _ _ _ _ => (pts_one (pt_cmpR op_gt (pv 3) (pv 2) (nomark _)))) (fun _ _ _ _ _ => (pe_op op_shl pe_int (pv 4)))) pa_nil)))))))), ?_⟩
  walk_at "go"
  refine ⟨(many : Int), 0, none, rfl, by omega, (fun j h => nomatch h), ?_⟩
  refine ⟨_, rfl, _, _, _, _, true, rfl, .ty _, rd_ty (.inl hA) rfl, kit_ty (by decide +kernel), true, rfl, iteF ?_⟩
  refine ⟨_, rfl, a, rfl, ⟨_, .inl (.inl hA)⟩, fun D nD => ?_⟩
  refine lc_selL (K := K) (xs := cs.map V.int) (cs.map fun _ => none) nD (.inl (.inl hA)) (by rw [List.length_map, List.length_map]) (by rw [List.length_map]; exact small1000 (by omega)) (fun x => rfl) ?_ ?_
  · intro i x o H' hx ho s Qt qt
    obtain ⟨n, hn, rfl⟩ := int_at hx
    rw [List.getElem?_map, hn] at ho
    cases ho
    have h0 := hc n (List.mem_of_getElem? hn)
    walk_at "go"
    refine ⟨n, 0, some (many : Int), rfl, _, rfl, ?_⟩
    refine iteNF ⟨h0.1, fun j h => by cases h; exact h0.2⟩ ?_
    exact qt _ (Same.refl _)
  · intro H1 s1 hD
    have e0 : (cs.map fun _ => (none : Option V)).filterMap id = [] := by
      rw [List.filterMap_map]
      exact List.filterMap_eq_nil_iff.mpr fun _ _ => rfl
    rw [e0] at hD
    refine ⟨Nat.zero_le _, fun p6 np6 => ?_⟩
    obtain ⟨H2, e6, s6, h6⟩ := fresh (.lst ([].map V.int)) np6
    have e6' : upd H1 p6 (.lst []) = H2 := e6
    rw [e6']
    refine ne_lst (ns := []) (.inl (.inl (s6 _ _ hD))) (.inl (.inl h6)) ?_
    have hA2 := s6 _ _ (s1 _ _ hA)
    walk_at "go"
    refine ⟨by omega, by omega, fun D2 nD2 => ?_⟩
    rw [Int.toNat_natCast]
    refine lc_mapR (lo := 0) (n := many) ((rowC many cs).map V.int) nD2 (by unfold rowC; rw [List.length_map, List.length_map, List.length_range]) (small1000 (by omega)) (fun x => rfl) ?_ ?_
    · intro k y H' hk hy s Qt qt
      unfold rowC at hy
      rw [List.getElem?_map, List.getElem?_map, List.getElem?_range hk] at hy
      cases hy
      have hA3 := s _ _ hA2
      refine ⟨_, rfl, a, _, rfl, .inl (.inl hA3), fun D3 nD3 => ?_⟩
      obtain ⟨L, eL, sL⟩ := sel_bits cs k cs.length (Nat.le_refl _)
      refine lc_dW (walk_enum (K := K) (a := a) (xs := cs.map V.int)) (S := []) Has.nil ((List.range cs.length).map fun i => if cs.getD i 0 > (k : Int) then some (PyData.int (2 ^ i)) else none) nD3 (by rw [List.length_map, List.length_map, List.length_range]) (by rw [List.length_map]; exact small1000 (by omega)) (fun H' s => .inl (.inl (s _ _ hA3))) ?_ ?_
      · rintro i o H0 x H'' hi ho s0 hH ⟨T1, x1, y1, rfl, nT, rfl, e1, e2⟩ Qt2 qt2
        rw [List.length_map] at hi
        cases e1
        dsimp only at e2
        rw [List.getElem?_map, List.getElem?_eq_getElem hi] at e2
        cases e2
        rw [List.getElem?_map, List.getElem?_range hi] at ho
        cases ho
        dsimp only at qt2
        rw [List.getD_eq_getElem?_getD, List.getElem?_eq_getElem hi, Option.getD_some] at qt2
        have st := same_upd (o := .tup [V.int (i : Nat), V.int cs[i]]) nT
        refine ⟨T1, _, rfl, .inl (.inl upd_same), rfl, ?_⟩
        generalize upd H0 T1 (.tup [V.int (i : Nat), V.int cs[i]]) = H8 at st
        refine ⟨_, _, rfl, _, _, rfl, rfl, ⟨rfl, ?_⟩⟩
        rw [show (0 : Int) + (k : Int) = k by omega]
        refine ⟨_, rfl, _, rfl, _, _, rfl, rfl, _, rfl, ?_⟩
        by_cases g : cs[i] > (k : Int)
        · rw [if_pos g] at qt2
          refine iteDT g ?_
          walk_at "go"
          refine ⟨⟨by omega, by omega, by decide⟩, ?_⟩
          refine qt2 _ _ st ?_
          show Dt _ (V.int (1 * 2 ^ ((i : Nat) : Int).toNat)) (.int (2 ^ i))
          rw [Int.toNat_natCast, Int.one_mul]
          exact .int _
        · rw [if_neg g] at qt2
          refine iteDF g ?_
          exact qt2 none _ st trivial
      · intro H4 s4 _ dD
        rw [eL, rs_nil] at dD
        obtain ⟨_, e, hD3⟩ := Dt.intsE (ns := L) dD
        cases e
        refine ⟨D3, L, rfl, .inl (.inl hD3), ?_⟩
        rw [sL, List.take_length]
        exact qt _ s4
    · intro H4 s4 hD4
      exact q _ D2 ((s1.trans s6).trans s4) (s1.free (s6.free nD2)) hD4
def sp_choices : Sp := fun vs H Q _ => ∃ (n c : Nat), vs = [.int n, .int c] ∧ n ≤ 3 ∧ c ≤ n ∧ Q (.int (chF n c)) H
theorem G_choices (T : Top K mg) : FnOk P w K mg base CX0 1 T.f_choices T.fd_choices ["many", "few"] sp_choices := by
  refine T.F_choices.ok sc_choices (fun vs H Q E h => by obtain ⟨n, c, rfl, _⟩ := h; rfl) (fun cdv A outer s H vs Q E hr h => ?_)
  obtain ⟨n, c, rfl, hn, hc, q⟩ := h
  refine ⟨_, PSs.nox (pss_cons (ps_if (PW.pt (pw_or (pt_cmpR op_lt (pv 1) pe_int (nomark _)) (pw_or1 (pt_cmpR op_gt (pv 1) (pv 0) (nomark _)))))
    (pss_one (ps_ret pe_int))
    pss_nil)
  (pss_cons (ps_set (i := 2) sc_choices.nd rfl (by first | exact Or.inl rfl | exact Or.inr rfl) pe_int)
  (pss_cons (ps_for PassesOwn.never rfl (pi_range1 (by rfl) T.n_range (pa_cons (pv 1) pa_nil)) (pg_name (i := 3) sc_choices.nd rfl (by first | exact Or.inl rfl | exact Or.inr rfl))
    (pss_one (ps_set (i := 2) sc_choices.nd rfl (by first | exact Or.inl rfl | exact Or.inr rfl) (pe_op op_fdivW (pe_op op_mul (pv 2) (pe_op op_sub (pv 0) (pv 3))) (pe_op op_add (pv 3) pe_int)))))
  (pss_one (ps_ret (pv 2)))))), ?_⟩
  walk_at "go"
  refine ⟨by omega, by omega, ?_⟩
  rw [Int.toNat_natCast]
  refine for_range (lo := 0) (n := c) (fun i σ H1 => ∃ (v3 : Option V), σ = [some (.int n), some (.int c), some (.int (chF n i)), v3] ∧ H1 = H) ⟨none, rfl, rfl⟩ ?_ ?_
  · rintro i σ H1 hi ⟨v3, rfl, rfl⟩
    have hb := chF_small ⟨n, by omega⟩ ⟨i, by omega⟩ (by show i ≤ n; omega)
    walk_at "go"
    refine ⟨.inr ⟨by omega, by omega⟩, ?_⟩
    walk_at "go"
    refine ⟨wide_div (b := 60) (by omega) (by omega) (by decide) (by decide), ?_⟩
    walk_at "go"
    refine ⟨some (.int (0 + (i : Int))), ?_, rfl⟩
    rw [show (0 : Int) + (i : Int) = i by omega]
    rfl
  · rintro σ H1 ⟨v3, rfl, rfl⟩
    walk_at "go"
    exact q
def sp_how_many_like (K : PySem.W.Frag) : Sp := fun vs H Q _ => ∃ (a : Addr) (ns : List Int), vs = [.ref a] ∧ FoldsAt K H a ns ∧ ns.length ≤ 3 ∧ ∀ H', Same H H' → Q (.int (likeF ns.length (counts ns))) H'
theorem G_how_many_like (T : Top K mg) : FnOk P w K mg base CX0 4 T.f_how_many_like T.fd_how_many_like ["folds"] (sp_how_many_like K) := by
  refine T.F_how_many_like.ok sc_how_many_like (fun vs H Q E h => by obtain ⟨a, ns, rfl, _⟩ := h; rfl) (fun cdv A outer s H vs Q E hr h => ?_)
  obtain ⟨a, ns, rfl, hA, hl, q⟩ := h
  refine ⟨_, PSs.nox (pss_cons (ps_expr (pe_call (G_check_folds T) (hr.mono (by decide)) (by rfl) T.g_check_folds T.F_check_folds.kp T.b_check_folds .nil pass0 (pa_cons (pv 0) pa_nil)))
  (pss_cons (ps_set (i := 1) sc_how_many_like.nd rfl (by first | exact Or.inl rfl | exact Or.inr rfl) pe_int)
  (pss_cons (ps_for PassesOwn.never rfl (k_piL K rfl (pe_call (G_counts_of T) (hr.mono (by decide)) (by rfl) T.g_counts_of T.F_counts_of.kp T.b_counts_of .nil pass0 (pa_cons (pv 0) pa_nil))) (pg_name (i := 2) sc_how_many_like.nd rfl (by first | exact Or.inl rfl | exact Or.inr rfl))
    (pss_one (ps_set (i := 1) sc_how_many_like.nd rfl (by first | exact Or.inl rfl | exact Or.inr rfl) (pe_op op_mul (pv 1) (pe_call (G_choices T) (hr.mono (by decide)) (by rfl) T.g_choices T.F_choices.kp T.b_choices .nil pass0 (pa_cons (pe_callB (k_len K rfl) (by rfl) T.n_len (by decide +kernel) (pa_cons (pv 0) pa_nil)) (pa_cons (pv 2) pa_nil)))))))
  (pss_one (ps_ret (pv 1)))))), ?_⟩
  refine ⟨_, rfl, a, ns, rfl, hA.sq, ⟨_, hA.1, _, rfl⟩, hA.2.1.nn, small1000 hA.2.2, fun H1 s1 => ?_⟩
  walk_at "go"
  refine ⟨a, ns, rfl, s1.seq hA.sq, hA.2.2, by have := hb_40 hA.2.1; omega, fun H2 p s2 np h2 => ?_⟩
  refine ⟨p, rfl, ⟨_, .inl (.inl h2)⟩, for_list (K := K) (a := p) (xs := (counts ns).map V.int) (fun i σ H3 => ∃ (v2 : Option V), σ = [some (.ref a), some (.int (likeF ns.length ((counts ns).take i))), v2] ∧ H3 = H2) ⟨none, rfl, rfl⟩ (fun i σ H3 _ ⟨_, _, e⟩ => by rw [e]; exact .inl (.inl h2)) ?_ ?_⟩
  · rintro i x σ H3 hx ⟨v2, rfl, rfl⟩
    obtain ⟨c, hc, rfl⟩ := int_at hx
    have hcb : 0 ≤ c ∧ c ≤ ns.length := by
      have := List.mem_of_getElem? hc
      unfold counts at this
      obtain ⟨p, _, rfl⟩ := List.mem_map.mp this
      exact cb_nn ns p
    obtain ⟨m, rfl⟩ : ∃ m : Nat, c = (m : Int) := ⟨c.toNat, by omega⟩
    have hb := chF_small ⟨ns.length, by omega⟩ ⟨m, by omega⟩ (by show m ≤ ns.length; omega)
    dsimp only at hb
    walk_at "go"
    refine ⟨a, _, rfl, .inl (s2.seq (s1.seq hA.sq)), ?_⟩
    walk_at "go"
    rw [List.length_map]
    refine ⟨hl, by omega, ?_⟩
    walk_at "go"
    refine ⟨.inr ⟨by omega, by omega⟩, ?_⟩
    refine ⟨some (.int m), ?_, rfl⟩
    rw [List.take_add_one, hc, Option.toList_some, likeF_snoc, Int.toNat_natCast]
    rfl
  · rintro σ H3 ⟨v2, rfl, rfl⟩
    walk_at "go"
    rw [List.length_map, List.take_length]
    exact q _ (s1.trans s2)
end
end My

namespace My
open PySem PySem.Spec PyProof.Rows L2 Pre
def Fl39 (ns : List Int) : Prop := ∀ n ∈ ns, 0 ≤ n ∧ n < 2 ^ 39
theorem Fl39.folds {ns : List Int} (h : Fl39 ns) : Folds ns := fun n hn => ⟨(h n hn).1, by have := (h n hn).2; omega⟩
theorem sel_pos : ∀ (ns : List Int), ((ns.map fun n => if n > 0 then some (V.int n) else none).filterMap id = [] ↔ ∀ n ∈ ns, ¬ n > 0)
  | [] => by simp
  | n :: ns => by
    have ih := sel_pos ns
    by_cases c : n > 0
    · rw [List.map_cons, if_pos c]
      constructor
      · intro z; cases z
      · intro z; exact absurd c (z n List.mem_cons_self)
    · rw [List.map_cons, if_neg c, List.filterMap_cons_none rfl, ih]
      constructor
      · intro z k hk
        rcases List.mem_cons.mp hk with rfl | hk
        · exact c
        · exact z k hk
      · intro z k hk; exact z k (List.mem_cons_of_mem _ hk)
theorem sel_odd : ∀ (ns : List Int), ((((ns.map fun n => if n % 2 = 1 then some (V.int n) else none).filterMap id).length : Nat) : Int) = (ns.map fun n => n % 2).sum
  | [] => rfl
  | n :: ns => by
    have ih := sel_odd ns
    by_cases c : n % 2 = 1
    · rw [List.map_cons, if_pos c, List.map_cons, List.sum_cons, c, ← ih]
      show (((_ + 1 : Nat)) : Int) = _
      omega
    · rw [List.map_cons, if_neg c, List.filterMap_cons_none rfl, List.map_cons, List.sum_cons, ih]
      omega
theorem sel_ints (ns : List Int) (p : Int → Prop) [DecidablePred p] : (ns.map fun n => if p n then some (V.int n) else none).filterMap id = (ns.filter fun n => decide (p n)).map V.int := by
  induction ns with
  | nil => rfl
  | cons n ns ih =>
    by_cases c : p n
    · rw [List.map_cons, if_pos c, List.filter_cons_of_pos (by simpa using c)]
      show V.int n :: _ = V.int n :: _
      rw [ih]
    · rw [List.map_cons, if_neg c, List.filterMap_cons_none rfl, List.filter_cons_of_neg (by simpa using c), ih]
local macro_rules | `(tactic| walk_at "go") => `(tactic| repeat (first | (with_reducible first | refine iteT ?_ | refine iteF ?_ | refine iteNtt ?_ | refine iteNff ?_ | refine iteET (by omega) ?_ | refine iteEF (by omega) ?_ | refine iteENT (by omega) ?_ | refine iteENF (by omega) ?_ | refine iteDT (by omega) ?_ | refine iteDF (by omega) ?_ | refine iteNT (by omega) ?_ | refine iteNF (by omega) ?_) | refine ⟨_, rfl, ?_⟩ | refine ⟨_, _, rfl, rfl, ?_⟩ | refine ⟨_, _, rfl, ?_⟩ | refine ⟨rfl, ?_⟩ | refine .inl ⟨_, rfl, ?_⟩ | refine .inr ⟨_, rfl, ?_⟩))
local macro_rules | `(tactic| walk_at "b") => `(tactic| try dsimp (config := { proj := false, iota := false, eta := false, zeta := false }) only)
section
variable {P : Program} {w : World} {K : PySem.W.Frag} {mg : Str → Option Value} {base : Heap}
def sp_law_prices (K : PySem.W.Frag) : Sp := fun vs H Q _ => ∃ (a : Addr) (ns : List Int), vs = [.ref a] ∧ SqL K H a (ns.map V.int) ∧ ∀ H' p, Same H H' → H p = none → H' p = some (.lst (((List.range 45).map fun (w : Nat) => price ns w).map V.int)) → Q (.ref p) H'
theorem G_law_prices (T : Top K mg) : FnOk P w K mg base CX0 2 T.f_law_prices T.fd_law_prices ["_law_folds_here"] (sp_law_prices K) := by
  refine T.F_law_prices.ok sc_law_prices (fun vs H Q E h => by obtain ⟨a, ns, rfl, _⟩ := h; rfl) (fun cdv A outer s H vs Q E hr h => ?_)
  obtain ⟨a, ns, rfl, hA, q⟩ := h
  refine ⟨_, PSs.nox (pss_one (ps_ret (pe_lc (own := [("_law_width", 1)]) (g := gName 1) (tt := tYes) (by rfl) sc_law_prices.nd (pi_range1 (by rfl) T.n_range (pa_cons pe_int pa_nil)) (blkOk_by (own := [("_law_width", 1)]) (N := N_law_prices) (sc := defScope s_law_prices) (by decide +kernel)) (fun _ _ _ _ _ => (pg_name (i := 1) sc_law_prices.nd rfl (by first | exact Or.inl rfl | exact Or.inr rfl))) (fun _ _ _ _ _ => pts_nil) (fun _ _ _ _ _ => (pe_call (G_law_price T) (hr.mono (by decide)) (by rfl) T.g_law_price T.F_law_price.kp T.b_law_price .nil pass0 (pa_cons (pv 0) (pa_cons (pv 1) pa_nil))))))), ?_⟩
  refine ⟨_, rfl, by decide, by decide, fun D nD => ?_⟩
  refine lc_mapR (lo := 0) (n := 45) (((List.range 45).map fun (w : Nat) => price ns w).map V.int) nD (by rw [List.length_map, List.length_map, List.length_range]) (small1000 (by decide)) (fun x => rfl) ?_ ?_
  · intro i y H' hi hy s Qt qt
    rw [List.getElem?_map, List.getElem?_map, List.getElem?_range hi] at hy
    cases hy
    refine ⟨_, rfl, _, rfl, a, ns, i, ?_, s.seq hA, by omega, qt _ (Same.refl _)⟩
    show [V.ref a, V.int (0 + (i : Int))] = _
    rw [Int.zero_add]
  · intro H1 s1 hD
    exact q _ D s1 nD hD
def sp_law_bits (K : PySem.W.Frag) : Sp := fun vs H Q _ => ∃ (a : Addr) (ns : List Int), vs = [.ref a] ∧ SqL K H a (ns.map V.int) ∧ Folds ns ∧ ns.length ≤ 500 ∧ ∀ H' p, Same H H' → H p = none → H' p = some (.lst ((counts ns).map V.int)) → Q (.ref p) H'
theorem G_law_bits (T : Top K mg) : FnOk P w K mg base CX0 1 T.f_law_bits T.fd_law_bits ["_law_folds_here"] (sp_law_bits K) := by
  refine T.F_law_bits.ok sc_law_bits (fun vs H Q E h => by obtain ⟨a, ns, rfl, _⟩ := h; rfl) (fun cdv A outer s H vs Q E hr h => ?_)
  obtain ⟨a, ns, rfl, hA, hF, hl, q⟩ := h
  refine ⟨_, PSs.nox (pss_cons (ps_par (by rfl) sc_law_bits.nd (i := 1) (j := 2) rfl rfl (by decide) rfl rfl (pa_cons (pe_lst pa_nil) (pa_cons (pe_callTy (k_listOf K rfl) (by rfl) T.n_list (by decide +kernel) (pa_cons (pv 0) pa_nil)) pa_nil)) (by rfl))
  (pss_cons (ps_while PassesOwn.never (pt_cmpR (k_neD K rfl hr.units) (pe_lc (own := [("_law_one", 3)]) (g := gName 3) (by rfl) sc_law_bits.nd (k_piL K rfl (pv 2)) (blkOk_by (own := [("_law_one", 3)]) (N := N_law_bits) (sc := defScope s_law_bits) (by decide +kernel)) (fun _ _ _ _ _ => (pg_name (i := 3) sc_law_bits.nd rfl (by first | exact Or.inl rfl | exact Or.inr rfl))) (fun _ _ _ _ _ => (pts_one (pt_cmpR op_gt (pv 3) pe_int (nomark _)))) (fun _ _ _ _ _ => (pv 3))) (pe_lst pa_nil) (nomark _))
    (pss_cons (ps_expr (pe_bm PySem.F.plainAttrs_list PySem.F.slot_list_append PySem.F.type_list_append mt_append (pv 1) (pa_cons (pe_callB (k_len K rfl) (by rfl) T.n_len (by decide +kernel) (pa_cons (pe_lc (own := [("_law_one", 3)]) (g := gName 3) (by rfl) sc_law_bits.nd (k_piL K rfl (pv 2)) (blkOk_by (own := [("_law_one", 3)]) (N := N_law_bits) (sc := defScope s_law_bits) (by decide +kernel)) (fun _ _ _ _ _ => (pg_name (i := 3) sc_law_bits.nd rfl (by first | exact Or.inl rfl | exact Or.inr rfl))) (fun _ _ _ _ _ => (pts_one (pt_cmpR op_eq (pe_op op_mod (pv 3) pe_int) pe_int (nomark _)))) (fun _ _ _ _ _ => (pv 3))) pa_nil)) pa_nil)))
  (pss_one (ps_setLc (i := 2) (own := [("_law_one", 3)]) (g := gName 3) (tt := tYes) (by rfl) sc_law_bits.nd rfl rfl (sw_true rfl rfl rfl (by decide +kernel)) (k_piL K rfl (pv 2)) (blkOk_by (own := [("_law_one", 3)]) (N := N_law_bits) (sc := defScope s_law_bits) (by decide +kernel)) (fun _ _ _ _ _ => (pg_name (i := 3) sc_law_bits.nd rfl (by first | exact Or.inl rfl | exact Or.inr rfl))) (fun _ _ _ _ _ => pts_nil) (fun _ _ _ _ _ => (pe_op op_fdivW (pv 3) pe_int))))))
  (pss_one (ps_ret (pv 1))))), ?_⟩
  refine ⟨Nat.zero_le _, fun f nf => ?_⟩
  obtain ⟨H1, e1, s1, h1⟩ := fresh (.lst []) nf
  rw [e1]
  refine ⟨_, rfl, a, _, rfl, .inl (s1.seq hA), fun l nl => ?_⟩
  obtain ⟨H2, e2, s2, h2⟩ := fresh (.lst (ns.map V.int)) nl
  rw [e2]
  refine ⟨_, _, rfl, ?_⟩
  have hnn := hF.nn
  refine ⟨fun m σ H3 => ∃ (i : Nat) (p : Addr) (v3 : Option V), σ = [some (.ref a), some (.ref f), some (.ref p), v3] ∧ m + i = hb ns ∧ Same H H3 ∧ p ≠ f ∧ H3 p = some (.lst ((ns.map fun n => n / 2 ^ i).map V.int)) ∧ H3 f = some (.lst (((List.range i).map fun p => cb ns p).map V.int)), ⟨hb ns, 0, l, none, rfl, rfl, s1.trans s2, (ne_of_none h1 nl).symm, by rw [h2]; simp, s2 _ _ h1⟩, ?_⟩
  rintro m σ H3 ⟨i, p, v3, rfl, hm, s3, npf, h3, hf⟩
  have hS3 : SqL K H3 p ((ns.map fun n => n / 2 ^ i).map V.int) := .inl (.inl h3)
  refine ⟨_, rfl, p, rfl, ⟨_, hS3⟩, fun D nD => ?_⟩
  refine lc_selL (K := K) (xs := (ns.map fun n => n / 2 ^ i).map V.int) ((ns.map fun n => n / 2 ^ i).map fun n => if n > 0 then some (V.int n) else none) nD hS3 (by simp) (by rw [List.length_map, List.length_map]; exact small1000 (by omega)) (fun x => rfl) ?_ ?_
  · intro k x o H' hx ho s Qt qt
    obtain ⟨n, hn, rfl⟩ := int_at hx
    rw [List.getElem?_map, hn] at ho
    cases ho
    dsimp only at qt
    refine ⟨_, rfl, _, _, rfl, rfl, _, rfl, ?_⟩
    by_cases c : n > 0
    · rw [if_pos c] at qt
      refine iteDT c ?_
      walk_at "go"
      exact qt _ (Same.refl _)
    · rw [if_neg c] at qt
      refine iteDF c ?_
      exact qt _ (Same.refl _)
  intro H4 s4 hD
  have eB : ((ns.map fun n => n / 2 ^ i).map fun n => if n > 0 then some (V.int n) else none).filterMap id = ((ns.map fun n => n / 2 ^ i).filter fun n => decide (n > 0)).map V.int := sel_ints _ _
  have hB := sel_pos (ns.map fun n => n / 2 ^ i)
  rw [eB] at hD hB
  refine ⟨Nat.zero_le _, fun p5 np5 => ?_⟩
  obtain ⟨H5, e5, s5, h5⟩ := fresh (.lst (([] : List Int).map V.int)) np5
  have e5' : upd H4 p5 (.lst []) = H5 := e5
  rw [e5']
  refine neD_lst (ns := (ns.map fun n => n / 2 ^ i).filter fun n => decide (n > 0)) (ms := []) (.inl (.inl (s5 _ _ hD))) (.inl (.inl h5)) ?_
  have hfl : ((ns.map fun n => n / 2 ^ i).filter fun n => decide (n > 0)) = [] ↔ hb ns ≤ i := by
    rw [hb_fl hnn, ← List.map_eq_nil_iff (f := V.int), hB]
    constructor
    · intro z
      have e : fl ns i = 0 := by
        unfold fl
        have h0 : ∀ n ∈ (ns.map fun n => n / 2 ^ i), n = 0 := fun n hn => by
          have := z n hn
          obtain ⟨k, hk, rfl⟩ := List.mem_map.mp hn
          have := Int.ediv_nonneg (hnn k hk) (Int.le_of_lt (pow_pos' i))
          omega
        generalize (ns.map fun n => n / 2 ^ i) = L at h0
        induction L with
        | nil => rfl
        | cons x L ih => rw [List.sum_cons, h0 x List.mem_cons_self, ih fun n hn => h0 n (List.mem_cons_of_mem _ hn)]; rfl
      exact e
    · intro z n hn
      obtain ⟨k, hk, rfl⟩ := List.mem_map.mp hn
      rw [Int.ediv_eq_zero_of_lt (hnn k hk) ((fl_zero hnn).mp z k hk)]
      omega
  have s35 := s4.trans s5
  refine ⟨_, rfl, ?_⟩
  by_cases c : hb ns ≤ i
  · rw [decide_eq_true (hfl.mpr c)]
    refine iteNtt ?_
    walk_at "go"
    refine q _ f (s3.trans s35) nf ?_
    unfold counts
    rw [show hb ns = i by omega]
    exact s35 _ _ hf
  · rw [decide_eq_false (fun z => c (hfl.mp z))]
    refine iteNff ?_
    refine ⟨fun σ' H' => ∃ (p : Addr) (v3 : Option V), σ' = [some (.ref a), some (.ref f), some (.ref p), v3] ∧ Same H H' ∧ p ≠ f ∧ H' p = some (.lst ((ns.map fun n => n / 2 ^ (i + 1)).map V.int)) ∧ H' f = some (.lst (((List.range (i + 1)).map fun p => cb ns p).map V.int)), fun σ' H' ⟨p, v3, e1, e2, e3, e4, e5⟩ => ⟨m - 1, by omega, i + 1, p, v3, e1, by omega, e2, e3, e4, e5⟩, ?_⟩
    have hf5 := s35 _ _ hf
    have h35 := s35 _ _ h3
    have hS5 : SqL K H5 p ((ns.map fun n => n / 2 ^ i).map V.int) := .inl (.inl h35)
    walk_at "go"
    refine ⟨.inl ⟨rfl, _, .inl (.inl hf5)⟩, ?_⟩
    refine ⟨_, rfl, p, rfl, ⟨_, hS5⟩, fun D2 nD2 => ?_⟩
    refine lc_selL (K := K) (xs := (ns.map fun n => n / 2 ^ i).map V.int) ((ns.map fun n => n / 2 ^ i).map fun n => if n % 2 = 1 then some (V.int n) else none) nD2 hS5 (by simp) (by rw [List.length_map, List.length_map]; exact small1000 (by omega)) (fun x => rfl) ?_ ?_
    · intro k x o H' hx ho s Qt qt
      obtain ⟨n, hn, rfl⟩ := int_at hx
      rw [List.getElem?_map, hn] at ho
      cases ho
      dsimp only at qt
      walk_at "go"
      refine ⟨(show (0 : Int) < 2 by decide), ?_⟩
      refine ⟨rfl, _, rfl, ?_⟩
      by_cases c : n % 2 = 1
      · rw [if_pos c] at qt
        refine iteET c ?_
        walk_at "go"
        exact qt _ (Same.refl _)
      · rw [if_neg c] at qt
        refine iteEF c ?_
        exact qt _ (Same.refl _)
    · intro H6 s6 hD6
      have hf6 := s6 _ _ hf5
      refine ⟨D2, _, rfl, .inl (.inl (.inl hD6)), ?_⟩
      have ec : (((((ns.map fun n => n / 2 ^ i).map fun n => if n % 2 = 1 then some (V.int n) else none).filterMap id).length : Nat) : Int) = cb ns i := by
        rw [sel_odd, List.map_map]
        rfl
      rw [ec]
      refine ⟨f, _, _, rfl, rfl, hf6, by rw [List.length_map, List.length_map, List.length_range]; exact small1000 (by have := hb_40 hF; omega), ?_⟩
      have h6p := s6 _ _ h35
      have k7 : ∀ o, (upd H6 f o) p = some (.lst ((ns.map fun n => n / 2 ^ i).map V.int)) := fun o => by rw [upd_ne npf]; exact h6p
      have s7 : ∀ o, Same H (upd H6 f o) := fun o => same_over nf ((s3.trans s35).trans s6)
      have hf7 : (upd H6 f (.lst (((List.range i).map fun p => cb ns p).map V.int ++ [V.int (cb ns i)]))) f = some (.lst (((List.range (i + 1)).map fun p => cb ns p).map V.int)) := by
        rw [upd_same, List.range_succ, List.map_append, List.map_append]
        rfl
      have k8 := k7 (.lst (((List.range i).map fun p => cb ns p).map V.int ++ [V.int (cb ns i)]))
      have s8 := s7 (.lst (((List.range i).map fun p => cb ns p).map V.int ++ [V.int (cb ns i)]))
      generalize upd H6 f (.lst (((List.range i).map fun p => cb ns p).map V.int ++ [V.int (cb ns i)])) = H7 at hf7 k8 s8
      walk_at "go"
      refine ⟨⟨_, .inl (.inl k8)⟩, fun D3 nD3 => ?_⟩
      refine lc_mapL (K := K) (xs := (ns.map fun n => n / 2 ^ i).map V.int) ((ns.map fun n => n / 2 ^ (i + 1)).map V.int) nD3 (.inl (.inl k8)) (by simp) (by rw [List.length_map, List.length_map]; exact small1000 (by omega)) (fun x => rfl) ?_ ?_
      · intro k x y H' hx hy s Qt qt
        obtain ⟨n, hn, rfl⟩ := int_at hx
        rw [List.getElem?_map] at hn
        obtain ⟨n0, hn0, rfl⟩ := Option.map_eq_some_iff.mp hn
        rw [List.getElem?_map, List.getElem?_map, hn0] at hy
        cases hy
        walk_at "go"
        refine ⟨wide_div (b := 60) (by decide) (by decide) (by decide) (by decide), ?_⟩
        walk_at "b"
        rw [show n0 / 2 ^ i / 2 = n0 / 2 ^ (i + 1) by rw [Int.pow_succ, Int.ediv_ediv_of_nonneg (Int.le_of_lt (pow_pos' i))]]
        exact qt _ (Same.refl _)
      · intro H8 s9 hD8
        refine ⟨D3, _, rfl, s8.trans s9, (ne_of_none hf7 nD3).symm, hD8, s9 _ _ hf7⟩
end
end My

namespace My
open PySem PySem.Spec PyProof.Rows L2 Pre
theorem Fl39.snoc {ns : List Int} {x : Int} (h : Fl39 ns) (h0 : 0 ≤ x) (h1 : x < 2 ^ 39) : Fl39 (ns ++ [x]) := fun n hn => by
  rcases List.mem_append.mp hn with hn | hn
  · exact h n hn
  · rw [List.mem_singleton.mp hn]; exact ⟨h0, h1⟩
theorem set_mem {ns : List Int} {i : Nat} {x n : Int} (h : n ∈ ns.set i x) : n ∈ ns ∨ n = x := by
  rcases List.mem_or_eq_of_mem_set h with h | h
  · exact .inl h
  · exact .inr h
theorem ix_ints {l : List Int} {k : Nat} (h : k < l.length) : ixN (l.map V.int).length (k : Int) = some k := by
  rw [List.length_map]
  unfold ixN
  rw [if_pos (by omega), Int.toNat_natCast, if_pos (by omega)]
local macro_rules | `(tactic| walk_at "go") => `(tactic| repeat (first | (with_reducible first | refine iteT ?_ | refine iteF ?_ | refine iteNtt ?_ | refine iteNff ?_ | refine iteET (by omega) ?_ | refine iteEF (by omega) ?_ | refine iteENT (by omega) ?_ | refine iteENF (by omega) ?_ | refine iteDT (by omega) ?_ | refine iteDF (by omega) ?_ | refine iteNT (by omega) ?_ | refine iteNF (by omega) ?_) | refine ⟨_, rfl, ?_⟩ | refine ⟨_, _, rfl, rfl, ?_⟩ | refine ⟨_, _, rfl, ?_⟩ | refine ⟨rfl, ?_⟩ | refine .inl ⟨_, rfl, ?_⟩ | refine .inr ⟨_, rfl, ?_⟩))
local macro_rules | `(tactic| walk_at "b") => `(tactic| try dsimp (config := { proj := false, iota := false, eta := false, zeta := false }) only)
section
variable {P : Program} {w : World} {K : PySem.W.Frag} {mg : Str → Option Value} {base : Heap}
def sp_law_folds : Sp := fun vs H Q _ => ∃ (g : Addr) (most n : Nat), vs = [.ref g, .int most] ∧ GenAt H g n ∧ n ≤ 10 ^ 6 ∧ most ≤ 20 ∧ ∀ H' p ns, But g H H' → GenAt H' g (n + 100000) → H p = none → H' p = some (.lst (ns.map V.int)) → ns.length ≤ most → Fl39 ns → Q (.ref p) H'
theorem G_law_folds (T : Top K mg) : FnOk P w K mg base CX0 3 T.f_law_folds T.fd_law_folds ["_law_generator_here", "_law_most"] sp_law_folds := by
  refine T.F_law_folds.ok sc_law_folds (fun vs H Q E h => by obtain ⟨g, most, n, rfl, _⟩ := h; rfl) (fun cdv A outer s H vs Q E hr h => ?_)
  obtain ⟨g, most, n, rfl, hG, hn, hm, q⟩ := h
  refine ⟨_, PSs.nox (pss_cons (ps_par (by rfl) sc_law_folds.nd (i := 3) (j := 4) rfl rfl (by decide) rfl rfl (pa_cons (pe_lst pa_nil) (pa_cons (pe_call (G_law_random T) (hr.mono (by decide)) (by rfl) T.g_law_random T.F_law_random.kp T.b_law_random .nil pass0 (pa_cons (pv 0) (pa_cons pe_int pa_nil))) pa_nil)) (by rfl))
  (pss_cons (ps_for PassesOwn.never rfl (pi_range1 (by rfl) T.n_range (pa_cons (pe_call (G_law_random T) (hr.mono (by decide)) (by rfl) T.g_law_random T.F_law_random.kp T.b_law_random .nil pass0 (pa_cons (pv 0) (pa_cons (pe_op op_add (pv 1) pe_int) pa_nil))) pa_nil)) (pg_name (i := 2) sc_law_folds.nd rfl (by first | exact Or.inl rfl | exact Or.inr rfl))
    (pss_cons (ps_par (by rfl) sc_law_folds.nd (i := 6) (j := 7) rfl rfl (by decide) rfl rfl (pa_cons (pe_call (G_law_random T) (hr.mono (by decide)) (by rfl) T.g_law_random T.F_law_random.kp T.b_law_random .nil pass0 (pa_cons (pv 0) (pa_cons pe_int pa_nil))) (pa_cons (pe_call (G_law_random T) (hr.mono (by decide)) (by rfl) T.g_law_random T.F_law_random.kp T.b_law_random .nil pass0 (pa_cons (pv 0) (pa_cons pe_int pa_nil))) pa_nil)) (by rfl))
  (pss_cons (ps_set (i := 5) sc_law_folds.nd rfl (by first | exact Or.inl rfl | exact Or.inr rfl) (pe_op op_sub (pe_op op_add (pe_op op_shl pe_int (pe_call (G_law_random T) (hr.mono (by decide)) (by rfl) T.g_law_random T.F_law_random.kp T.b_law_random .nil pass0 (pa_cons (pv 0) (pa_cons pe_int pa_nil)))) (pe_call (G_law_random T) (hr.mono (by decide)) (by rfl) T.g_law_random T.F_law_random.kp T.b_law_random .nil pass0 (pa_cons (pv 0) (pa_cons pe_int pa_nil)))) pe_int))
  (pss_one (ps_expr (pe_bm PySem.F.plainAttrs_list PySem.F.slot_list_append PySem.F.type_list_append mt_append (pv 3) (pa_cons (pe_ix (k_ixL K rfl) (pe_lst (pa_cons (pv 6) (pa_cons (pv 6) (pa_cons (pe_call (G_law_random T) (hr.mono (by decide)) (by rfl) T.g_law_random T.F_law_random.kp T.b_law_random .nil pass0 (pa_cons (pv 0) (pa_cons (pe_op op_shl pe_int (pv 7)) pa_nil))) (pa_cons (pv 5) (pa_cons (pe_op op_mul (pv 6) (pe_callTy call_int1 (by rfl) T.n_int (by decide +kernel) (pa_cons (pe_cmpR op_lt (pv 7) pe_int (nomark _)) pa_nil))) pa_nil)))))) (pv 4) (fun _ _ => rfl)) pa_nil)))))))
  (pss_one (ps_ret (pv 3))))), ?_⟩
  refine ⟨Nat.zero_le _, fun f nf => ?_⟩
  obtain ⟨H1, e1, s1, h1⟩ := fresh (.lst []) nf
  rw [e1]
  have nfg : f ≠ g := hG.ne nf
  walk_at "go"
  refine ⟨g, _, _, rfl, hG.same s1, by omega, by decide, small_2900 (by decide), fun kd H2 k0 k1 g2 b2 => ?_⟩
  walk_at "go"
  refine ⟨g, _, _, rfl, g2, by omega, by omega, small_2900 (by omega), fun r H3 r0 r1 g3 b3 => ?_⟩
  walk_at "go"
  refine ⟨by omega, by omega, ?_⟩
  have h3 := b3 _ _ nfg (b2 _ _ nfg h1)
  refine for_range (lo := 0) (n := r.toNat) (fun i σ H4 => ∃ (ns : List Int) (v2 v5 v6 v7 : Option V), σ = [some (.ref g), some (.int most), v2, some (.ref f), some (.int kd), v5, v6, v7] ∧ But g H H4 ∧ GenAt H4 g (n + 200 + 500 * i) ∧ H4 f = some (.lst (ns.map V.int)) ∧ ns.length = i ∧ Fl39 ns) ⟨[], none, none, none, none, rfl, ((But.of s1).trans b2).trans b3, g3.mono (by omega), h3, rfl, (fun _ h => nomatch h)⟩ ?_ ?_
  · rintro i σ H4 hi ⟨ns, v2, v5, v6, v7, rfl, b4, g4, h4, hl, hF⟩
    walk_at "go"
    refine ⟨g, _, _, rfl, g4, by omega, by decide, small_2900 (by decide), fun sm H5 sm0 sm1 g5 b5 => ?_⟩
    walk_at "go"
    refine ⟨g, _, _, rfl, g5, by omega, by decide, small_2900 (by decide), fun dp H6 dp0 dp1 g6 b6 => ?_⟩
    obtain ⟨deep, rfl⟩ : ∃ d : Nat, dp = (d : Int) := ⟨dp.toNat, by omega⟩
    walk_at "go"
    refine ⟨g, _, _, rfl, g6, by omega, by decide, small_2900 (by decide), fun x1 H7 x10 x11 g7 b7 => ?_⟩
    obtain ⟨x1, rfl⟩ : ∃ d : Nat, x1 = (d : Int) := ⟨x1.toNat, by omega⟩
    walk_at "go"
    refine ⟨⟨by omega, by omega, by decide⟩, ?_⟩
    walk_at "b"
    rw [Int.one_mul, Int.toNat_natCast]
    have hp1 := pow_pos' x1
    have hp2 : (2 : Int) ^ x1 ≤ 2 ^ 37 := pow2_le (by omega)
    walk_at "go"
    refine ⟨g, _, _, rfl, g7, by omega, by decide, small_2900 (by decide), fun x2 H8 x20 x21 g8 b8 => ?_⟩
    have b48 := ((b5.trans b6).trans b7).trans b8
    have h8 := b48 _ _ nfg h4
    walk_at "go"
    refine ⟨.inl ⟨rfl, _, .inl (.inl h8)⟩, ?_⟩
    walk_at "go"
    refine ⟨⟨by omega, by omega, by decide⟩, ?_⟩
    walk_at "b"
    rw [Int.one_mul, Int.toNat_natCast]
    have hd1 := pow_pos' deep
    have hd2 : (2 : Int) ^ deep ≤ 2 ^ 11 := pow2_le (by omega)
    walk_at "go"
    refine ⟨g, _, _, rfl, g8, by omega, hd1, small_2900 (by omega), fun x3 H9 x30 x31 g9 b9 => ?_⟩
    walk_at "go"
    refine ⟨.inl ⟨by omega, by omega⟩, (show 5 ≤ sizeLine by decide), fun c nc => ?_⟩
    have hdec : ∃ z : Int, (if decide ((deep : Int) < 3) = true then (1 : Int) else 0) = z ∧ 0 ≤ z ∧ z ≤ 1 := by
      by_cases h : (deep : Int) < 3
      · exact ⟨1, by rw [decide_eq_true h]; rfl, by decide, by decide⟩
      · exact ⟨0, by rw [decide_eq_false h]; rfl, by decide, by decide⟩
    obtain ⟨z, ez, z0, z1⟩ := hdec
    walk_at "b"
    rw [ez]
    have hz9 : 0 ≤ sm * z ∧ sm * z ≤ 9 := by
      have : z = 0 ∨ z = 1 := by omega
      rcases this with rfl | rfl <;> omega
    generalize sm * z = smz at hz9
    obtain ⟨H10, e10, s10, h10⟩ := fresh (.lst ([sm, sm, x3, 2 ^ x1 + x2 - 1, smz].map V.int)) nc
    have e10' : upd H9 c (.lst [V.int sm, V.int sm, V.int x3, V.int (2 ^ x1 + x2 - 1), V.int smz]) = H10 := e10
    rw [e10']
    obtain ⟨y, hy, y0, y1⟩ : ∃ y : Int, atI ([sm, sm, x3, 2 ^ x1 + x2 - 1, smz].map V.int) kd = some (.int y) ∧ 0 ≤ y ∧ y < 2 ^ 39 := by
      have : kd = 0 ∨ kd = 1 ∨ kd = 2 ∨ kd = 3 ∨ kd = 4 := by omega
      rcases this with rfl | rfl | rfl | rfl | rfl
      · exact ⟨_, rfl, by omega, by omega⟩
      · exact ⟨_, rfl, by omega, by omega⟩
      · exact ⟨_, rfl, by omega, by omega⟩
      · exact ⟨_, rfl, by omega, by omega⟩
      · exact ⟨_, rfl, by omega, by omega⟩
    walk_at "go"
    refine ⟨c, _, _, _, rfl, rfl, .inl (.inl h10), hy, ?_⟩
    have h10f := s10 _ _ (b9 _ _ nfg h8)
    refine ⟨f, _, _, rfl, rfl, h10f, by rw [List.length_map]; exact small1000 (by omega), ?_⟩
    refine ⟨ns ++ [y], _, _, _, _, rfl, ?_, ?_, ?_, by rw [List.length_append, hl]; rfl, hF.snoc y0 y1⟩
    · intro b u nb hb
      rw [upd_ne (ne_of_none hb nf)]
      exact s10 _ _ (b9 _ _ nb (b48 _ _ nb (b4 _ _ nb hb)))
    · obtain ⟨a1, a2, a3, e, rr⟩ := g9.same s10
      exact ⟨a1, a2, a3, by rw [upd_ne nfg.symm]; exact e, by omega⟩
    · rw [upd_same, List.map_append]
      rfl
  · rintro σ H4 ⟨ns, v2, v5, v6, v7, rfl, b4, g4, h4, hl, hF⟩
    walk_at "go"
    exact q _ f ns b4 (g4.mono (by omega)) nf h4 (by omega) hF
def sp_law_other (K : PySem.W.Frag) : Sp := fun vs H Q _ => ∃ (g a : Addr) (xs : List Int) (n : Nat), vs = [.ref g, .ref a] ∧ GenAt H g n ∧ n ≤ 10 ^ 6 ∧ a ≠ g ∧ H a = some (.lst (xs.map V.int)) ∧ Fl39 xs ∧ xs.length ≤ 20 ∧ ∀ H' p ns, But g H H' → GenAt H' g (n + 1000) → H p = none → H' p = some (.lst (ns.map V.int)) → ns.length ≤ 30 → Folds ns → Q (.ref p) H'
theorem G_law_other (T : Top K mg) : FnOk P w K mg base CX0 3 T.f_law_other T.fd_law_other ["_law_generator_here", "_law_folds_here"] (sp_law_other K) := by
  refine T.F_law_other.ok sc_law_other (fun vs H Q E h => by obtain ⟨g, a, xs, n, rfl, _⟩ := h; rfl) (fun cdv A outer s H vs Q E hr h => ?_)
  obtain ⟨g, a, xs, n, rfl, hG, hn, nag, hA, hF, hl, q⟩ := h
  refine ⟨_, PSs.nox (pss_cons (ps_par (by rfl) sc_law_other.nd (i := 3) (j := 4) rfl rfl (by decide) rfl rfl (pa_cons (pe_callTy (k_listOf K rfl) (by rfl) T.n_list (by decide +kernel) (pa_cons (pv 1) pa_nil)) (pa_cons (pe_call (G_law_random T) (hr.mono (by decide)) (by rfl) T.g_law_random T.F_law_random.kp T.b_law_random .nil pass0 (pa_cons (pv 0) (pa_cons pe_int pa_nil))) pa_nil)) (by rfl))
  (pss_cons (ps_if (PW.pt (pw_or (pt_cmpR op_eq (pv 4) pe_int (nomark _)) (pw_or1 (pt_cmpR (k_eqD K rfl hr.units) (pv 1) (pe_lst pa_nil) (nomark _)))))
    (pss_one (ps_ret (pe_op op_cat (pe_revL (pv 3)) (pe_op op_rep (pe_lst (pa_cons (pe_call (G_law_random T) (hr.mono (by decide)) (by rfl) T.g_law_random T.F_law_random.kp T.b_law_random .nil pass0 (pa_cons (pv 0) (pa_cons pe_int pa_nil))) pa_nil)) (pe_callTy call_int1 (by rfl) T.n_int (by decide +kernel) (pa_cons (pe_cmpR (k_eqD K rfl hr.units) (pv 1) (pe_lst pa_nil) (nomark _)) pa_nil))))))
    pss_nil)
  (pss_cons (ps_par (by rfl) sc_law_other.nd (i := 5) (j := 6) rfl rfl (by decide) rfl rfl (pa_cons (pe_call (G_law_random T) (hr.mono (by decide)) (by rfl) T.g_law_random T.F_law_random.kp T.b_law_random .nil pass0 (pa_cons (pv 0) (pa_cons (pe_callB (k_len K rfl) (by rfl) T.n_len (by decide +kernel) (pa_cons (pv 1) pa_nil)) pa_nil))) (pa_cons (pe_call (G_law_random T) (hr.mono (by decide)) (by rfl) T.g_law_random T.F_law_random.kp T.b_law_random .nil pass0 (pa_cons (pv 0) (pa_cons (pe_callB (k_len K rfl) (by rfl) T.n_len (by decide +kernel) (pa_cons (pv 1) pa_nil)) pa_nil))) pa_nil)) (by rfl))
  (pss_cons (ps_set (i := 2) sc_law_other.nd rfl (by first | exact Or.inl rfl | exact Or.inr rfl) (pe_op op_shl pe_int (pe_call (G_law_random T) (hr.mono (by decide)) (by rfl) T.g_law_random T.F_law_random.kp T.b_law_random .nil pass0 (pa_cons (pv 0) (pa_cons pe_int pa_nil)))))
  (pss_cons (ps_if (pt_cmpR op_eq (pv 4) pe_int (nomark _))
    (pss_one (ps_asg (pe_op op_add (pe_ix (k_ixL K rfl) (pv 3) (pv 5) (fun _ _ => rfl)) (pv 2)) (pg_sub (pv 3) (pv 5) set_list)))
    (pss_one (ps_if (pt_cmpR op_eq (pv 4) pe_int (nomark _))
    (pss_one (ps_set (i := 3) sc_law_other.nd rfl (by first | exact Or.inl rfl | exact Or.inr rfl) (pe_op op_cat (pe_op op_cat (pe_slice (k_slL K rfl) (pv 3) po_none (po_some (pv 5))) (pe_lst (pa_cons (pe_op op_sub (pv 2) pe_int) pa_nil))) (pe_slice (k_slL K rfl) (pv 3) (po_some (pv 5)) po_none))))
    (pss_one (ps_if (PW.pt (pw_and (pt_cmpR op_eq (pe_op op_mod (pe_op op_fdivW (pe_ix (k_ixL K rfl) (pv 3) (pv 5) (fun _ _ => rfl)) (pv 2)) pe_int) pe_int (nomark _)) (pw_and1 (pt_cmpR op_eq (pe_op op_mod (pe_op op_fdivW (pe_ix (k_ixL K rfl) (pv 3) (pv 6) (fun _ _ => rfl)) (pv 2)) pe_int) pe_int (nomark _)))))
    (pss_one (ps_asg (pe_tup (pa_cons (pe_op op_sub (pe_ix (k_ixL K rfl) (pv 3) (pv 5) (fun _ _ => rfl)) (pv 2)) (pa_cons (pe_op op_add (pe_ix (k_ixL K rfl) (pv 3) (pv 6) (fun _ _ => rfl)) (pv 2)) pa_nil))) (k_pgT K rfl (by rfl) (pgs_cons (pg_sub (pv 3) (pv 5) set_list) (pgs_cons (pg_sub (pv 3) (pv 6) set_list) pgs_nil)))))
    pss_nil)))))
  (pss_one (ps_ret (pv 3)))))))), ?_⟩
  walk_at "go"
  refine ⟨a, _, rfl, .inl (.inl (.inl hA)), fun o no => ?_⟩
  obtain ⟨H1, e1, s1, h1⟩ := fresh (.lst (xs.map V.int)) no
  rw [e1]
  have nog : o ≠ g := hG.ne no
  walk_at "go"
  refine ⟨g, _, _, rfl, hG.same s1, by omega, by decide, small_2900 (by decide), fun way H2 w0 w1 g2 b2 => ?_⟩
  have hA2 := b2 _ _ nag (s1 _ _ hA)
  have h2 := b2 _ _ nog h1
  have b02 := (But.of s1).trans b2
  have hFf := hF.folds
  refine ⟨_, _, rfl, ?_⟩
  have gx := g2.mono (show n + 100 ≤ n + 100 by omega)
  by_cases cw : way = 0
  · have bx := b02
    have hox := h2
    have hax := hA2
    refine ⟨_, rfl, rfl, _, rfl, ?_⟩
    refine iteET cw ?_
    walk_at "go"
    refine ⟨o, _, rfl, .inl (.inl hox), fun rv nrv => ?_⟩
    rw [← List.map_reverse]
    obtain ⟨H4, e4, s4, h4⟩ := fresh (.lst (xs.reverse.map V.int)) nrv
    rw [e4]
    have nrg : rv ≠ g := gx.ne nrv
    walk_at "go"
    refine ⟨g, _, _, rfl, gx.same s4, by omega, by decide, small_2900 (by decide), fun r3 H5 r30 r31 g5 b5 => ?_⟩
    refine ⟨(show 1 ≤ sizeLine by decide), fun c nc => ?_⟩
    obtain ⟨H6, e6, s6, h6⟩ := fresh (.lst ([r3].map V.int)) nc
    have e6' : upd H5 c (.lst [V.int r3]) = H6 := e6
    rw [e6']
    walk_at "go"
    refine ⟨Nat.zero_le _, fun e ne => ?_⟩
    obtain ⟨H7, e7, s7, h7⟩ := fresh (.lst (([] : List Int).map V.int)) ne
    have e7' : upd H6 e (.lst []) = H7 := e7
    rw [e7']
    have hA7 := s7 _ _ (s6 _ _ (b5 _ _ nag (s4 _ _ hax)))
    refine eqD_lst (ns := xs) (ms := []) (.inl (.inl hA7)) (.inl (.inl h7)) ?_
    have hrv := s7 _ _ (s6 _ _ (b5 _ _ nrg h4))
    have h6c := s7 _ _ h6
    have b07 := (((bx.same s4).trans b5).same s6).same s7
    have g7 := (g5.same s6).same s7
    have nHrv : H rv = none := bx.free nrg nrv
    obtain ⟨zz, ez, hz⟩ : ∃ zz : Nat, (if decide (xs = []) = true then (1 : Int) else 0) = (zz : Int) ∧ zz ≤ 1 := by
      by_cases h : xs = []
      · exact ⟨1, by rw [decide_eq_true h]; rfl, by decide⟩
      · exact ⟨0, by rw [decide_eq_false h]; rfl, by decide⟩
    refine .inr ⟨_, rfl, ?_⟩
    rw [ez]
    refine ⟨c, _, _, rfl, rfl, h6c, by omega, by omega, by rw [Int.toNat_natCast]; show 1 * zz ≤ _; rw [sizeLine_eq]; omega, fun c2 nc2 => ?_⟩
    rw [Int.toNat_natCast, rep_ints]
    obtain ⟨H8, e8, s8, h8⟩ := fresh (.lst (((List.replicate zz [r3]).flatten).map V.int)) nc2
    rw [e8]
    have hll : ((List.replicate zz [r3]).flatten).length ≤ 1 := by rw [rep_len]; show zz * 1 ≤ 1; omega
    refine ⟨rv, c2, _, _, rfl, rfl, s8 _ _ hrv, h8, by rw [List.length_map, List.length_map, List.length_reverse, sizeLine_eq]; omega, fun p np => ?_⟩
    rw [← List.map_append]
    refine q _ p _ ((b07.same s8).same (same_upd np)) (((g7.same s8).same (same_upd np)).mono (by omega)) ?_ upd_same (by rw [List.length_append, List.length_reverse]; omega) ?_
    · exact (b07.same s8).free ((g7.same s8).ne np) np
    · intro k hk
      rcases List.mem_append.mp hk with hk | hk
      · exact hFf k (List.mem_reverse.mp hk)
      · have := rep_mem hk
        rw [List.mem_singleton.mp this]
        exact ⟨by omega, by omega⟩
  · refine ⟨_, rfl, rfl, _, rfl, ?_⟩
    refine iteEF cw ?_
    walk_at "go"
    refine ⟨Nat.zero_le _, fun e0 ne0 => ?_⟩
    obtain ⟨Hx, ee0, se0, he0⟩ := fresh (.lst (([] : List Int).map V.int)) ne0
    have ee0' : upd H2 e0 (.lst []) = Hx := ee0
    rw [ee0']
    have hax := se0 _ _ hA2
    have hox := se0 _ _ h2
    have bx := b02.same se0
    replace gx := gx.same se0
    refine eqD_lst (ns := xs) (ms := []) (.inl (.inl hax)) (.inl (.inl he0)) ?_
    refine ⟨_, rfl, ?_⟩
    by_cases cx : xs = []
    · refine iteDT cx ?_
      walk_at "go"
      refine ⟨o, _, rfl, .inl (.inl hox), fun rv nrv => ?_⟩
      rw [← List.map_reverse]
      obtain ⟨H4, e4, s4, h4⟩ := fresh (.lst (xs.reverse.map V.int)) nrv
      rw [e4]
      have nrg : rv ≠ g := gx.ne nrv
      walk_at "go"
      refine ⟨g, _, _, rfl, gx.same s4, by omega, by decide, small_2900 (by decide), fun r3 H5 r30 r31 g5 b5 => ?_⟩
      refine ⟨(show 1 ≤ sizeLine by decide), fun c nc => ?_⟩
      obtain ⟨H6, e6, s6, h6⟩ := fresh (.lst ([r3].map V.int)) nc
      have e6' : upd H5 c (.lst [V.int r3]) = H6 := e6
      rw [e6']
      walk_at "go"
      refine ⟨Nat.zero_le _, fun e ne => ?_⟩
      obtain ⟨H7, e7, s7, h7⟩ := fresh (.lst (([] : List Int).map V.int)) ne
      have e7' : upd H6 e (.lst []) = H7 := e7
      rw [e7']
      have hA7 := s7 _ _ (s6 _ _ (b5 _ _ nag (s4 _ _ hax)))
      refine eqD_lst (ns := xs) (ms := []) (.inl (.inl hA7)) (.inl (.inl h7)) ?_
      have hrv := s7 _ _ (s6 _ _ (b5 _ _ nrg h4))
      have h6c := s7 _ _ h6
      have b07 := (((bx.same s4).trans b5).same s6).same s7
      have g7 := (g5.same s6).same s7
      have nHrv : H rv = none := bx.free nrg nrv
      obtain ⟨zz, ez, hz⟩ : ∃ zz : Nat, (if decide (xs = []) = true then (1 : Int) else 0) = (zz : Int) ∧ zz ≤ 1 := by
        by_cases h : xs = []
        · exact ⟨1, by rw [decide_eq_true h]; rfl, by decide⟩
        · exact ⟨0, by rw [decide_eq_false h]; rfl, by decide⟩
      refine .inr ⟨_, rfl, ?_⟩
      rw [ez]
      refine ⟨c, _, _, rfl, rfl, h6c, by omega, by omega, by rw [Int.toNat_natCast]; show 1 * zz ≤ _; rw [sizeLine_eq]; omega, fun c2 nc2 => ?_⟩
      rw [Int.toNat_natCast, rep_ints]
      obtain ⟨H8, e8, s8, h8⟩ := fresh (.lst (((List.replicate zz [r3]).flatten).map V.int)) nc2
      rw [e8]
      have hll : ((List.replicate zz [r3]).flatten).length ≤ 1 := by rw [rep_len]; show zz * 1 ≤ 1; omega
      refine ⟨rv, c2, _, _, rfl, rfl, s8 _ _ hrv, h8, by rw [List.length_map, List.length_map, List.length_reverse, sizeLine_eq]; omega, fun p np => ?_⟩
      rw [← List.map_append]
      refine q _ p _ ((b07.same s8).same (same_upd np)) (((g7.same s8).same (same_upd np)).mono (by omega)) ?_ upd_same (by rw [List.length_append, List.length_reverse]; omega) ?_
      · exact (b07.same s8).free ((g7.same s8).ne np) np
      · intro k hk
        rcases List.mem_append.mp hk with hk | hk
        · exact hFf k (List.mem_reverse.mp hk)
        · have := rep_mem hk
          rw [List.mem_singleton.mp this]
          exact ⟨by omega, by omega⟩
    · refine iteDF cx ?_
      have hpos : 0 < xs.length := List.length_pos_iff.mpr cx
      walk_at "go"
      refine ⟨a, _, rfl, .inl (.inl (.inl hax)), ?_⟩
      rw [List.length_map]
      refine ⟨g, _, _, rfl, gx, by omega, by omega, small_2900 (by omega), fun at_ H4 a0 a1 g4 b4 => ?_⟩
      obtain ⟨at_, rfl⟩ : ∃ d : Nat, at_ = (d : Int) := ⟨at_.toNat, by omega⟩
      walk_at "go"
      refine ⟨a, _, rfl, .inl (.inl (.inl (b4 _ _ nag hax))), ?_⟩
      rw [List.length_map]
      refine ⟨g, _, _, rfl, g4, by omega, by omega, small_2900 (by omega), fun far H5 f0 f1 g5 b5 => ?_⟩
      obtain ⟨far, rfl⟩ : ∃ d : Nat, far = (d : Int) := ⟨far.toNat, by omega⟩
      refine ⟨_, _, rfl, ?_⟩
      walk_at "go"
      refine ⟨g, _, _, rfl, g5, by omega, by decide, small_2900 (by decide), fun bt H6 bt0 bt1 g6 b6 => ?_⟩
      obtain ⟨bt, rfl⟩ : ∃ d : Nat, bt = (d : Int) := ⟨bt.toNat, by omega⟩
      walk_at "go"
      refine ⟨⟨by omega, by omega, by decide⟩, ?_⟩
      walk_at "b"
      rw [Int.one_mul, Int.toNat_natCast]
      have hp1 := pow_pos' bt
      have hp2 : (2 : Int) ^ bt ≤ 2 ^ 4 := pow2_le (by omega)
      generalize (2 : Int) ^ bt = bit at *
      have bx6 := ((bx.trans b4).trans b5).trans b6
      have ho6 := b6 _ _ nog (b5 _ _ nog (b4 _ _ nog hox))
      have nHo : H o = none := no
      have hat : ∀ {k : Nat}, k < xs.length → atI (xs.map V.int) (k : Int) = some (.int (xs.getD k 0)) := fun h => at_ints h
      have hmem : ∀ {k : Nat}, k < xs.length → xs.getD k 0 ∈ xs := fun {k} h => by
        rw [List.getD_eq_getElem?_getD, List.getElem?_eq_getElem h]
        exact List.getElem_mem h
      have hixs : ∀ {k : Nat} {l : List Int}, k < l.length → ixN (l.map V.int).length (k : Int) = some k := fun {k l} h => ix_ints h
      have bfin : ∀ {Hy : Hp} {u : HO}, But g H6 Hy → But g H (upd Hy o u) := fun {Hy u} by_ b v nb hb => by
        rw [upd_ne (ne_of_none hb nHo)]
        exact by_ _ _ nb (bx6 _ _ nb hb)
      have gfin : ∀ {Hy : Hp} {u : HO} {m : Nat}, GenAt Hy g m → GenAt (upd Hy o u) g m := fun {Hy u m} gy => by
        obtain ⟨a1, a2, a3, e, rr⟩ := gy
        exact ⟨a1, a2, a3, by rw [upd_ne nog.symm]; exact e, rr⟩
      have hFset : ∀ {ns : List Int} {k : Nat} {x : Int}, Folds ns → 0 ≤ x → x < 2 ^ 40 → Folds (ns.set k x) := fun {ns k x} h x0 x1 n hn => by
        rcases set_mem hn with hn | rfl
        · exact h n hn
        · exact ⟨x0, x1⟩
      refine ⟨_, rfl, rfl, _, rfl, ?_⟩
      by_cases c1 : way = 1
      · refine iteET c1 ?_
        have hx := hF _ (hmem (show at_ < xs.length by omega))
        walk_at "go"
        refine ⟨o, _, _, _, rfl, rfl, .inl (.inl ho6), hat (by omega), ?_⟩
        walk_at "go"
        refine ⟨o, _, _, at_, rfl, rfl, ho6, hixs (by omega), ?_⟩
        walk_at "go"
        refine q _ o (xs.set at_ (xs.getD at_ 0 + bit)) (bfin But.refl) ((gfin g6).mono (by omega)) nHo ?_ (by rw [List.length_set]; omega) (hFset hFf (by omega) (by omega))
        rw [upd_same, List.map_set]
      · refine iteEF c1 ?_
        refine ⟨_, rfl, rfl, _, rfl, ?_⟩
        by_cases c2 : way = 2
        · refine iteET c2 ?_
          walk_at "go"
          refine ⟨o, _, rfl, .inl (.inl ho6), fun p1 np1 => ?_⟩
          rw [cut_take, ← List.map_take]
          obtain ⟨H7, e7, s7, h7⟩ := fresh (.lst ((xs.take at_).map V.int)) np1
          rw [e7]
          walk_at "go"
          refine ⟨(show 1 ≤ sizeLine by decide), fun p2 np2 => ?_⟩
          obtain ⟨H8, e8, s8, h8⟩ := fresh (.lst ([bit - 1].map V.int)) np2
          have e8' : upd H7 p2 (.lst [V.int (bit - 1)]) = H8 := e8
          walk_at "b"
          rw [e8']
          refine ⟨p1, p2, _, _, rfl, rfl, s8 _ _ h7, h8, by rw [List.length_map, List.length_map, List.length_take, sizeLine_eq]; show _ + 1 ≤ _; omega, fun p3 np3 => ?_⟩
          rw [← List.map_append]
          obtain ⟨H9, e9, s9, h9⟩ := fresh (.lst ((xs.take at_ ++ [bit - 1]).map V.int)) np3
          rw [e9]
          walk_at "go"
          refine ⟨o, _, rfl, .inl (.inl (s9 _ _ (s8 _ _ (s7 _ _ ho6)))), fun p4 np4 => ?_⟩
          rw [cut_drop, ← List.map_drop]
          obtain ⟨H10, e10, s10, h10⟩ := fresh (.lst ((xs.drop at_).map V.int)) np4
          rw [e10]
          refine ⟨p3, p4, _, _, rfl, rfl, s10 _ _ h9, h10, by rw [List.length_map, List.length_map, List.length_append, List.length_take, List.length_drop, sizeLine_eq]; show _ + 1 + _ ≤ _; omega, fun p5 np5 => ?_⟩
          rw [← List.map_append]
          obtain ⟨H11, e11, s11, h11⟩ := fresh (.lst ((xs.take at_ ++ [bit - 1] ++ xs.drop at_).map V.int)) np5
          rw [e11]
          have s611 := (((s7.trans s8).trans s9).trans s10)
          walk_at "go"
          refine q _ p5 _ ((bx6.same s611).same s11) (((g6.same s611).same s11).mono (by omega)) ?_ h11 ?_ ?_
          · exact (bx6.same s611).free ((g6.same s611).ne np5) np5
          · rw [List.length_append, List.length_append, List.length_take, List.length_drop]
            show _ + 1 + _ ≤ _
            omega
          · intro k hk
            rcases List.mem_append.mp hk with hk | hk
            · rcases List.mem_append.mp hk with hk | hk
              · exact hFf k (List.mem_of_mem_take hk)
              · rw [List.mem_singleton.mp hk]
                exact ⟨by omega, by omega⟩
            · exact hFf k (List.mem_of_mem_drop hk)
        · refine iteEF c2 ?_
          have hx := hF _ (hmem (show at_ < xs.length by omega))
          have hy := hF _ (hmem (show far < xs.length by omega))
          have hdv : ∀ x : Int, CDivW x bit := fun x => wide_div (b := 60) hp1 (by omega) (by decide) (by decide)
          have done : Q (.ref o) H6 := q _ o xs bx6 (g6.mono (by omega)) nHo ho6 (by omega) hFf
          walk_at "go"
          refine ⟨o, _, _, _, rfl, rfl, .inl (.inl ho6), hat (by omega), ?_⟩
          walk_at "go"
          refine ⟨hdv _, ?_⟩
          walk_at "go"
          refine ⟨(show (0 : Int) < 2 by decide), ?_⟩
          refine ⟨rfl, _, rfl, ?_⟩
          walk_at "b"
          by_cases d1 : xs.getD at_ 0 / bit % 2 = 1
          · refine iteET d1 ?_
            walk_at "go"
            refine ⟨o, _, _, _, rfl, rfl, .inl (.inl ho6), hat (by omega), ?_⟩
            walk_at "go"
            refine ⟨hdv _, ?_⟩
            walk_at "go"
            refine ⟨(show (0 : Int) < 2 by decide), ?_⟩
            refine ⟨rfl, _, rfl, ?_⟩
            walk_at "b"
            by_cases d2 : xs.getD far 0 / bit % 2 = 0
            · refine iteET d2 ?_
              have hge : bit ≤ xs.getD at_ 0 := by
                by_cases h : bit ≤ xs.getD at_ 0
                · exact h
                · rw [Int.ediv_eq_zero_of_lt hx.1 (by omega)] at d1
                  exact absurd d1 (by decide)
              walk_at "go"
              refine ⟨o, _, _, _, rfl, rfl, .inl (.inl ho6), hat (by omega), ?_⟩
              walk_at "go"
              refine ⟨o, _, _, _, rfl, rfl, .inl (.inl ho6), hat (by omega), ?_⟩
              walk_at "go"
              refine ⟨(show 2 ≤ sizeLine by decide), fun t nt => ?_⟩
              have st := same_upd (o := .tup [V.int (xs.getD at_ 0 - bit), V.int (xs.getD far 0 + bit)]) nt
              have ht : (upd H6 t (.tup [V.int (xs.getD at_ 0 - bit), V.int (xs.getD far 0 + bit)])) t = _ := upd_same
              walk_at "b"
              generalize upd H6 t (.tup [V.int (xs.getD at_ 0 - bit), V.int (xs.getD far 0 + bit)]) = H7 at st ht
              have ho7 := st _ _ ho6
              refine ⟨t, _, rfl, .inl (.inl ht), rfl, _, _, rfl, ?_⟩
              walk_at "go"
              refine ⟨o, _, _, at_, rfl, rfl, ho7, hixs (by omega), ?_⟩
              rw [← List.map_set]
              refine ⟨_, _, rfl, ?_⟩
              walk_at "go"
              refine ⟨o, _, _, far, rfl, rfl, upd_same, hixs (by rw [List.length_set]; omega), ?_⟩
              rw [← List.map_set, upd_upd]
              refine ⟨rfl, ?_⟩
              walk_at "go"
              refine q _ o _ (bfin (But.of st)) ((gfin (g6.same st)).mono (by omega)) nHo upd_same (by rw [List.length_set, List.length_set]; omega) (hFset (hFset hFf (by omega) (by omega)) (by omega) (by omega))
            · refine iteEF d2 ?_
              walk_at "go"
              exact done
          · refine iteEF d1 ?_
            walk_at "go"
            exact done
end
end My

namespace My
open PySem PySem.Spec PyProof.Rows L2 Pre
def unl (xs ys : List Int) : List Nat := (List.range 45).filter fun w => decide (price xs w ≠ price ys w)
theorem unl_sel (xs ys : List Int) : ((List.range 45).map fun (w : Nat) => if price xs w ≠ price ys w then some (V.int w) else none).filterMap id = ((unl xs ys).map fun (w : Nat) => (w : Int)).map V.int := by
  unfold unl
  generalize List.range 45 = L
  induction L with
  | nil => rfl
  | cons w L ih =>
    by_cases c : price xs w ≠ price ys w
    · rw [List.map_cons, if_pos c, List.filter_cons_of_pos (by simpa using c)]
      show V.int w :: _ = V.int w :: _
      rw [ih]
    · rw [List.map_cons, if_neg c, List.filterMap_cons_none rfl, List.filter_cons_of_neg (by simpa using c), ih]
theorem filter_first {f : Nat → Bool} {k n : Nat} (hk : k < n) (h : f k = true) (hl : ∀ j, j < k → f j = false) : ∃ r, (List.range n).filter f = k :: r := by
  obtain ⟨d, rfl⟩ : ∃ d, n = k + (d + 1) := ⟨n - k - 1, by omega⟩
  rw [List.range_add, List.filter_append]
  have e : (List.range k).filter f = [] := List.filter_eq_nil_iff.mpr fun j hj => by rw [hl j (List.mem_range.mp hj)]; decide
  rw [e, List.nil_append, List.range_succ_eq_map, List.map_cons, List.filter_cons_of_pos (by simpa using h)]
  exact ⟨_, rfl⟩
/-- alike at all widths, or a first unlike one that all find -/
theorem pair_ways {xs ys : List Int} (hx : Folds xs) (hy : Folds ys) :
    (unl xs ys = [] ∧ (xs.length = ys.length ∧ counts xs = counts ys) ∧ partW xs ys = none) ∨
    (∃ k r, unl xs ys = k :: r ∧ ¬ (xs.length = ys.length ∧ counts xs = counts ys) ∧ partW xs ys = some k ∧ price xs k ≠ price ys k ∧ (∀ j, j < k → price xs j = price ys j)) := by
  have ha := hb_40 hx
  have hb' := hb_40 hy
  by_cases c : AgreeTo xs ys (max (hb xs) (hb ys) + 1)
  · refine .inl ⟨?_, (same_iff hx.nn hy.nn).mpr c, ?_⟩
    · refine List.filter_eq_nil_iff.mpr fun w _ => ?_
      simp [agree_more hx.nn hy.nn c w]
    · refine List.find?_eq_none.mpr fun w _ => ?_
      simp [agree_more hx.nn hy.nn c w]
  · have hex : ∃ w, w < max (hb xs) (hb ys) + 1 ∧ price xs w ≠ price ys w := by
      by_cases h : ∃ w, w < max (hb xs) (hb ys) + 1 ∧ price xs w ≠ price ys w
      · exact h
      · refine absurd (fun w hw => ?_) c
        by_cases e : price xs w = price ys w
        · exact e
        · exact absurd ⟨w, hw, e⟩ h
    obtain ⟨w, hw, ew⟩ := hex
    obtain ⟨k, hk, hkw, hlt⟩ := least_ex (fun w => price xs w ≠ price ys w) w ew
    have hlt' : ∀ j, j < k → price xs j = price ys j := fun j hj => by
      by_cases e : price xs j = price ys j
      · exact e
      · exact absurd e (hlt j hj)
    obtain ⟨r, er⟩ := filter_first (f := fun w => decide (price xs w ≠ price ys w)) (show k < 45 by omega) (decide_eq_true hk) (fun j hj => decide_eq_false (fun z => z (hlt' j hj)))
    exact .inr ⟨k, r, er, fun z => c ((same_iff hx.nn hy.nn).mp z), find_range_some (by omega) (decide_eq_true hk) (fun j hj => decide_eq_false (fun z => z (hlt' j hj))), hk, hlt'⟩
local macro_rules | `(tactic| walk_at "go") => `(tactic| repeat (first | (with_reducible first | refine iteT ?_ | refine iteF ?_ | refine iteNtt ?_ | refine iteNff ?_ | refine iteET (by omega) ?_ | refine iteEF (by omega) ?_ | refine iteENT (by omega) ?_ | refine iteENF (by omega) ?_ | refine iteDT (by omega) ?_ | refine iteDF (by omega) ?_ | refine iteNT (by omega) ?_ | refine iteNF (by omega) ?_) | refine ⟨_, rfl, ?_⟩ | refine ⟨_, _, rfl, rfl, ?_⟩ | refine ⟨_, _, rfl, ?_⟩ | refine ⟨rfl, ?_⟩ | refine .inl ⟨_, rfl, ?_⟩ | refine .inr ⟨_, rfl, ?_⟩))
local macro_rules | `(tactic| walk_at "b") => `(tactic| try dsimp (config := { proj := false, iota := false, eta := false, zeta := false }) only)
section
variable {P : Program} {w : World} {K : PySem.W.Frag} {mg : Str → Option Value} {base : Heap}
theorem show2 : ∀ a b : Bool, PyData.showable (.list [.bool a, .bool b]) = true ∧ SeqAt.shaped (.list [.bool a, .bool b]) = true ∧ (PyData.shown (.list [.bool a, .bool b])).length ≤ sizeLine := by
  intro a b
  cases a <;> cases b <;> exact ⟨by decide +kernel, by decide +kernel, by decide +kernel⟩
def dueD : Option Nat → PyData
  | some k => .int k
  | none => .none
theorem due_dp {K : PySem.W.Frag} {H : Hp} : ∀ o : Option Nat, Dp K H (optV o) (dueD o)
  | some _ => .int _
  | none => .non
theorem due_shaped : ∀ o : Option Nat, SeqAt.shaped (dueD o) = true
  | some _ => rfl
  | none => rfl
theorem due_eqv : ∀ o : Option Nat, PyData.eqv (dueD o) (dueD o) = true
  | some k => by simp [dueD, PyData.eqv]
  | none => rfl
def sp_law_pair_right (K : PySem.W.Frag) : Sp := fun vs H Q _ => ∃ (a b : Addr) (xs ys : List Int), vs = [.ref a, .ref b] ∧ FoldsAt K H a xs ∧ FoldsAt K H b ys ∧ ∀ H', Same H H' → Q (.bl true) H'
theorem G_law_pair_right (T : Top K mg) : FnG P w K mg base CX0 5 T.f_law_pair_right T.fd_law_pair_right ["_law_one", "_law_other_here"] (sp_law_pair_right K) := by
  refine FnG.body T.F_law_pair_right sc_law_pair_right (fun vs H Q E h => by obtain ⟨a, b, xs, ys, rfl, _⟩ := h; rfl) (fun cdv A outer s H vs Q E gd hr h => ?_)
  obtain ⟨a, b, xs, ys, rfl, hA, hB, q⟩ := h
  refine ⟨_, PSs.nox (pss_cons (ps_asg (pe_tup (pa_cons (pe_call (G_law_prices T) (hr.mono (by decide)) (by rfl) T.g_law_prices T.F_law_prices.kp T.b_law_prices .nil pass0 (pa_cons (pv 0) pa_nil)) (pa_cons (pe_call (G_law_prices T) (hr.mono (by decide)) (by rfl) T.g_law_prices T.F_law_prices.kp T.b_law_prices .nil pass0 (pa_cons (pv 1) pa_nil)) pa_nil))) (k_pgT K rfl (by rfl) (pgs_cons (pg_name (i := 5) sc_law_pair_right.nd rfl (by first | exact Or.inl rfl | exact Or.inr rfl)) (pgs_cons (pg_name (i := 6) sc_law_pair_right.nd rfl (by first | exact Or.inl rfl | exact Or.inr rfl)) pgs_nil))))
  (pss_cons (ps_setLc (i := 2) (own := [("_law_width", 7)]) (g := gName 7) (by rfl) sc_law_pair_right.nd rfl rfl (sw_true rfl rfl rfl (by decide +kernel)) (pi_range1 (by rfl) T.n_range (pa_cons pe_int pa_nil)) (blkOk_by (own := [("_law_width", 7)]) (N := N_law_pair_right) (sc := defScope s_law_pair_right) (by decide +kernel)) (fun _ _ _ _ _ => (pg_name (i := 7) sc_law_pair_right.nd rfl (by first | exact Or.inl rfl | exact Or.inr rfl))) (fun _ _ _ _ _ => (pts_one (pt_cmpR op_ne (pe_ix (k_ixL K rfl) (pv 5) (pv 7) (fun _ _ => rfl)) (pe_ix (k_ixL K rfl) (pv 6) (pv 7) (fun _ _ => rfl)) (nomark _)))) (fun _ _ _ _ _ => (pv 7)))
  (pss_cons (ps_set (i := 3) sc_law_pair_right.nd rfl (by first | exact Or.inl rfl | exact Or.inr rfl) (pe_cmpR (k_eqD K rfl hr.units) (pv 2) (pe_lst pa_nil) (nomark _)))
  (pss_cons (ps_if (pt_cmpR op_ne (pe_callB (k_repr K rfl gd (hu65 hr)) (by rfl) T.n_repr (by decide +kernel) (pa_cons (pe_lst (pa_cons (pe_call (G_same_prices T) (hr.mono (by decide)) (by rfl) T.g_same_prices T.F_same_prices.kp T.b_same_prices .nil pass0 (pa_cons (pv 0) (pa_cons (pv 1) pa_nil))) (pa_cons (pe_call (G_same_prices T) (hr.mono (by decide)) (by rfl) T.g_same_prices T.F_same_prices.kp T.b_same_prices .nil pass0 (pa_cons (pv 1) (pa_cons (pv 0) pa_nil))) pa_nil))) pa_nil)) (pe_callB (k_repr K rfl gd (hu65 hr)) (by rfl) T.n_repr (by decide +kernel) (pa_cons (pe_lst (pa_cons (pv 3) (pa_cons (pv 3) pa_nil))) pa_nil)) (nomark _))
    (pss_one (ps_ret pe_bl))
    pss_nil)
  (pss_cons (ps_set (i := 4) sc_law_pair_right.nd rfl (by first | exact Or.inl rfl | exact Or.inr rfl) (pe_ifExp (pt_val (pv 3)) pe_non (pe_ix (k_ixL K rfl) (pv 2) pe_int (fun _ _ => rfl))))
  (pss_one (ps_ret (pe_and (pe_cmpR (k_eqD K rfl hr.units) (pe_call (G_parting_width T) (hr.mono (by decide)) (by rfl) T.g_parting_width T.F_parting_width.kp T.b_parting_width .nil pass0 (pa_cons (pv 0) (pa_cons (pv 1) pa_nil))) (pv 4) (nomark _)) (pe_one (pe_cmpR (k_eqD K rfl hr.units) (pe_call (G_parting_width T) (hr.mono (by decide)) (by rfl) T.g_parting_width T.F_parting_width.kp T.b_parting_width .nil pass0 (pa_cons (pv 1) (pa_cons (pv 0) pa_nil))) (pv 4) (nomark _))))))))))), ?_⟩
  walk_at "go"
  refine ⟨a, xs, rfl, hA.sq, fun H1 p1 s1 np1 h1 => ?_⟩
  walk_at "go"
  refine ⟨b, ys, rfl, s1.seq hB.sq, fun H2' p2 s2' np2 h2' => ?_⟩
  refine ⟨(show 2 ≤ sizeLine by decide), fun t nt => ?_⟩
  obtain ⟨H2, et, st, ht⟩ := fresh (.tup [V.ref p1, V.ref p2]) nt
  rw [et]
  have s2 := s2'.trans st
  have h2 := st _ _ h2'
  have h12 := s2 _ _ h1
  refine ⟨t, _, rfl, .inl (.inl ht), rfl, _, _, rfl, _, _, rfl, rfl, ?_⟩
  refine ⟨_, rfl, by decide, by decide, fun D nD => ?_⟩
  have hat : ∀ (zs : List Int) {i : Nat}, i < 45 → atI (((List.range 45).map fun (w : Nat) => price zs w).map V.int) (i : Int) = some (.int (price zs i)) := fun zs i hi => by
    refine at_of (j := i) (by omega) ?_
    rw [List.getElem?_map, List.getElem?_map, List.getElem?_range hi]
    rfl
  refine lc_selR (lo := 0) (n := 45) ((List.range 45).map fun (w : Nat) => if price xs w ≠ price ys w then some (V.int w) else none) nD (by rw [List.length_map, List.length_range]) (small1000 (by decide)) (fun x => rfl) ?_ ?_
  · intro i o H' hi ho s Qt qt
    rw [List.getElem?_map, List.getElem?_range hi] at ho
    cases ho
    dsimp only at qt
    rw [show (0 : Int) + (i : Int) = i by omega]
    walk_at "go"
    refine ⟨p1, _, _, _, rfl, rfl, .inl (.inl (s _ _ h12)), hat xs hi, ?_⟩
    walk_at "go"
    refine ⟨p2, _, _, _, rfl, rfl, .inl (.inl (s _ _ h2)), hat ys hi, ?_⟩
    refine ⟨rfl, _, rfl, ?_⟩
    by_cases c : price xs i = price ys i
    · rw [if_neg (fun z => z c)] at qt
      refine iteENF c ?_
      exact qt _ (Same.refl _)
    · rw [if_pos c] at qt
      refine iteENT c ?_
      walk_at "go"
      exact qt _ (Same.refl _)
  · intro H3 s3 hD
    rw [unl_sel] at hD
    have hA3 := hA.same ((s1.trans s2).trans s3)
    have hB3 := hB.same ((s1.trans s2).trans s3)
    walk_at "go"
    refine ⟨Nat.zero_le _, fun p5 np5 => ?_⟩
    obtain ⟨H5, e5, s5, h5⟩ := fresh (.lst (([] : List Int).map V.int)) np5
    have e5' : upd H3 p5 (.lst []) = H5 := e5
    rw [e5']
    refine eqD_lst (ns := (unl xs ys).map fun (w : Nat) => (w : Int)) (ms := []) (.inl (.inl (s5 _ _ hD))) (.inl (.inl h5)) ?_
    have hD5 := s5 _ _ hD
    obtain ⟨sm, e1, e2, e3, o, eo1, eo2, hoU⟩ : ∃ (sm : Bool), decide ((unl xs ys).map (fun (w : Nat) => (w : Int)) = []) = sm ∧ decide (xs.length = ys.length ∧ counts xs = counts ys) = sm ∧ decide (ys.length = xs.length ∧ counts ys = counts xs) = sm ∧ ∃ o : Option Nat, partW xs ys = o ∧ partW ys xs = o ∧ ((sm = true ∧ o = none) ∨ ∃ k r, sm = false ∧ o = some k ∧ unl xs ys = k :: r) := by
      have e3 : decide (ys.length = xs.length ∧ counts ys = counts xs) = decide (xs.length = ys.length ∧ counts xs = counts ys) := decide_eq_decide.mpr ⟨fun z => ⟨z.1.symm, z.2.symm⟩, fun z => ⟨z.1.symm, z.2.symm⟩⟩
      rcases pair_ways hA.2.1 hB.2.1 with ⟨u1, u2, u3⟩ | ⟨k, r, u1, u2, u3, u4, u5⟩
      · refine ⟨true, by rw [u1]; rfl, decide_eq_true u2, by rw [e3]; exact decide_eq_true u2, none, u3, ?_, .inl ⟨rfl, rfl⟩⟩
        rcases pair_ways hB.2.1 hA.2.1 with ⟨_, _, v3⟩ | ⟨k, r, _, v2, _⟩
        · exact v3
        · exact absurd ⟨u2.1.symm, u2.2.symm⟩ v2
      · refine ⟨false, by rw [u1]; rfl, decide_eq_false u2, by rw [e3]; exact decide_eq_false u2, some k, u3, ?_, .inr ⟨k, r, rfl, rfl, u1⟩⟩
        rcases pair_ways hB.2.1 hA.2.1 with ⟨_, v2, _⟩ | ⟨j, r', _, _, v3, v4, v5⟩
        · exact absurd ⟨v2.1.symm, v2.2.symm⟩ u2
        · have : j = k := by
            rcases Nat.lt_trichotomy j k with h | h | h
            · exact absurd (u5 j h).symm v4
            · exact h
            · exact absurd (v5 k h).symm u4
          rw [v3, this]
    rw [e1]
    have hA5 := hA3.same s5
    have hB5 := hB3.same s5
    walk_at "go"
    refine ⟨a, b, xs, ys, rfl, hA5, hB5, fun H6 s6 => ?_⟩
    rw [e2]
    walk_at "go"
    refine ⟨b, a, ys, xs, rfl, hB5.same s6, hA5.same s6, fun H7 s7 => ?_⟩
    rw [e3]
    refine ⟨(show 2 ≤ sizeLine by decide), fun p8 np8 => ?_⟩
    obtain ⟨H8, e8, s8, h8⟩ := fresh (.lst [V.bl sm, V.bl sm]) np8
    rw [e8]
    walk_at "go"
    refine ⟨_, .list [.bool sm, .bool sm], rfl, .lst (.inl (.inl h8)) (.cons (.bl _) (.cons (.bl _) .nil)), (show2 _ _).1, (show2 _ _).2.1, (show2 _ _).2.2, ?_⟩
    walk_at "go"
    refine ⟨(show 2 ≤ sizeLine by decide), fun p9 np9 => ?_⟩
    obtain ⟨H9, e9, s9, h9⟩ := fresh (.lst [V.bl sm, V.bl sm]) np9
    rw [e9]
    walk_at "go"
    refine ⟨_, .list [.bool sm, .bool sm], rfl, .lst (.inl (.inl h9)) (.cons (.bl _) (.cons (.bl _) .nil)), (show2 _ _).1, (show2 _ _).2.1, (show2 _ _).2.2, ?_⟩
    refine ⟨rfl, _, rfl, ?_⟩
    refine iteNF rfl ?_
    have s59 := ((s6.trans s7).trans s8).trans s9
    have hA9 := hA5.same s59
    have hB9 := hB5.same s59
    have s09 := (((s1.trans s2).trans s3).trans s5).trans s59
    have hD9 := s59 _ _ hD5
    rcases hoU with ⟨rfl, rfl⟩ | ⟨k, r, rfl, rfl, hU⟩
    · walk_at "go"
      refine ⟨a, b, xs, ys, rfl, hA9, hB9, fun H10 s10 => ?_⟩
      rw [eo1]
      walk_at "go"
      refine ⟨.none, .none, .non, .non, rfl, rfl, ?_⟩
      walk_at "go"
      refine ⟨b, a, ys, xs, rfl, hB9.same s10, hA9.same s10, fun H11 s11 => ?_⟩
      rw [eo2]
      walk_at "go"
      refine ⟨.none, .none, .non, .non, rfl, rfl, ?_⟩
      exact q _ ((s09.trans s10).trans s11)
    · rw [hU] at hD9
      walk_at "go"
      refine ⟨D, _, _, _, rfl, rfl, .inl (.inl hD9), (at_of (j := 0) (by omega) rfl), ?_⟩
      walk_at "go"
      refine ⟨a, b, xs, ys, rfl, hA9, hB9, fun H10 s10 => ?_⟩
      rw [eo1]
      walk_at "go"
      refine ⟨.int k, .int k, .int _, .int _, rfl, rfl, ?_⟩
      rw [show PyData.eqv (.int k) (.int k) = true by simp [PyData.eqv]]
      walk_at "go"
      refine ⟨b, a, ys, xs, rfl, hB9.same s10, hA9.same s10, fun H11 s11 => ?_⟩
      rw [eo2]
      walk_at "go"
      refine ⟨.int k, .int k, .int _, .int _, rfl, rfl, ?_⟩
      rw [show PyData.eqv (.int k) (.int k) = true by simp [PyData.eqv]]
      exact q _ ((s09.trans s10).trans s11)
end
end My

namespace My
open PySem PySem.Spec PyProof.Rows L2 Pre
theorem hb_3 {n : Nat} {r : List Int} (h : r ∈ belowK n 8) : hb r ≤ 3 ∧ (∀ x ∈ r, 0 ≤ x) ∧ r.length = n := by
  obtain ⟨h1, h2⟩ := (below_mem _ _ _).mp h
  have hn : ∀ x ∈ r, 0 ≤ x := fun x hx => (h2 x hx).1
  exact ⟨(hb_le 3 hn).mpr fun x hx => by have := (h2 x hx).2; omega, hn, h1⟩
theorem alike5 {n : Nat} {r q : List Int} (hr : r ∈ belowK n 8) (hq : q ∈ belowK n 8) : AgreeTo q r 5 ↔ cb q 0 = cb r 0 ∧ cb q 1 = cb r 1 ∧ cb q 2 = cb r 2 := by
  obtain ⟨a1, a2, a3⟩ := hb_3 hr
  obtain ⟨b1, b2, b3⟩ := hb_3 hq
  constructor
  · intro h
    obtain ⟨_, hf⟩ := agree_all b2 a2 (fun w hw => h w (by omega))
    have key : ∀ p, cb q p = cb r p := fun p => by
      have x := fl_step q p
      have y := fl_step r p
      rw [hf, hf] at x
      omega
    exact ⟨key 0, key 1, key 2⟩
  · rintro ⟨h0, h1, h2⟩ w _
    have hc : ∀ p, cb q p = cb r p := fun p => by
      match p with
      | 0 => exact h0
      | 1 => exact h1
      | 2 => exact h2
      | k + 3 => rw [cb_high b2 (by omega), cb_high a2 (by omega)]
    rw [price_fl, price_fl, fl_of_cb b2 a2 hc, a3, b3]
/-- alike at five widths, as lists -/
def AgreeTo5 (q r : List Int) : Prop := (List.range 5).map (fun (w : Nat) => price q w) = (List.range 5).map fun (w : Nat) => price r w
instance (q r : List Int) : Decidable (AgreeTo5 q r) := by unfold AgreeTo5; infer_instance
theorem agree5 (q r : List Int) : AgreeTo5 q r ↔ AgreeTo q r 5 := by
  constructor
  · intro h w hw
    have e := congrArg (fun l => l[w]?) h
    rw [List.getElem?_map, List.getElem?_map, List.getElem?_range hw] at e
    exact Option.some.inj e
  · intro h
    exact List.map_congr_left fun w hw => h w (List.mem_range.mp hw)
theorem like_counts {n : Nat} (hn : n ≤ 3) {r : List Int} (hr : r ∈ belowK n 8) : likeF n (counts r) = (((belowK n 8).filter fun q => decide (AgreeTo5 q r)).length : Int) := by
  obtain ⟨a1, a2, a3⟩ := hb_3 hr
  have c0 := cb_nn r 0
  have c1 := cb_nn r 1
  have c2 := cb_nn r 2
  rw [a3] at c0 c1 c2
  have h := like_all ⟨n, by omega⟩ ⟨(cb r 0).toNat, by omega⟩ ⟨(cb r 1).toNat, by omega⟩ ⟨(cb r 2).toNat, by omega⟩ (by show (cb r 0).toNat ≤ n; omega) (by show (cb r 1).toNat ≤ n; omega) (by show (cb r 2).toNat ≤ n; omega)
  dsimp only at h
  rw [Int.toNat_of_nonneg c0.1, Int.toNat_of_nonneg c1.1, Int.toNat_of_nonneg c2.1] at h
  have e : (belowK n 8).filter (fun q => decide (AgreeTo5 q r)) = (belowK n 8).filter fun q => decide (cb q 0 = cb r 0 ∧ cb q 1 = cb r 1 ∧ cb q 2 = cb r 2) := List.filter_congr fun q hq => decide_eq_decide.mpr ((agree5 q r).trans (alike5 hr hq))
  rw [e]
  show _ = (likeN n (cb r 0) (cb r 1) (cb r 2) : Int)
  rw [h]
  have z : ∀ p, hb r ≤ p → chF n (cb r p).toNat = 1 := fun p hp => by rw [cb_high a2 hp]; rfl
  have : hb r = 0 ∨ hb r = 1 ∨ hb r = 2 ∨ hb r = 3 := by omega
  unfold counts
  rcases this with g | g | g | g
  · rw [g, z 0 (by omega), z 1 (by omega), z 2 (by omega)]; rfl
  · rw [g, z 1 (by omega), z 2 (by omega)]
    show chF n (cb r 0).toNat * 1 = _
    omega
  · rw [g, z 2 (by omega)]
    show chF n (cb r 0).toNat * (chF n (cb r 1).toNat * 1) = _
    rw [Int.mul_one, Int.mul_one]
  · rw [g]
    show chF n (cb r 0).toNat * (chF n (cb r 1).toNat * (chF n (cb r 2).toNat * 1)) = _
    rw [Int.mul_one, Int.mul_assoc]
end My

namespace My
open PySem PySem.Spec PyProof.Rows L2 Pre
theorem cut_last_nil : cutV ([] : List V) (some (-1)) none = [] := by decide
theorem cut_last (xs : List V) (x : V) : cutV (xs ++ [x]) (some (-1)) none = [x] := by
  unfold cutV
  have e : HT.sIx (xs ++ [x]).length 0 (some (-1)) = xs.length := by
    unfold HT.sIx
    rw [List.length_append]
    simp
    omega
  have e2 : HT.sIx (xs ++ [x]).length (xs ++ [x]).length none = xs.length + 1 := by rw [HT.sIx_none, List.length_append]; rfl
  rw [e, e2, List.drop_left, Nat.add_sub_cancel_left]
  rfl
theorem filter_next {f : List Int → Bool} (l : List (List Int)) (i : Nat) (x : List Int) (h : l[i]? = some x) : (((l.take (i + 1)).filter f).length : Int) = ((l.take i).filter f).length + (if f x = true then 1 else 0) := by
  rw [List.take_add_one, h, List.filter_append, List.length_append]
  by_cases c : f x = true
  · rw [if_pos c, Option.toList_some, List.filter_cons_of_pos c]
    simp
  · rw [if_neg c, Option.toList_some, List.filter_cons_of_neg c]
    simp
local macro_rules | `(tactic| walk_at "go") => `(tactic| repeat (first | (with_reducible first | refine iteT ?_ | refine iteF ?_ | refine iteNtt ?_ | refine iteNff ?_ | refine iteET (by omega) ?_ | refine iteEF (by omega) ?_ | refine iteENT (by omega) ?_ | refine iteENF (by omega) ?_ | refine iteDT (by omega) ?_ | refine iteDF (by omega) ?_ | refine iteNT (by omega) ?_ | refine iteNF (by omega) ?_) | refine ⟨_, rfl, ?_⟩ | refine ⟨_, _, rfl, rfl, ?_⟩ | refine ⟨_, _, rfl, ?_⟩ | refine ⟨rfl, ?_⟩ | refine .inl ⟨_, rfl, ?_⟩ | refine .inr ⟨_, rfl, ?_⟩))
local macro_rules | `(tactic| walk_at "b") => `(tactic| try dsimp (config := { proj := false, iota := false, eta := false, zeta := false }) only)
section
variable {P : Program} {w : World} {K : PySem.W.Frag} {mg : Str → Option Value} {base : Heap}
def sp_law_like_right (K : PySem.W.Frag) : Sp := fun vs H Q _ => ∃ (g : Addr) (n : Nat), vs = [.ref g] ∧ GenAt H g n ∧ n ≤ 10 ^ 7 ∧ ∀ H', But g H H' → GenAt H' g (n + 10000) → Q (.bl true) H'
theorem G_law_like_right (T : Top K mg) : FnOk P w K mg base CX0 5 T.f_law_like_right T.fd_law_like_right ["_law_generator_here"] (sp_law_like_right K) := by
  refine T.F_law_like_right.ok sc_law_like_right (fun vs H Q E h => by obtain ⟨g, n, rfl, _⟩ := h; rfl) (fun cdv A outer s H vs Q E hr h => ?_)
  obtain ⟨g, n, rfl, hG, hn, q⟩ := h
  refine ⟨_, PSs.nox (pss_cons (ps_set (i := 1) sc_law_like_right.nd rfl (Or.inr rfl) (pe_lc (own := [("_law_turn", 5)]) (g := gName 5) (tt := tYes) (by rfl) sc_law_like_right.nd (pi_range1 (by rfl) T.n_range (pa_cons (pe_op op_add pe_int (pe_call (G_law_random T) (hr.mono (by decide)) (by rfl) T.g_law_random T.F_law_random.kp T.b_law_random .nil pass0 (pa_cons (pv 0) (pa_cons pe_int pa_nil)))) pa_nil)) (blkOk_by (own := [("_law_turn", 5)]) (N := N_law_like_right) (sc := defScope s_law_like_right) (by decide +kernel)) (fun _ _ _ _ _ => (pg_name (i := 5) sc_law_like_right.nd rfl (by first | exact Or.inl rfl | exact Or.inr rfl))) (fun _ _ _ _ _ => pts_nil) (fun _ _ _ _ _ => (pe_call (G_law_random T) (hr.mono (by decide)) (by rfl) T.g_law_random T.F_law_random.kp T.b_law_random .nil pass0 (pa_cons (pv 0) (pa_cons pe_int pa_nil))))))
  (pss_cons (ps_setLc (i := 2) (own := [("_law_width", 6)]) (g := gName 6) (tt := tYes) (by rfl) sc_law_like_right.nd rfl rfl (sw_true rfl rfl rfl (by decide +kernel)) (pi_range1 (by rfl) T.n_range (pa_cons pe_int pa_nil)) (blkOk_by (own := [("_law_width", 6)]) (N := N_law_like_right) (sc := defScope s_law_like_right) (by decide +kernel)) (fun _ _ _ _ _ => (pg_name (i := 6) sc_law_like_right.nd rfl (by first | exact Or.inl rfl | exact Or.inr rfl))) (fun _ _ _ _ _ => pts_nil) (fun _ _ _ _ _ => (pe_call (G_law_price T) (hr.mono (by decide)) (by rfl) T.g_law_price T.F_law_price.kp T.b_law_price .nil pass0 (pa_cons (pv 1) (pa_cons (pv 6) pa_nil)))))
  (pss_cons (ps_set (i := 3) sc_law_like_right.nd rfl (by first | exact Or.inl rfl | exact Or.inr rfl) pe_int)
  (pss_cons (ps_for PassesOwn.never rfl (k_piL K rfl (pe_call (G_law_below T) (hr.mono (by decide)) (by rfl) T.g_law_below T.F_law_below.kp T.b_law_below .nil pass0 (pa_cons (pe_callB (k_len K rfl) (by rfl) T.n_len (by decide +kernel) (pa_cons (pv 1) pa_nil)) (pa_cons pe_int pa_nil)))) (pg_name (i := 4) sc_law_like_right.nd rfl (by first | exact Or.inl rfl | exact Or.inr rfl))
    (pss_one (ps_set (i := 3) sc_law_like_right.nd rfl (by first | exact Or.inl rfl | exact Or.inr rfl) (pe_op op_add (pv 3) (pe_callTy call_int1 (by rfl) T.n_int (by decide +kernel) (pa_cons (pe_cmpR (k_eqD K rfl hr.units) (pe_lc (own := [("_law_width", 6)]) (g := gName 6) (tt := tYes) (by rfl) sc_law_like_right.nd (pi_range1 (by rfl) T.n_range (pa_cons pe_int pa_nil)) (blkOk_by (own := [("_law_width", 6)]) (N := N_law_like_right) (sc := defScope s_law_like_right) (by decide +kernel)) (fun _ _ _ _ _ => (pg_name (i := 6) sc_law_like_right.nd rfl (by first | exact Or.inl rfl | exact Or.inr rfl))) (fun _ _ _ _ _ => pts_nil) (fun _ _ _ _ _ => (pe_call (G_law_price T) (hr.mono (by decide)) (by rfl) T.g_law_price T.F_law_price.kp T.b_law_price .nil pass0 (pa_cons (pv 4) (pa_cons (pv 6) pa_nil))))) (pv 2) (nomark _)) pa_nil))))))
  (pss_one (ps_ret (pe_cmpR op_eq (pe_call (G_how_many_like T) (hr.mono (by decide)) (by rfl) T.g_how_many_like T.F_how_many_like.kp T.b_how_many_like .nil pass0 (pa_cons (pv 1) pa_nil)) (pv 3) (nomark _)))))))), ?_⟩
  walk_at "go"
  refine ⟨g, _, _, rfl, hG, by omega, by decide, small_2900 (by decide), fun r H1 r0 r1 g1 b1 => ?_⟩
  obtain ⟨m, rfl⟩ : ∃ d : Nat, r = (d : Int) := ⟨r.toNat, by omega⟩
  walk_at "go"
  refine ⟨by omega, by omega, fun D nD => ?_⟩
  walk_at "b"
  rw [show (1 + (m : Int)).toNat = m + 1 by omega]
  refine lc_drawR (lo := 0) (n := m + 1) g (n + 100) 100 (fun y => 0 ≤ y ∧ y < 8) nD g1 (small1000 (by omega)) (fun x => rfl) ?_ ?_
  · intro i H' hi b' g' Qt qt
    walk_at "go"
    refine ⟨g, _, _, rfl, g', by omega, by decide, small_2900 (by decide), fun r2 H2 r20 r21 g2 b2 => ?_⟩
    exact qt r2 _ ⟨r20, r21⟩ b2 (g2.mono (by omega))
  · intro H2 ys b2 g2 hD hl hP
    have hmem : ys ∈ belowK (m + 1) 8 := (below_mem _ _ _).mpr ⟨hl, hP⟩
    have hSy : ∀ {H' : Hp}, Same H2 H' → SqL K H' D (ys.map V.int) := fun s => .inl (.inl (s _ _ hD))
    refine ⟨_, rfl, by decide, by decide, fun D2 nD2 => ?_⟩
    refine lc_mapR (lo := 0) (n := 5) (((List.range 5).map fun (w : Nat) => price ys w).map V.int) nD2 (by rw [List.length_map, List.length_map, List.length_range]) (small1000 (by decide)) (fun x => rfl) ?_ ?_
    · intro i y H' hi hy s Qt qt
      rw [List.getElem?_map, List.getElem?_map, List.getElem?_range hi] at hy
      cases hy
      refine ⟨_, rfl, _, rfl, D, ys, i, ?_, hSy s, by omega, qt _ (Same.refl _)⟩
      show [V.ref D, V.int (0 + (i : Int))] = _
      rw [Int.zero_add]
    · intro H3 s3 hD3
      walk_at "go"
      refine ⟨D, _, rfl, .inl (hSy s3), ?_⟩
      rw [List.length_map, hl]
      refine ⟨[], m + 1, 8, rfl, Has.nil, by omega, by decide, ?_, fun H4 pb s4 npb d4 => ?_⟩
      · intro i hi
        have : 8 ^ i ≤ 8 ^ 3 := Nat.pow_le_pow_right (by decide) (by omega)
        have : 8 ^ 3 ≤ 5000 := by decide
        omega
      rw [rs_nil] at d4
      obtain ⟨pb', xs, e, hpb, hx⟩ := d4.listE
      cases e
      have hxl := hx.len
      rw [List.length_map] at hxl
      refine ⟨pb, rfl, ⟨_, .inl (.inl hpb)⟩, for_list (K := K) (a := pb) (xs := xs) (fun i σ H5 => ∃ (v4 v5 v6 : Option V), σ = [some (.ref g), some (.ref D), some (.ref D2), some (.int (((belowK (m + 1) 8).take i).filter fun q => decide (AgreeTo5 q ys)).length), v4, v5, v6] ∧ Same H4 H5) ⟨none, none, none, rfl, Same.refl _⟩ (fun i σ H5 _ ⟨_, _, _, _, s⟩ => .inl (.inl (s _ _ hpb))) ?_ ?_⟩
      · rintro i x σ H5 hxi ⟨v4, v5, v6, rfl, s5⟩
        obtain ⟨dx, hdx, hxd⟩ := hx.got hxi
        rw [List.getElem?_map] at hdx
        obtain ⟨qr, hqr, rfl⟩ := Option.map_eq_some_iff.mp hdx
        obtain ⟨qa, rfl, hqa⟩ := (hxd.same s5).intsE
        walk_at "go"
        refine ⟨by decide, by decide, fun D3 nD3 => ?_⟩
        refine lc_mapR (lo := 0) (n := 5) (((List.range 5).map fun (w : Nat) => price qr w).map V.int) nD3 (by rw [List.length_map, List.length_map, List.length_range]) (small1000 (by decide)) (fun x => rfl) ?_ ?_
        · intro j y H' hj hy s Qt qt
          rw [List.getElem?_map, List.getElem?_map, List.getElem?_range hj] at hy
          cases hy
          refine ⟨_, rfl, _, rfl, qa, qr, j, ?_, .inl (.inl (s _ _ hqa)), by omega, qt _ (Same.refl _)⟩
          show [V.ref qa, V.int (0 + (j : Int))] = _
          rw [Int.zero_add]
        · intro H6 s6 hD6
          walk_at "go"
          refine eqD_lst (.inl (.inl hD6)) (.inl (.inl (s6 _ _ (s5 _ _ (s4 _ _ hD3))))) ?_
          refine .inr ⟨_, rfl, ?_⟩
          walk_at "go"
          refine ⟨some (.ref qa), v5, v6, ?_, s5.trans s6⟩
          rw [filter_next _ i qr hqr]
          rfl
      · rintro σ H5 ⟨v4, v5, v6, rfl, s5⟩
        rw [hxl, List.take_length]
        have s25 := (s3.trans s4).trans s5
        walk_at "go"
        refine ⟨D, ys, rfl, ⟨.inl (s25 _ _ hD), fun k hk => ?_, by omega⟩, by omega, fun H6 s6 => ?_⟩
        · have := hP k hk
          exact ⟨this.1, by omega⟩
        rw [hl, like_counts (by omega) hmem]
        walk_at "go"
        rw [decide_eq_true rfl]
        exact q _ ((b1.trans b2).same (s25.trans s6)) ((g2.same (s25.trans s6)).mono (by omega))
theorem rep1 (k : Nat) (n : Int) : (List.replicate k [V.int n]).flatten = (List.replicate k n).map V.int := by
  rw [List.map_replicate]
  induction k with
  | zero => rfl
  | succ k ih => rw [List.replicate_succ, List.flatten_cons, ih, List.replicate_succ]; rfl
def addC (cs : List Int) (many i j : Nat) : List Int := (List.range many).map fun (k : Nat) => bitsOf (cs.take i) k + (if k < j then 2 ^ i else 0)
theorem addC_0 (cs : List Int) (many : Nat) : addC cs many 0 0 = List.replicate many 0 := by
  unfold addC
  rw [List.map_congr_left (g := fun _ => (0 : Int)) fun k _ => by simp [bitsOf]]
  rw [List.map_const', List.length_range]
theorem addC_next {cs : List Int} {many i j : Nat} (hj : j < many) : (addC cs many i j).set j ((addC cs many i j).getD j 0 + 2 ^ i) = addC cs many i (j + 1) := by
  have hl : (addC cs many i j).length = many := by unfold addC; rw [List.length_map, List.length_range]
  refine List.ext_getElem? fun k => ?_
  by_cases hk : k < many
  · have e : ∀ t, (addC cs many i t)[k]? = some (bitsOf (cs.take i) k + (if k < t then 2 ^ i else 0)) := fun t => by
      unfold addC
      rw [List.getElem?_map, List.getElem?_range hk]
      rfl
    rw [List.getElem?_set, e (j + 1)]
    by_cases c : j = k
    · subst c
      rw [if_pos rfl, if_pos (by omega), List.getD_eq_getElem?_getD, e j, Option.getD_some, if_neg (by omega), if_pos (by omega), Int.add_zero]
    · rw [if_neg c, e j]
      by_cases d : k < j
      · rw [if_pos d, if_pos (by omega)]
      · rw [if_neg d, if_neg (by omega)]
  · rw [List.getElem?_eq_none (by rw [List.length_set]; omega), List.getElem?_eq_none (by unfold addC; rw [List.length_map, List.length_range]; omega)]
theorem addC_end {cs : List Int} {many i : Nat} {c : Nat} (h : cs[i]? = some (c : Int)) : addC cs many i c = addC cs many (i + 1) 0 := by
  unfold addC
  refine List.map_congr_left fun k _ => ?_
  have hi := (List.getElem?_eq_some_iff.mp h).1
  rw [List.take_add_one, h, Option.toList_some, bitsOf_snoc, List.length_take, Nat.min_eq_left (by omega), if_neg (Nat.not_lt_zero k), Int.add_zero]
  by_cases d : k < c
  · rw [if_pos d, if_pos (by omega)]
  · rw [if_neg d, if_neg (by omega)]
theorem addC_row (cs : List Int) (many : Nat) : addC cs many cs.length 0 = rowC many cs := by
  unfold addC rowC
  refine List.map_congr_left fun k _ => ?_
  rw [List.take_length, if_neg (Nat.not_lt_zero k), Int.add_zero]
def sp_law_counts_right (K : PySem.W.Frag) : Sp := fun vs H Q _ => ∃ (g : Addr) (n : Nat), vs = [.ref g] ∧ GenAt H g n ∧ n ≤ 10 ^ 7 ∧ ∀ H', But g H H' → GenAt H' g (n + 10000) → Q (.bl true) H'
theorem G_law_counts_right (T : Top K mg) : FnOk P w K mg base CX0 5 T.f_law_counts_right T.fd_law_counts_right ["_law_generator_here"] (sp_law_counts_right K) := by
  refine T.F_law_counts_right.ok sc_law_counts_right (fun vs H Q E h => by obtain ⟨g, n, rfl, _⟩ := h; rfl) (fun cdv A outer s H vs Q E hr h => ?_)
  obtain ⟨g, n, rfl, hG, hn, q⟩ := h
  refine ⟨_, PSs.nox (pss_cons (ps_set (i := 1) sc_law_counts_right.nd rfl (by first | exact Or.inl rfl | exact Or.inr rfl) (pe_call (G_law_random T) (hr.mono (by decide)) (by rfl) T.g_law_random T.F_law_random.kp T.b_law_random .nil pass0 (pa_cons (pv 0) (pa_cons pe_int pa_nil))))
  (pss_cons (ps_setLc (i := 2) (own := [("_law_turn", 8)]) (g := gName 8) (tt := tYes) (by rfl) sc_law_counts_right.nd rfl rfl (sw_true rfl rfl rfl (by decide +kernel)) (pi_range1 (by rfl) T.n_range (pa_cons (pe_call (G_law_random T) (hr.mono (by decide)) (by rfl) T.g_law_random T.F_law_random.kp T.b_law_random .nil pass0 (pa_cons (pv 0) (pa_cons pe_int pa_nil))) pa_nil)) (blkOk_by (own := [("_law_turn", 8)]) (N := N_law_counts_right) (sc := defScope s_law_counts_right) (by decide +kernel)) (fun _ _ _ _ _ => (pg_name (i := 8) sc_law_counts_right.nd rfl (by first | exact Or.inl rfl | exact Or.inr rfl))) (fun _ _ _ _ _ => pts_nil) (fun _ _ _ _ _ => (pe_call (G_law_random T) (hr.mono (by decide)) (by rfl) T.g_law_random T.F_law_random.kp T.b_law_random .nil pass0 (pa_cons (pv 0) (pa_cons (pe_op op_add (pv 1) pe_int) pa_nil)))))
  (pss_cons (ps_set (i := 3) sc_law_counts_right.nd rfl (by first | exact Or.inl rfl | exact Or.inr rfl) (pe_op op_rep (pe_lst (pa_cons pe_int pa_nil)) (pv 1)))
  (pss_cons (ps_for PassesOwn.never rfl (k_piE K rfl (by rfl) T.n_enumerate (pa_cons (pv 2) pa_nil)) (k_pgT K rfl (by rfl) (pgs_cons (pg_name (i := 5) sc_law_counts_right.nd rfl (by first | exact Or.inl rfl | exact Or.inr rfl)) (pgs_cons (pg_name (i := 6) sc_law_counts_right.nd rfl (by first | exact Or.inl rfl | exact Or.inr rfl)) pgs_nil)))
    (pss_one (ps_for PassesOwn.never rfl (pi_range1 (by rfl) T.n_range (pa_cons (pv 6) pa_nil)) (pg_name (i := 7) sc_law_counts_right.nd rfl (by first | exact Or.inl rfl | exact Or.inr rfl))
    (pss_one (ps_asg (pe_op op_add (pe_ix (k_ixL K rfl) (pv 3) (pv 7) (fun _ _ => rfl)) (pe_op op_shl pe_int (pv 5))) (pg_sub (pv 3) (pv 7) set_list))))))
  (pss_cons (ps_set (i := 4) sc_law_counts_right.nd rfl (by first | exact Or.inl rfl | exact Or.inr rfl) (pe_call (G_row_of_counts T) (hr.mono (by decide)) (by rfl) T.g_row_of_counts T.F_row_of_counts.kp T.b_row_of_counts .nil pass0 (pa_cons (pv 1) (pa_cons (pv 2) pa_nil))))
  (pss_cons (ps_if (PW.pt (pw_or (pt_cmpR (k_neD K rfl hr.units) (pv 4) (pv 3) (nomark _)) (pw_or1 (pt_cmpR (k_neD K rfl hr.units) (pe_call (G_law_bits T) (hr.mono (by decide)) (by rfl) T.g_law_bits T.F_law_bits.kp T.b_law_bits .nil pass0 (pa_cons (pv 4) pa_nil)) (pe_call (G_bit_counts T) (hr.mono (by decide)) (by rfl) T.g_bit_counts T.F_bit_counts.kp T.b_bit_counts .nil pass0 (pa_cons (pv 4) pa_nil)) (nomark _)))))
    (pss_one (ps_ret pe_bl))
    pss_nil)
  (pss_cons (ps_while PassesOwn.never (pt_cmpR (k_eqD K rfl hr.units) (pe_slice (k_slL K rfl) (pv 2) (po_some (pe_un un_neg pe_int)) po_none) (pe_lst (pa_cons pe_int pa_nil)) (nomark _))
    (pss_one (ps_expr (pe_bm0 PySem.F.plainAttrs_list PySem.F.slot_list_pop PySem.F.type_list_pop mt_pop (pv 2)))))
  (pss_one (ps_ret (pe_cmpR (k_eqD K rfl hr.units) (pe_call (G_bit_counts T) (hr.mono (by decide)) (by rfl) T.g_bit_counts T.F_bit_counts.kp T.b_bit_counts .nil pass0 (pa_cons (pv 4) pa_nil)) (pv 2) (nomark _))))))))))), ?_⟩
  walk_at "go"
  refine ⟨g, _, _, rfl, hG, by omega, by decide, small_2900 (by decide), fun r H1 r0 r1 g1 b1 => ?_⟩
  obtain ⟨many, rfl⟩ : ∃ d : Nat, r = (d : Int) := ⟨r.toNat, by omega⟩
  walk_at "go"
  refine ⟨g, _, _, rfl, g1, by omega, by decide, small_2900 (by decide), fun r2 H2 r20 r21 g2 b2 => ?_⟩
  obtain ⟨m, rfl⟩ : ∃ d : Nat, r2 = (d : Int) := ⟨r2.toNat, by omega⟩
  refine ⟨_, rfl, by omega, by omega, fun D nD => ?_⟩
  rw [Int.toNat_natCast]
  refine lc_drawR (lo := 0) (n := m) g (n + 200) 100 (fun y => 0 ≤ y ∧ y ≤ many) nD (g2.mono (by omega)) (small1000 (by omega)) (fun x => rfl) ?_ ?_
  · intro i H' hi b' g' Qt qt
    walk_at "go"
    refine ⟨g, _, _, rfl, g', by omega, by omega, small_2900 (by omega), fun r3 H3 r30 r31 g3 b3 => ?_⟩
    exact qt r3 _ ⟨r30, by omega⟩ b3 (g3.mono (by omega))
  · intro H3 cs b3 g3 hD hl hP
    have nDg : D ≠ g := g2.ne nD
    have b03 := (b1.trans b2).trans b3
    walk_at "go"
    refine ⟨(show 1 ≤ sizeLine by decide), fun z nz => ?_⟩
    obtain ⟨H4, e4, s4, h4⟩ := fresh (.lst [V.int 0]) nz
    rw [e4]
    refine ⟨_, rfl, z, _, _, rfl, rfl, h4, by omega, by omega, by rw [Int.toNat_natCast]; show 1 * many ≤ _; rw [sizeLine_eq]; omega, fun d nd => ?_⟩
    rw [Int.toNat_natCast, rep1, ← addC_0 cs many]
    obtain ⟨H5, e5, s5, h5⟩ := fresh (.lst ((addC cs many 0 0).map V.int)) nd
    rw [e5]
    have s35 := s4.trans s5
    have hD5 := s35 _ _ hD
    have nHd : H d = none := (b03.same s4).free ((g3.same s4).ne nd) nd
    have ndD : d ≠ D := (ne_of_none (s4 _ _ hD) nd).symm
    have ndg : d ≠ g := (g3.same s4).ne nd
    have hlen : ∀ i j, (addC cs many i j).length = many := fun i j => by unfold addC; rw [List.length_map, List.length_range]
    have hcs : ∀ {i : Nat} {c : Int}, cs[i]? = some c → 0 ≤ c ∧ c ≤ many := fun h => hP _ (List.mem_of_getElem? h)
    walk_at "go"
    refine ⟨D, _, rfl, .inl (.inl hD5), ?_⟩
    refine for_it (walk_enum (K := K) (a := D) (xs := cs.map V.int)) (fun i σ H6 => ∃ (v5 v6 v7 : Option V), σ = [some (.ref g), some (.int many), some (.ref D), some (.ref d), none, v5, v6, v7, none] ∧ But d H5 H6 ∧ H6 d = some (.lst ((addC cs many i 0).map V.int))) ⟨none, none, none, rfl, But.refl, h5⟩ (fun i σ H6 _ ⟨_, _, _, _, b, _⟩ => .inl (.inl (b _ _ ndD.symm hD5))) ?_ ?_
    · rintro i x σ H6 H6' hi ⟨v5, v6, v7, rfl, b6, h6⟩ ⟨T1, x1, y1, rfl, nT, rfl, e1, e2⟩
      rw [List.length_map] at hi
      cases e1
      dsimp only at e2
      rw [List.getElem?_map, List.getElem?_eq_getElem hi] at e2
      cases e2
      have hci := List.getElem?_eq_getElem hi
      have hcb := hcs hci
      obtain ⟨c, hc⟩ : ∃ c : Nat, cs[i] = (c : Int) := ⟨cs[i].toNat, by omega⟩
      rw [hc] at hcb hci
      rw [hc] 
      have st := same_upd (o := .tup [V.int (i : Nat), V.int (c : Int)]) nT
      refine ⟨T1, _, rfl, .inl (.inl upd_same), rfl, ?_⟩
      generalize upd H6 T1 (.tup [V.int (i : Nat), V.int (c : Int)]) = H7 at st
      refine ⟨_, _, rfl, _, _, rfl, rfl, ?_⟩
      walk_at "go"
      refine ⟨by omega, by omega, ?_⟩
      rw [Int.toNat_natCast]
      refine for_range (lo := 0) (n := c) (fun j σ H8 => ∃ (v7 : Option V), σ = [some (.ref g), some (.int many), some (.ref D), some (.ref d), none, some (.int (i : Nat)), some (.int (c : Int)), v7, none] ∧ But d H5 H8 ∧ H8 d = some (.lst ((addC cs many i j).map V.int))) ⟨v7, rfl, b6.same st, st _ _ h6⟩ ?_ ?_
      · rintro j σ H8 hj ⟨v7, rfl, b8, h8⟩
        have hjm : j < (addC cs many i j).length := by rw [hlen]; omega
        rw [show (0 : Int) + (j : Int) = j by omega]
        walk_at "go"
        refine ⟨d, _, _, _, rfl, rfl, .inl (.inl h8), at_ints hjm, ?_⟩
        walk_at "go"
        refine ⟨⟨by omega, by omega, by decide⟩, ?_⟩
        walk_at "b"
        rw [Int.one_mul, Int.toNat_natCast]
        walk_at "go"
        refine ⟨d, _, _, j, rfl, rfl, h8, ix_ints hjm, ?_⟩
        refine ⟨_, rfl, But.upd b8, ?_⟩
        rw [upd_same, ← List.map_set]
        walk_at "b"
        rw [addC_next (by omega)]
      · rintro σ H8 ⟨v7, rfl, b8, h8⟩
        rw [addC_end hci] at h8
        exact ⟨_, _, _, rfl, b8, h8⟩
    · rintro σ H6 ⟨v5, v6, v7, rfl, b6, h6⟩
      rw [List.length_map, addC_row] at h6
      have hD6 := b6 _ _ ndD.symm hD5
      have b06 : But g H H6 := fun b o nb hb => b6 _ _ (ne_of_none hb nHd) (s35 _ _ (b03 _ _ nb hb))
      have g6 : GenAt H6 g (n + 1000) := by
        obtain ⟨a1, a2, a3, e, rr⟩ := g3.same s35
        exact ⟨a1, a2, a3, b6 _ _ ndg.symm e, by omega⟩
      have hFr : Folds (rowC many cs) := fun k hk => by
        obtain ⟨j, _, rfl⟩ := List.mem_map.mp hk
        have h1 := bitsOf_lt cs j
        have h2 := bitsOf_nn cs j
        have h3 : (2 : Int) ^ cs.length ≤ 2 ^ 10 := pow2_le (by omega)
        exact ⟨h2, by omega⟩
      have hlr : (rowC many cs).length = many := by unfold rowC; rw [List.length_map, List.length_range]
      walk_at "go"
      refine ⟨many, D, cs, rfl, hD6, hP, by omega, by omega, fun H7 t s7 nt h7 => ?_⟩
      have hFA : ∀ {H' : Hp}, H' t = some (.lst ((rowC many cs).map V.int)) → FoldsAt K H' t (rowC many cs) := fun h => ⟨.inl h, hFr, by omega⟩
      walk_at "go"
      refine ne_lst (ns := rowC many cs) (.inl (.inl h7)) (.inl (.inl (s7 _ _ h6))) ?_
      walk_at "go"
      refine ⟨t, rowC many cs, rfl, .inl (.inl h7), hFr, by omega, fun H8 p8 s8 np8 h8 => ?_⟩
      walk_at "go"
      refine ⟨t, rowC many cs, rfl, hFA (s8 _ _ h7), fun H9 p9 s9 np9 h9 => ?_⟩
      refine ne_lst (ns := counts (rowC many cs)) (.inl (.inl (s9 _ _ h8))) (.inl (.inl h9)) ?_
      have s69 := (s7.trans s8).trans s9
      have nHt : t ≠ D := (ne_of_none hD6 nt).symm
      have nHD : H D = none := (b1.trans b2).free nDg nD
      walk_at "go"
      refine ⟨fun m σ H10 => ∃ k : Nat, m = k ∧ k ≤ cs.length ∧ σ = [some (.ref g), some (.int many), some (.ref D), some (.ref d), some (.ref t), v5, v6, v7, none] ∧ But g H H10 ∧ GenAt H10 g (n + 1000) ∧ H10 t = some (.lst ((rowC many cs).map V.int)) ∧ H10 D = some (.lst ((cs.take k).map V.int)) ∧ ∀ p, k ≤ p → cs.getD p 0 = 0, ⟨cs.length, cs.length, rfl, Nat.le_refl _, rfl, b06.same s69, g6.same s69, s9 _ _ (s8 _ _ h7), by rw [List.take_length]; exact s69 _ _ hD6, fun p hp => by rw [List.getD_eq_getElem?_getD, List.getElem?_eq_none hp]; rfl⟩, ?_⟩
      rintro k σ H10 ⟨_, rfl, hk, rfl, b10, g10, h10, hD10, hz⟩
      walk_at "go"
      refine ⟨D, _, rfl, .inl (.inl hD10), fun p11 np11 => ?_⟩
      by_cases k0 : k = 0
      · subst k0
        rw [List.take_zero, List.map_nil, cut_last_nil]
        obtain ⟨H11, e11, s11, h11⟩ := fresh (.lst (([] : List Int).map V.int)) np11
        have e11' : upd H10 p11 (.lst []) = H11 := e11
        rw [e11']
        walk_at "go"
        refine ⟨(show 1 ≤ sizeLine by decide), fun p12 np12 => ?_⟩
        obtain ⟨H12, e12, s12, h12⟩ := fresh (.lst (([0] : List Int).map V.int)) np12
        have e12' : upd H11 p12 (.lst [V.int 0]) = H12 := e12
        rw [e12']
        refine eqD_lst (ns := []) (ms := [0]) (.inl (.inl (s12 _ _ h11))) (.inl (.inl h12)) ?_
        refine ⟨_, rfl, iteDF (by decide) ?_⟩
        have s1012 := s11.trans s12
        refine ⟨_, rfl, t, _, rfl, hFA (s1012 _ _ h10), fun H13 p13 s13 np13 h13 => ?_⟩
        rw [strip_ok hP hk hz (.inl rfl)] at h13
        refine ⟨_, rfl, ?_⟩
        refine eq_lst (ns := cs.take 0) (.inl (.inl h13)) (.inl (.inl (s13 _ _ (s1012 _ _ hD10)))) ?_
        exact q _ (b10.same (s1012.trans s13)) ((g10.same (s1012.trans s13)).mono (by omega))
      · have et : cs.take k = cs.take (k - 1) ++ [cs.getD (k - 1) 0] := by
          obtain ⟨j, rfl⟩ : ∃ j, k = j + 1 := ⟨k - 1, by omega⟩
          rw [Nat.add_sub_cancel, List.take_add_one, List.getD_eq_getElem?_getD, List.getElem?_eq_getElem (by omega)]
          rfl
        have ec : cutV ((cs.take k).map V.int) (some (-1)) none = ([cs.getD (k - 1) 0]).map V.int := by
          rw [et, List.map_append]
          exact cut_last _ _
        walk_at "b"
        rw [ec]
        obtain ⟨H11, e11, s11, h11⟩ := fresh (.lst (([cs.getD (k - 1) 0] : List Int).map V.int)) np11
        rw [e11]
        walk_at "go"
        refine ⟨(show 1 ≤ sizeLine by decide), fun p12 np12 => ?_⟩
        obtain ⟨H12, e12, s12, h12⟩ := fresh (.lst (([0] : List Int).map V.int)) np12
        have e12' : upd H11 p12 (.lst [V.int 0]) = H12 := e12
        rw [e12']
        refine eqD_lst (ns := [cs.getD (k - 1) 0]) (ms := [0]) (.inl (.inl (s12 _ _ h11))) (.inl (.inl h12)) ?_
        have s1012 := s11.trans s12
        refine ⟨_, rfl, ?_⟩
        by_cases cz : cs.getD (k - 1) 0 = 0
        · refine iteDT (by rw [cz]) ?_
          refine ⟨fun σ' H' => σ' = [some (.ref g), some (.int many), some (.ref D), some (.ref d), some (.ref t), v5, v6, v7, none] ∧ But g H H' ∧ GenAt H' g (n + 1000) ∧ H' t = some (.lst ((rowC many cs).map V.int)) ∧ H' D = some (.lst ((cs.take (k - 1)).map V.int)), fun σ' H' ⟨e1, e2, e3, e4, e5⟩ => ⟨k - 1, by omega, k - 1, rfl, by omega, e1, e2, e3, e4, e5, fun p hp => ?_⟩, ?_⟩
          · by_cases h : p = k - 1
            · rw [h]; exact cz
            · exact hz p (by omega)
          · have hD12 := s1012 _ _ hD10
            refine ⟨_, rfl, .inl ⟨rfl, _, .inl (.inl hD12)⟩, D, _, V.int (cs.getD (k - 1) 0), rfl, rfl, hD12, ?_, ?_⟩
            · rw [et, List.map_append, List.length_append]
              show (_ ++ [_])[_ + 1 - 1]? = _
              rw [Nat.add_sub_cancel, List.getElem?_append_right (Nat.le_refl _), Nat.sub_self]
              rfl
            · have s1012' := s1012
              refine ⟨rfl, fun b o nb hb => ?_, ?_, ?_, ?_⟩
              · rw [upd_ne (ne_of_none hb nHD)]
                exact s1012 _ _ (b10 _ _ nb hb)
              · obtain ⟨a1, a2, a3, e, rr⟩ := g10.same s1012
                exact ⟨a1, a2, a3, by rw [upd_ne nDg.symm]; exact e, rr⟩
              · rw [upd_ne nHt]
                exact s1012 _ _ h10
              · rw [upd_same, et, List.map_append]
                show some (HO.lst (_ ++ [_]).dropLast) = _
                rw [List.dropLast_concat]
        · refine iteDF (fun z => cz (by simpa using z)) ?_
          refine ⟨_, rfl, t, _, rfl, hFA (s1012 _ _ h10), fun H13 p13 s13 np13 h13 => ?_⟩
          rw [strip_ok hP hk hz (.inr cz)] at h13
          refine ⟨_, rfl, ?_⟩
          refine eq_lst (ns := cs.take k) (.inl (.inl h13)) (.inl (.inl (s13 _ _ (s1012 _ _ hD10)))) ?_
          exact q _ (b10.same (s1012.trans s13)) ((g10.same (s1012.trans s13)).mono (by omega))
end
end My

namespace My
open PySem PySem.Spec PyProof.Rows L2 Pre
def prD (x : List Int × List Int) : PyData := .tuple [rowD x.1, rowD x.2]
def PA : List (List Int × List Int) := [([0, 3], [1, 2]), ([0, 3], [0, 4]), ([], [0]), ([], []), ([6, 1, 0], [4, 3, 0]), ([2], [1, 0])]
theorem PA_ok : ∀ x ∈ PA, (∀ n ∈ x.1, 0 ≤ n ∧ n < 2 ^ 40) ∧ (∀ n ∈ x.2, 0 ≤ n ∧ n < 2 ^ 40) ∧ x.1.length ≤ 3 ∧ x.2.length ≤ 3 := by decide
local macro_rules | `(tactic| walk_at "go") => `(tactic| repeat (first | (with_reducible first | refine iteT ?_ | refine iteF ?_ | refine iteNtt ?_ | refine iteNff ?_ | refine iteET (by omega) ?_ | refine iteEF (by omega) ?_ | refine iteENT (by omega) ?_ | refine iteENF (by omega) ?_ | refine iteDT (by omega) ?_ | refine iteDF (by omega) ?_ | refine iteNT (by omega) ?_ | refine iteNF (by omega) ?_) | refine ⟨_, rfl, ?_⟩ | refine ⟨_, _, rfl, rfl, ?_⟩ | refine ⟨_, _, rfl, ?_⟩ | refine ⟨rfl, ?_⟩ | refine .inl ⟨_, rfl, ?_⟩ | refine .inr ⟨_, rfl, ?_⟩))
local macro_rules | `(tactic| walk_at "b") => `(tactic| try dsimp (config := { proj := false, iota := false, eta := false, zeta := false }) only)
section
variable {P : Program} {w : World} {K : PySem.W.Frag} {mg : Str → Option Value} {base : Heap}
def sp_law (K : PySem.W.Frag) : Sp := fun vs H Q _ => ∃ (a : Addr) (ns : List Int), vs = [.ref a] ∧ SqL K H a (ns.map V.int) ∧ ns.length ≤ 63 ∧ ∀ H', Q (.bl true) H'
theorem G_law (T : Top K mg) : FnG P w K mg base CX0 6 T.f_law T.fd_law ["_law_script"] (sp_law K) := by
  refine FnG.body T.F_law sc_law (fun vs H Q E h => by obtain ⟨a, ns, rfl, _⟩ := h; rfl) (fun cdv A outer s H vs Q E gd hr h => ?_)
  obtain ⟨a, ns, rfl, hS, hn, q⟩ := h
  refine ⟨_, PSs.nox (pss_cons (ps_set (i := 1) sc_law.nd rfl (by first | exact Or.inl rfl | exact Or.inr rfl) (pe_call (G_law_generator T) (hr.mono (by decide)) (by rfl) T.g_law_generator T.F_law_generator.kp T.b_law_generator .nil pass0 (pa_cons (pv 0) (pa_cons pe_int pa_nil))))
  (pss_cons (ps_set (i := 2) sc_law.nd rfl (by first | exact Or.inl rfl | exact Or.inr rfl) (pe_call (G_law_folds T) (hr.mono (by decide)) (by rfl) T.g_law_folds T.F_law_folds.kp T.b_law_folds .nil pass0 (pa_cons (pv 1) (pa_cons pe_int pa_nil))))
  (pss_cons (ps_set (i := 3) sc_law.nd rfl (by first | exact Or.inl rfl | exact Or.inr rfl) (pe_callTy (k_listOf K rfl) (by rfl) T.n_list (by decide +kernel) (pa_cons (pv 2) pa_nil)))
  (pss_cons (ps_for PassesOwn.never rfl (k_piL K rfl (pe_lst (pa_cons pe_int (pa_cons pe_int (pa_cons pe_int (pa_cons (pe_call (G_law_random T) (hr.mono (by decide)) (by rfl) T.g_law_random T.F_law_random.kp T.b_law_random .nil pass0 (pa_cons (pv 1) (pa_cons pe_int pa_nil))) (pa_cons pe_int (pa_cons pe_int (pa_cons pe_int pa_nil))))))))) (pg_name (i := 4) sc_law.nd rfl (by first | exact Or.inl rfl | exact Or.inr rfl))
    (pss_one (ps_if (pt_cmpR op_ne (pe_call (G_price T) (hr.mono (by decide)) (by rfl) T.g_price T.F_price.kp T.b_price .nil pass0 (pa_cons (pv 2) (pa_cons (pv 4) pa_nil))) (pe_call (G_law_price T) (hr.mono (by decide)) (by rfl) T.g_law_price T.F_law_price.kp T.b_law_price .nil pass0 (pa_cons (pv 2) (pa_cons (pv 4) pa_nil))) (nomark _))
    (pss_one (ps_ret pe_bl))
    pss_nil)))
  (pss_cons (ps_set (i := 5) sc_law.nd rfl (by first | exact Or.inl rfl | exact Or.inr rfl) (pe_call (G_bit_counts T) (hr.mono (by decide)) (by rfl) T.g_bit_counts T.F_bit_counts.kp T.b_bit_counts .nil pass0 (pa_cons (pv 2) pa_nil)))
  (pss_cons (ps_if (pt_cmpR (k_neD K rfl hr.units) (pv 5) (pe_call (G_law_bits T) (hr.mono (by decide)) (by rfl) T.g_law_bits T.F_law_bits.kp T.b_law_bits .nil pass0 (pa_cons (pv 2) pa_nil)) (nomark _))
    (pss_one (ps_ret pe_bl))
    pss_nil)
  (pss_cons (ps_expr (pe_bm PySem.F.plainAttrs_list PySem.F.slot_list_append PySem.F.type_list_append mt_append (pv 5) (pa_cons pe_int pa_nil)))
  (pss_cons (ps_if (pt_cmpR (k_neD K rfl hr.units) (pe_call (G_bit_counts T) (hr.mono (by decide)) (by rfl) T.g_bit_counts T.F_bit_counts.kp T.b_bit_counts .nil pass0 (pa_cons (pv 2) pa_nil)) (pe_call (G_law_bits T) (hr.mono (by decide)) (by rfl) T.g_law_bits T.F_law_bits.kp T.b_law_bits .nil pass0 (pa_cons (pv 2) pa_nil)) (nomark _))
    (pss_one (ps_ret pe_bl))
    pss_nil)
  (pss_cons (ps_for PassesOwn.never rfl (pi_range1 (by rfl) T.n_range (pa_cons pe_int pa_nil)) (pg_name (i := 6) sc_law.nd rfl (by first | exact Or.inl rfl | exact Or.inr rfl))
    (pss_one (ps_if (pt_not (pt_val (pe_callG (G_law_pair_right T) gd (hr.mono (by decide)) (by rfl) T.g_law_pair_right T.F_law_pair_right.kp T.b_law_pair_right .nil pass0 (pa_cons (pv 2) (pa_cons (pe_call (G_law_other T) (hr.mono (by decide)) (by rfl) T.g_law_other T.F_law_other.kp T.b_law_other .nil pass0 (pa_cons (pv 1) (pa_cons (pv 2) pa_nil))) pa_nil)))))
    (pss_one (ps_ret pe_bl))
    pss_nil)))
  (pss_cons (ps_for PassesOwn.never rfl (k_piL K rfl (pe_lst (pa_cons (pe_tup (pa_cons (pe_lst (pa_cons pe_int (pa_cons pe_int pa_nil))) (pa_cons (pe_lst (pa_cons pe_int (pa_cons pe_int pa_nil))) pa_nil))) (pa_cons (pe_tup (pa_cons (pe_lst (pa_cons pe_int (pa_cons pe_int pa_nil))) (pa_cons (pe_lst (pa_cons pe_int (pa_cons pe_int pa_nil))) pa_nil))) (pa_cons (pe_tup (pa_cons (pe_lst pa_nil) (pa_cons (pe_lst (pa_cons pe_int pa_nil)) pa_nil))) (pa_cons (pe_tup (pa_cons (pe_lst pa_nil) (pa_cons (pe_lst pa_nil) pa_nil))) (pa_cons (pe_tup (pa_cons (pe_lst (pa_cons pe_int (pa_cons pe_int (pa_cons pe_int pa_nil)))) (pa_cons (pe_lst (pa_cons pe_int (pa_cons pe_int (pa_cons pe_int pa_nil)))) pa_nil))) (pa_cons (pe_tup (pa_cons (pe_lst (pa_cons pe_int pa_nil)) (pa_cons (pe_lst (pa_cons pe_int (pa_cons pe_int pa_nil))) pa_nil))) pa_nil)))))))) (k_pgT K rfl (by rfl) (pgs_cons (pg_name (i := 7) sc_law.nd rfl (by first | exact Or.inl rfl | exact Or.inr rfl)) (pgs_cons (pg_name (i := 8) sc_law.nd rfl (by first | exact Or.inl rfl | exact Or.inr rfl)) pgs_nil)))
    (pss_one (ps_if (pt_not (pt_val (pe_callG (G_law_pair_right T) gd (hr.mono (by decide)) (by rfl) T.g_law_pair_right T.F_law_pair_right.kp T.b_law_pair_right .nil pass0 (pa_cons (pv 7) (pa_cons (pv 8) pa_nil)))))
    (pss_one (ps_ret pe_bl))
    pss_nil)))
  (pss_cons (ps_if (PW.pt (pw_or (pt_not (pt_val (pe_call (G_law_counts_right T) (hr.mono (by decide)) (by rfl) T.g_law_counts_right T.F_law_counts_right.kp T.b_law_counts_right .nil pass0 (pa_cons (pv 1) pa_nil)))) (pw_or1 (pt_not (pt_val (pe_call (G_law_like_right T) (hr.mono (by decide)) (by rfl) T.g_law_like_right T.F_law_like_right.kp T.b_law_like_right .nil pass0 (pa_cons (pv 1) pa_nil)))))))
    (pss_one (ps_ret pe_bl))
    pss_nil)
  (pss_one (ps_ret (pe_and (pe_cmpR (k_eqD K rfl hr.units) (pv 2) (pv 3) (nomark _)) (pe_and (pe_cmpR op_eq (pe_call (G_how_many_like T) (hr.mono (by decide)) (by rfl) T.g_how_many_like T.F_how_many_like.kp T.b_how_many_like .nil pass0 (pa_cons (pe_lst pa_nil) pa_nil)) pe_int (nomark _)) (pe_one (pe_cmpR (k_eqD K rfl hr.units) (pe_call (G_row_of_counts T) (hr.mono (by decide)) (by rfl) T.g_row_of_counts T.F_row_of_counts.kp T.b_row_of_counts .nil pass0 (pa_cons pe_int (pa_cons (pe_lst pa_nil) pa_nil))) (pe_lst pa_nil) (nomark _)))))))))))))))))), ?_⟩
  walk_at "go"
  refine ⟨a, ns, 0, rfl, hS, fun H0 g s0 ng g0 => ?_⟩
  walk_at "go"
  refine ⟨g, 7, _, rfl, g0, by omega, by decide, fun H1 f fs b1 g1 nf hf hfl hF => ?_⟩
  have nfg : f ≠ g := g0.ne nf
  walk_at "go"
  refine ⟨f, _, rfl, .inl (.inl (.inl hf)), fun kp nkp => ?_⟩
  obtain ⟨H2, e2, s2, hk2⟩ := fresh (.lst (fs.map V.int)) nkp
  rw [e2]
  have nkg : kp ≠ g := g1.ne nkp
  have hf2 := s2 _ _ hf
  have g2 := g1.same s2
  have hFf := hF.folds
  have hFA : ∀ {H' : Hp}, H' f = some (.lst (fs.map V.int)) → FoldsAt K H' f fs := fun h => ⟨.inl h, hFf, by omega⟩
  walk_at "go"
  refine ⟨g, _, _, rfl, g2, by omega, by decide, small_2900 (by decide), fun r H3 r0 r1 g3 b3 => ?_⟩
  obtain ⟨r, rfl⟩ : ∃ d : Nat, r = (d : Int) := ⟨r.toNat, by omega⟩
  walk_at "go"
  refine ⟨(show 7 ≤ sizeLine by decide), fun pw npw => ?_⟩
  obtain ⟨H4, e4, s4, hw4⟩ := fresh (.lst (([0, 1, 2, r, 39, 60, 120] : List Nat).map fun (x : Nat) => V.int x)) npw
  have e4' : upd H3 pw (.lst [V.int 0, V.int 1, V.int 2, V.int r, V.int 39, V.int 60, V.int 120]) = H4 := e4
  rw [e4']
  have hf4 := s4 _ _ (b3 _ _ nfg hf2)
  have hk4 := s4 _ _ (b3 _ _ nkg hk2)
  have g4 := g3.same s4
  refine ⟨pw, rfl, ⟨_, .inl (.inl hw4)⟩, for_list (K := K) (a := pw) (xs := ([0, 1, 2, r, 39, 60, 120] : List Nat).map fun (x : Nat) => V.int x) (fun i σ H5 => ∃ (v4 : Option V), σ = [some (.ref a), some (.ref g), some (.ref f), some (.ref kp), v4, none, none, none, none] ∧ Same H4 H5) ⟨none, rfl, Same.refl _⟩ (fun i σ H5 _ ⟨_, _, s⟩ => .inl (.inl (s _ _ hw4))) ?_ ?_⟩
  · rintro i x σ H5 hx ⟨v4, rfl, s5⟩
    rw [List.getElem?_map] at hx
    obtain ⟨wd, hwd, rfl⟩ := Option.map_eq_some_iff.mp hx
    have hwb : wd ≤ 120 := by
      have := List.mem_of_getElem? hwd
      simp only [List.mem_cons, List.not_mem_nil, or_false] at this
      omega
    walk_at "go"
    refine ⟨f, fs, wd, rfl, hFA (s5 _ _ hf4), hwb, fun H6 s6 => ?_⟩
    walk_at "go"
    refine ⟨f, fs, wd, rfl, .inl (.inl (s6 _ _ (s5 _ _ hf4))), by omega, ?_⟩
    walk_at "go"
    exact s5.trans s6
  · rintro σ H5 ⟨v4, rfl, s5⟩
    have hf5 := s5 _ _ hf4
    have hk5 := s5 _ _ hk4
    have g5 := g4.same s5
    walk_at "go"
    refine ⟨f, fs, rfl, hFA hf5, fun H6 t s6 nt h6 => ?_⟩
    walk_at "go"
    refine ⟨f, fs, rfl, .inl (.inl (s6 _ _ hf5)), hFf, by omega, fun H7 p7 s7 np7 h7 => ?_⟩
    refine ne_lst (ns := counts fs) (.inl (.inl (s7 _ _ h6))) (.inl (.inl h7)) ?_
    have ht7 := s7 _ _ h6
    have s57 := s6.trans s7
    have ntf : t ≠ f := (ne_of_none hf5 nt).symm
    have ntk : t ≠ kp := (ne_of_none hk5 nt).symm
    have ntg : t ≠ g := g5.ne nt
    have hcl : (counts fs).length ≤ 40 := by unfold counts; rw [List.length_map, List.length_range]; exact hb_40 hFf
    walk_at "go"
    refine ⟨.inl ⟨rfl, _, .inl (.inl ht7)⟩, t, _, _, rfl, rfl, ht7, by rw [List.length_map]; exact small1000 (by omega), ?_⟩
    have hf8 : ∀ o, (upd H7 t o) f = some (.lst (fs.map V.int)) := fun o => by rw [upd_ne ntf.symm]; exact s57 _ _ hf5
    have hk8 : ∀ o, (upd H7 t o) kp = some (.lst (fs.map V.int)) := fun o => by rw [upd_ne ntk.symm]; exact s57 _ _ hk5
    have g8 : ∀ o, GenAt (upd H7 t o) g 200000 := fun o => by
      obtain ⟨a1, a2, a3, e, rr⟩ := g5.same s57
      exact ⟨a1, a2, a3, by rw [upd_ne ntg.symm]; exact e, by omega⟩
    replace hf8 := hf8 (.lst ((counts fs).map V.int ++ [V.int 7]))
    replace hk8 := hk8 (.lst ((counts fs).map V.int ++ [V.int 7]))
    replace g8 := g8 (.lst ((counts fs).map V.int ++ [V.int 7]))
    generalize upd H7 t (.lst ((counts fs).map V.int ++ [V.int 7])) = H8 at hf8 hk8 g8
    walk_at "go"
    refine ⟨f, fs, rfl, hFA hf8, fun H9 t9 s9 nt9 h9 => ?_⟩
    walk_at "go"
    refine ⟨f, fs, rfl, .inl (.inl (s9 _ _ hf8)), hFf, by omega, fun H10 p10 s10 np10 h10 => ?_⟩
    refine ne_lst (ns := counts fs) (.inl (.inl (s10 _ _ h9))) (.inl (.inl h10)) ?_
    have s810 := s9.trans s10
    walk_at "go"
    refine ⟨by decide, by decide, ?_⟩
    refine for_range (lo := 0) (n := 3) (fun i σ H11 => ∃ (v6 : Option V), σ = [some (.ref a), some (.ref g), some (.ref f), some (.ref kp), v4, some (.ref t), v6, none, none] ∧ GenAt H11 g (200000 + 2000 * i) ∧ H11 f = some (.lst (fs.map V.int)) ∧ H11 kp = some (.lst (fs.map V.int))) ⟨none, rfl, (g8.same s810).mono (by omega), s810 _ _ hf8, s810 _ _ hk8⟩ ?_ ?_
    · rintro i σ H11 hi ⟨v6, rfl, g11, hf11, hk11⟩
      walk_at "go"
      refine ⟨g, f, fs, _, rfl, g11, by omega, nfg, hf11, hF, by omega, fun H12 po os b12 g12 npo hpo hol hoF => ?_⟩
      walk_at "go"
      refine ⟨f, po, fs, os, rfl, hFA (b12 _ _ nfg hf11), ⟨.inl hpo, hoF, by omega⟩, fun H13 s13 => ?_⟩
      walk_at "go"
      exact ⟨(g12.same s13).mono (by omega), s13 _ _ (b12 _ _ nfg hf11), s13 _ _ (b12 _ _ nkg hk11)⟩
    · rintro σ H11 ⟨v6, rfl, g11, hf11, hk11⟩
      have d0 : DtA (rs [] H11) [] [] := .nil
      have S0 : Same H11 H11 := Same.refl _
      walk_at "go"
      refine ⟨(show 2 ≤ sizeLine by decide), fun px0 npx0 => ?_⟩
      have tx0 := same_upd (o := .lst [V.int 0, V.int 3]) npx0
      have cx0 := dt_new (S := []) Has.nil npx0 (DtA.ints ([0, 3] : List Int))
      have Sx0 := S0.trans tx0
      change Dt (rs [] (upd H11 px0 (.lst [V.int 0, V.int 3]))) _ (rowD [0, 3]) at cx0
      generalize upd H11 px0 (.lst [V.int 0, V.int 3]) = Kx0 at tx0 cx0 Sx0
      walk_at "go"
      refine ⟨(show 2 ≤ sizeLine by decide), fun py0 npy0 => ?_⟩
      have ty0 := same_upd (o := .lst [V.int 1, V.int 2]) npy0
      have cy0 := dt_new (S := []) Has.nil npy0 (DtA.ints ([1, 2] : List Int))
      have Sy0 := Sx0.trans ty0
      change Dt (rs [] (upd Kx0 py0 (.lst [V.int 1, V.int 2]))) _ (rowD [1, 2]) at cy0
      generalize upd Kx0 py0 (.lst [V.int 1, V.int 2]) = Ky0 at ty0 cy0 Sy0
      walk_at "go"
      refine ⟨(show 2 ≤ sizeLine by decide), fun pt0 npt0 => ?_⟩
      have tt0 := same_upd (o := .tup [V.ref px0, V.ref py0]) npt0
      have ct0 := dt_newT (S := []) Has.nil npt0 (.cons (cx0.same (rs_same ty0)) (.cons cy0 .nil))
      have St0 := Sy0.trans tt0
      have et0 := (d0.same (rs_same ((tx0.trans ty0).trans tt0))).app (.cons ct0 .nil)
      generalize upd Ky0 pt0 (.tup [V.ref px0, V.ref py0]) = Kt0 at tt0 ct0 St0 et0
      clear ct0 cx0 cy0
      walk_at "go"
      refine ⟨(show 2 ≤ sizeLine by decide), fun px1 npx1 => ?_⟩
      have tx1 := same_upd (o := .lst [V.int 0, V.int 3]) npx1
      have cx1 := dt_new (S := []) Has.nil npx1 (DtA.ints ([0, 3] : List Int))
      have Sx1 := St0.trans tx1
      change Dt (rs [] (upd Kt0 px1 (.lst [V.int 0, V.int 3]))) _ (rowD [0, 3]) at cx1
      generalize upd Kt0 px1 (.lst [V.int 0, V.int 3]) = Kx1 at tx1 cx1 Sx1
      walk_at "go"
      refine ⟨(show 2 ≤ sizeLine by decide), fun py1 npy1 => ?_⟩
      have ty1 := same_upd (o := .lst [V.int 0, V.int 4]) npy1
      have cy1 := dt_new (S := []) Has.nil npy1 (DtA.ints ([0, 4] : List Int))
      have Sy1 := Sx1.trans ty1
      change Dt (rs [] (upd Kx1 py1 (.lst [V.int 0, V.int 4]))) _ (rowD [0, 4]) at cy1
      generalize upd Kx1 py1 (.lst [V.int 0, V.int 4]) = Ky1 at ty1 cy1 Sy1
      walk_at "go"
      refine ⟨(show 2 ≤ sizeLine by decide), fun pt1 npt1 => ?_⟩
      have tt1 := same_upd (o := .tup [V.ref px1, V.ref py1]) npt1
      have ct1 := dt_newT (S := []) Has.nil npt1 (.cons (cx1.same (rs_same ty1)) (.cons cy1 .nil))
      have St1 := Sy1.trans tt1
      have et1 := (et0.same (rs_same ((tx1.trans ty1).trans tt1))).app (.cons ct1 .nil)
      generalize upd Ky1 pt1 (.tup [V.ref px1, V.ref py1]) = Kt1 at tt1 ct1 St1 et1
      clear ct1 cx1 cy1
      walk_at "go"
      refine ⟨(show 0 ≤ sizeLine by decide), fun px2 npx2 => ?_⟩
      have tx2 := same_upd (o := .lst []) npx2
      have cx2 := dt_new (S := []) Has.nil npx2 (DtA.ints ([] : List Int))
      have Sx2 := St1.trans tx2
      change Dt (rs [] (upd Kt1 px2 (.lst []))) _ (rowD []) at cx2
      generalize upd Kt1 px2 (.lst []) = Kx2 at tx2 cx2 Sx2
      walk_at "go"
      refine ⟨(show 1 ≤ sizeLine by decide), fun py2 npy2 => ?_⟩
      have ty2 := same_upd (o := .lst [V.int 0]) npy2
      have cy2 := dt_new (S := []) Has.nil npy2 (DtA.ints ([0] : List Int))
      have Sy2 := Sx2.trans ty2
      change Dt (rs [] (upd Kx2 py2 (.lst [V.int 0]))) _ (rowD [0]) at cy2
      generalize upd Kx2 py2 (.lst [V.int 0]) = Ky2 at ty2 cy2 Sy2
      walk_at "go"
      refine ⟨(show 2 ≤ sizeLine by decide), fun pt2 npt2 => ?_⟩
      have tt2 := same_upd (o := .tup [V.ref px2, V.ref py2]) npt2
      have ct2 := dt_newT (S := []) Has.nil npt2 (.cons (cx2.same (rs_same ty2)) (.cons cy2 .nil))
      have St2 := Sy2.trans tt2
      have et2 := (et1.same (rs_same ((tx2.trans ty2).trans tt2))).app (.cons ct2 .nil)
      generalize upd Ky2 pt2 (.tup [V.ref px2, V.ref py2]) = Kt2 at tt2 ct2 St2 et2
      clear ct2 cx2 cy2
      walk_at "go"
      refine ⟨(show 0 ≤ sizeLine by decide), fun px3 npx3 => ?_⟩
      have tx3 := same_upd (o := .lst []) npx3
      have cx3 := dt_new (S := []) Has.nil npx3 (DtA.ints ([] : List Int))
      have Sx3 := St2.trans tx3
      change Dt (rs [] (upd Kt2 px3 (.lst []))) _ (rowD []) at cx3
      generalize upd Kt2 px3 (.lst []) = Kx3 at tx3 cx3 Sx3
      walk_at "go"
      refine ⟨(show 0 ≤ sizeLine by decide), fun py3 npy3 => ?_⟩
      have ty3 := same_upd (o := .lst []) npy3
      have cy3 := dt_new (S := []) Has.nil npy3 (DtA.ints ([] : List Int))
      have Sy3 := Sx3.trans ty3
      change Dt (rs [] (upd Kx3 py3 (.lst []))) _ (rowD []) at cy3
      generalize upd Kx3 py3 (.lst []) = Ky3 at ty3 cy3 Sy3
      walk_at "go"
      refine ⟨(show 2 ≤ sizeLine by decide), fun pt3 npt3 => ?_⟩
      have tt3 := same_upd (o := .tup [V.ref px3, V.ref py3]) npt3
      have ct3 := dt_newT (S := []) Has.nil npt3 (.cons (cx3.same (rs_same ty3)) (.cons cy3 .nil))
      have St3 := Sy3.trans tt3
      have et3 := (et2.same (rs_same ((tx3.trans ty3).trans tt3))).app (.cons ct3 .nil)
      generalize upd Ky3 pt3 (.tup [V.ref px3, V.ref py3]) = Kt3 at tt3 ct3 St3 et3
      clear ct3 cx3 cy3
      walk_at "go"
      refine ⟨(show 3 ≤ sizeLine by decide), fun px4 npx4 => ?_⟩
      have tx4 := same_upd (o := .lst [V.int 6, V.int 1, V.int 0]) npx4
      have cx4 := dt_new (S := []) Has.nil npx4 (DtA.ints ([6, 1, 0] : List Int))
      have Sx4 := St3.trans tx4
      change Dt (rs [] (upd Kt3 px4 (.lst [V.int 6, V.int 1, V.int 0]))) _ (rowD [6, 1, 0]) at cx4
      generalize upd Kt3 px4 (.lst [V.int 6, V.int 1, V.int 0]) = Kx4 at tx4 cx4 Sx4
      walk_at "go"
      refine ⟨(show 3 ≤ sizeLine by decide), fun py4 npy4 => ?_⟩
      have ty4 := same_upd (o := .lst [V.int 4, V.int 3, V.int 0]) npy4
      have cy4 := dt_new (S := []) Has.nil npy4 (DtA.ints ([4, 3, 0] : List Int))
      have Sy4 := Sx4.trans ty4
      change Dt (rs [] (upd Kx4 py4 (.lst [V.int 4, V.int 3, V.int 0]))) _ (rowD [4, 3, 0]) at cy4
      generalize upd Kx4 py4 (.lst [V.int 4, V.int 3, V.int 0]) = Ky4 at ty4 cy4 Sy4
      walk_at "go"
      refine ⟨(show 2 ≤ sizeLine by decide), fun pt4 npt4 => ?_⟩
      have tt4 := same_upd (o := .tup [V.ref px4, V.ref py4]) npt4
      have ct4 := dt_newT (S := []) Has.nil npt4 (.cons (cx4.same (rs_same ty4)) (.cons cy4 .nil))
      have St4 := Sy4.trans tt4
      have et4 := (et3.same (rs_same ((tx4.trans ty4).trans tt4))).app (.cons ct4 .nil)
      generalize upd Ky4 pt4 (.tup [V.ref px4, V.ref py4]) = Kt4 at tt4 ct4 St4 et4
      clear ct4 cx4 cy4
      walk_at "go"
      refine ⟨(show 1 ≤ sizeLine by decide), fun px5 npx5 => ?_⟩
      have tx5 := same_upd (o := .lst [V.int 2]) npx5
      have cx5 := dt_new (S := []) Has.nil npx5 (DtA.ints ([2] : List Int))
      have Sx5 := St4.trans tx5
      change Dt (rs [] (upd Kt4 px5 (.lst [V.int 2]))) _ (rowD [2]) at cx5
      generalize upd Kt4 px5 (.lst [V.int 2]) = Kx5 at tx5 cx5 Sx5
      walk_at "go"
      refine ⟨(show 2 ≤ sizeLine by decide), fun py5 npy5 => ?_⟩
      have ty5 := same_upd (o := .lst [V.int 1, V.int 0]) npy5
      have cy5 := dt_new (S := []) Has.nil npy5 (DtA.ints ([1, 0] : List Int))
      have Sy5 := Sx5.trans ty5
      change Dt (rs [] (upd Kx5 py5 (.lst [V.int 1, V.int 0]))) _ (rowD [1, 0]) at cy5
      generalize upd Kx5 py5 (.lst [V.int 1, V.int 0]) = Ky5 at ty5 cy5 Sy5
      walk_at "go"
      refine ⟨(show 2 ≤ sizeLine by decide), fun pt5 npt5 => ?_⟩
      have tt5 := same_upd (o := .tup [V.ref px5, V.ref py5]) npt5
      have ct5 := dt_newT (S := []) Has.nil npt5 (.cons (cx5.same (rs_same ty5)) (.cons cy5 .nil))
      have St5 := Sy5.trans tt5
      have et5 := (et4.same (rs_same ((tx5.trans ty5).trans tt5))).app (.cons ct5 .nil)
      generalize upd Ky5 pt5 (.tup [V.ref px5, V.ref py5]) = Kt5 at tt5 ct5 St5 et5
      clear ct5 cx5 cy5
      walk_at "go"
      refine ⟨(show 6 ≤ sizeLine by decide), fun pl npl => ?_⟩
      have tl := same_upd (o := .lst [V.ref pt0, V.ref pt1, V.ref pt2, V.ref pt3, V.ref pt4, V.ref pt5]) npl
      have dl := dt_new (S := []) Has.nil npl et5
      change Dt (rs [] (upd Kt5 pl (.lst [V.ref pt0, V.ref pt1, V.ref pt2, V.ref pt3, V.ref pt4, V.ref pt5]))) _ (.list (PA.map prD)) at dl
      have Sl := St5.trans tl
      generalize upd Kt5 pl (.lst [V.ref pt0, V.ref pt1, V.ref pt2, V.ref pt3, V.ref pt4, V.ref pt5]) = HL at tl dl Sl
      rw [rs_nil] at dl
      obtain ⟨_, xs, e12, h12, hx⟩ := dl.listE
      cases e12
      have hxl := hx.len
      rw [List.length_map] at hxl
      refine ⟨pl, rfl, ⟨_, .inl (.inl h12)⟩, for_list (K := K) (a := pl) (xs := xs) (fun i σ H12 => ∃ (v7 v8 : Option V), σ = [some (.ref a), some (.ref g), some (.ref f), some (.ref kp), v4, some (.ref t), v6, v7, v8] ∧ Same HL H12) ⟨none, none, rfl, Same.refl _⟩ (fun i σ H12 _ ⟨_, _, _, s⟩ => .inl (.inl (s _ _ h12))) ?_ ?_⟩
      · rintro i x σ H12 hxi ⟨v7, v8, rfl, s12⟩
        obtain ⟨dx, hdx, hxd⟩ := hx.got hxi
        rw [List.getElem?_map] at hdx
        obtain ⟨pr, hpr, rfl⟩ := Option.map_eq_some_iff.mp hdx
        obtain ⟨o1, o2, o3, o4⟩ := PA_ok pr (List.mem_of_getElem? hpr)
        obtain ⟨tp, ys, rfl, htp, hys⟩ := (show Dt HL x (.tuple [rowD pr.1, rowD pr.2]) from hxd).tupE
        cases hys with
        | cons da hr =>
          cases hr with
          | cons db hr =>
            cases hr
            obtain ⟨pa, rfl, ha⟩ := da.intsE
            obtain ⟨pb, rfl, hb⟩ := db.intsE
            refine ⟨tp, _, rfl, .inl (.inl (s12 _ _ htp)), rfl, _, _, rfl, _, _, rfl, rfl, ?_⟩
            walk_at "go"
            refine ⟨pa, pb, pr.1, pr.2, rfl, ⟨.inl (s12 _ _ ha), o1, by omega⟩, ⟨.inl (s12 _ _ hb), o2, by omega⟩, fun H13 s13 => ?_⟩
            walk_at "go"
            exact s12.trans s13
      · rintro σ H12 ⟨v7, v8, rfl, s12⟩
        have s1112 := Sl.trans s12
        walk_at "go"
        refine ⟨g, _, rfl, g11.same s1112, by omega, fun H13 b13 g13 => ?_⟩
        walk_at "go"
        refine ⟨g, _, rfl, g13, by omega, fun H14 b14 g14 => ?_⟩
        have hf14 := b14 _ _ nfg (b13 _ _ nfg (s1112 _ _ hf11))
        have hk14 := b14 _ _ nkg (b13 _ _ nkg (s1112 _ _ hk11))
        walk_at "go"
        refine eq_lst (ns := fs) (.inl (.inl hf14)) (.inl (.inl hk14)) ?_
        walk_at "go"
        refine ⟨Nat.zero_le _, fun pe npe => ?_⟩
        obtain ⟨H15, e15, s15, h15⟩ := fresh (.lst (([] : List Int).map V.int)) npe
        have e15' : upd H14 pe (.lst []) = H15 := e15
        rw [e15']
        walk_at "go"
        refine ⟨pe, [], rfl, ⟨.inl h15, (fun k hk => nomatch hk), by decide⟩, by decide, fun H16 s16 => ?_⟩
        rw [show likeF ([] : List Int).length (counts []) = 1 from rfl]
        walk_at "go"
        refine ⟨Nat.zero_le _, fun pf npf => ?_⟩
        obtain ⟨H17, e17, s17, h17⟩ := fresh (.lst (([] : List Int).map V.int)) npf
        have e17' : upd H16 pf (.lst []) = H17 := e17
        rw [e17']
        walk_at "go"
        refine ⟨0, pf, [], rfl, h17, (fun k hk => nomatch hk), by decide, by decide, fun H18 ph s18 nph h18 => ?_⟩
        rw [show rowC 0 [] = [] from rfl] at h18
        refine ⟨Nat.zero_le _, fun pi npi => ?_⟩
        refine eq_lst (ns := []) (.inl (.inl (same_upd npi _ _ h18))) (.inl (.inl upd_same)) ?_
        exact q _
end
end My

open PySem PySem.W PySem.Calls PyProof.Rows
set_option maxRecDepth 100000 in
set_option maxHeartbeats 0 in
theorem PySem.Challenge.cw_wholesound_k40_prices_by_bits_holds : PySem.Challenge.rw_wholesound_k40_prices_by_bits.Holds := by
  w_on; o_law
  refine HandSHeadRun.head_any (r := OpenLaw.row PySem.Challenge.rw_wholesound_k40_prices_by_bits) (q := view (OpenLaw.row PySem.Challenge.rw_wholesound_k40_prices_by_bits).prog [38]) (H := My.hk) (ob := My.ob) (M := 8000) (loose := My.loose) (d := HandSHeadRun.topDef (OpenLaw.row PySem.Challenge.rw_wholesound_k40_prices_by_bits).prog 38) (kwd := []) My.ob_eq
    (by kernel_rfl) (fun s => by kernel_rfl) My.run (by kernel_rfl) (by kernel_rfl) (by kernel_rfl) (by rfl) (by first | assumption | decide +kernel) (by decide +kernel) ⟨rfl, rfl, rfl, rfl, rfl, by decide +kernel⟩ ?hw ?hc
  case hw => w_witness2
  case hc =>
    refine My.end_g (l := PySem.Challenge.rw_wholesound_k40_prices_by_bits) (n := 63) (k := 6) (x := "_law_script") rfl (by decide) (by kernel_rfl) ⟨rfl, by decide, by decide⟩ ?F
    intro w mg fa h Y G hmg0
    obtain ⟨K, KX, c⟩ := Y
    have hmg : mg ("law" : PySem.Str) = some (.ref fa) := by
      have e : (HandSHeadRun.topDef (OpenLaw.row PySem.Challenge.rw_wholesound_k40_prices_by_bits).prog 38).name = ("law" : PySem.Str) := by kernel_rfl
      rw [← e]
      exact hmg0
    have T : My.Top K mg := My.top_mk KX G c
    have e := hmg.symm.trans T.g_law
    cases e
    have b := L2.FunD.bindsA (ps := ["_law_script"]) T.F_law fun _ _ _ _ _ _ us hl => match us, hl with | [_], _ => rfl
    exact ⟨K, T.fd_law, My.sp_law K, KX, fun s v => b s [v] rfl, fun H a ns hl hS => ⟨a, ns, rfl, hS, hl, fun _ => rfl⟩, fun base _ _ => My.G_law T⟩


